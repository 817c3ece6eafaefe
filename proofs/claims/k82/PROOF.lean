import PyProof.Rows.All
import Wide.All
import OpenK.AllK
import Wide.FinOn
import KE.KStateDown
import Lean
import PyProof.P3Statements
import PyProof.ReprReads
import HandS.ForMost
import HandS.ForExc
import HandS.TupAny
import HandS.Wide
import HandS.Deep
import HandS.SortInts
import KE.DataEq
import HandS.SortRule
import HandS.IsInst
import HandS.Flow
import HandS.Strs
import HandS.CallRecv
import HandS.SetFor
import HandS.Ends
import HandS.HeadHook2
import HandS.HeadEnd
import HandS.Head2
import PyProof.ReprBulk
import PySem.Challenge.RW_gatewarden_k82_journals_told
set_option Elab.async false
section S_GEv
set_option linter.all false
/-! GEv: a small language (values, expressions, statements) and what it does, as plain functions. -/
namespace G
open PySem

/-- values: data (lists are never written once they are data), addresses of cells, exceptions -/
inductive D where
  | non | bl (b : Bool) | int (i : Int) | str (s : List Nat) | tup (xs : List D) | lst (xs : List D) | loc (n : Nat) | exc (c : Nat) (x : D)
  deriving Inhabited

mutual
/-- Python's == on data -/
def D.eqv : D → D → Bool
  | .non, .non => true
  | .bl a, .bl b => a == b
  | .bl a, .int j => (if a then 1 else 0) == j
  | .int i, .bl b => i == (if b then 1 else 0)
  | .int i, .int j => i == j
  | .str x, .str y => x == y
  | .lst xs, .lst ys => D.eqvL xs ys
  | .tup xs, .tup ys => D.eqvL xs ys
  | _, _ => false
def D.eqvL : List D → List D → Bool
  | [], [] => true
  | x :: xs, y :: ys => D.eqv x y && D.eqvL xs ys
  | [], _ :: _ => false
  | _ :: _, [] => false
end
mutual
def D.dep : D → Nat
  | .lst xs => D.depL xs + 1
  | .tup xs => D.depL xs + 1
  | _ => 0
def D.depL : List D → Nat
  | [] => 0
  | x :: xs => max (D.dep x) (D.depL xs)
end
-- as the library's data
mutual
def D.py : D → PyData
  | .non => .none
  | .bl b => .bool b
  | .int i => .int i
  | .str s => .str ⟨s.toArray⟩
  | .tup xs => .tuple (D.pyL xs)
  | .lst xs => .list (D.pyL xs)
  | .loc _ => .none
  | .exc _ _ => .none
def D.pyL : List D → List PyData
  | [] => []
  | x :: xs => D.py x :: D.pyL xs
end
/-- no address, no exception at the top -/
def D.pur : D → Bool
  | .loc _ => false
  | .exc _ _ => false
  | _ => true

inductive Cell where
  | lst (xs : List D)
  | dead
  deriving Inhabited

inductive Sl where
  | nil | v (d : D) | own (xs : List D)
  deriving Inhabited

inductive Rs (α : Type) where
  | ok (a : α) (S : List Cell)
  | exc (c : Nat) (x : D) (S : List Cell)
  | stk

def Rs.bind {α β : Type} : Rs α → (α → List Cell → Rs β) → Rs β
  | .ok a S, f => f a S
  | .exc c x S, _ => .exc c x S
  | .stk, _ => .stk
def Rs.of {α : Type} (S : List Cell) : Option α → Rs α
  | some a => .ok a S
  | none => .stk

inductive Op2 where | add | sub | mul | fdiv | mod
  deriving DecidableEq
inductive Cm where | eq | ne | lt | le | gt | ge | isin | notin | isn | isnot
  deriving DecidableEq
inductive Ty where | int | bool | str | tup | lst
  deriving DecidableEq
inductive Bf where | len | int | str | list | tuple | all | any | sum | max2 | min2 | abs | sorted | isa (t : Ty) | repr | lenset | sortset
  deriving DecidableEq
inductive Mf where | index | join | split
  deriving DecidableEq

/-- targets -/
inductive Tg where
  | s (i : Nat)
  | t (ts : List Tg)
  deriving Inhabited

mutual
/-- expressions -/
inductive E where
  | k (d : D) | v (i : Nat) | b (i : Nat) | g (n : Nat)
  | tup (es : List E) | lst (es : List E) | mk (es : List E)
  | bin (o : Op2) (a b : E) | neg (a : E) | cmp (o : Cm) (a b : E) | chn (o o' : Cm) (a b c : E)
  | and (es : List E) | or (es : List E) | not (a : B) | ite (c : B) (a b : E)
  | ix (a i : E) | sl (a : E) (lo hi : Option E)
  | cal (f : Nat) (es : List E) | ixc (f : Nat) (e : E) | blt (f : Bf) (es : List E) | mth (m : Mf) (o : E) (es : List E)
  | comp (tg : Tg) (it : I) (elt : E) (cond : List B)
/-- tests -/
inductive B where
  | tr (e : E) | and (bs : List B) | or (bs : List B) | not (b : B)
/-- what a for walks -/
inductive I where
  | e (e : E) | rng (es : List E)
end
instance : Inhabited E := ⟨.v 0⟩
instance : Inhabited B := ⟨.tr (.v 0)⟩
instance : Inhabited I := ⟨.rng []⟩

inductive T where
  | set (i : Nat) (e : E) | setO (i : Nat) (e : E) | unp (tg : Tg) (e : E) | frz (i : Nat)
  | app (o e : E) | ext (o e : E) | sub (o i e : E) | aug (i : Nat) (o : Op2) (e : E)
  | exp (e : E) | ife (c : B) (a b : List T) | for_ (tg : Tg) (it : I) (b : List T) | whl (c : B) (b : List T)
  | ret (e : E) | ret0 | cnt | brk | pas
  deriving Inhabited

structure Cx where
  call : Nat → List D → List Cell → Rs D
  glob : Nat → Option D
  wf : Nat
  cst : Nat → Option (List (List Nat))

/-! ### values -/
def lim : Nat := 16777216
def ixN (n : Nat) (i : Int) : Option Nat := if 0 ≤ i then (if i < n then some i.toNat else none) else if -(n : Int) ≤ i then some (i + n).toNat else none
def atI {α : Type} (xs : List α) (i : Int) : Option α := (ixN xs.length i).bind fun j => xs[j]?
def sIx (n d : Nat) : Option Int → Nat
  | none => d
  | some v => if v < 0 then (v + n).toNat else min v.toNat n
def cut {α : Type} (xs : List α) (lo hi : Option Int) : List α := (xs.drop (sIx xs.length 0 lo)).take (sIx xs.length xs.length hi - sIx xs.length 0 lo)

def dr (S : List Cell) : D → D
  | .loc n => match S[n]? with
    | some (.lst xs) => .lst xs
    | _ => .loc n
  | d => d

def pIx : D → D → Option D
  | .lst xs, .int i => atI xs i
  | .tup xs, .int i => atI xs i
  | .str s, .int i => (atI s i).map fun c => .str [c]
  | _, _ => none
def pSl : D → Option Int → Option Int → Option D
  | .lst xs, lo, hi => some (.lst (cut xs lo hi))
  | .tup xs, lo, hi => some (.tup (cut xs lo hi))
  | .str s, lo, hi => some (.str (cut s lo hi))
  | _, _, _ => none
def smallI (i : Int) : Bool := decide (-(2 ^ 64) < i) && decide (i < 2 ^ 64)
def pBin : Op2 → D → D → Option D
  | .add, .int i, .int j => some (.int (i + j))
  | .add, .str x, .str y => if x.length + y.length ≤ lim then some (.str (x ++ y)) else none
  | .add, .tup x, .tup y => if x.length + y.length ≤ lim then some (.tup (x ++ y)) else none
  | .add, .lst x, .lst y => if x.length + y.length ≤ lim then some (.lst (x ++ y)) else none
  | .sub, .int i, .int j => some (.int (i - j))
  | .mul, .int i, .int j => if smallI i || smallI j then some (.int (i * j)) else none
  | .fdiv, .int i, .int j => if 0 < j ∧ j.natAbs < 2 ^ 63 then some (.int (i / j)) else none
  | .mod, .int i, .int j => if 0 < j then some (.int (i % j)) else none
  | _, _, _ => none
def D.eqOk (a b : D) : Bool := a.pur && b.pur && (decide (a.dep ≤ 60) || decide (b.dep ≤ 60))
def pIn (a b : D) : Option Bool := match b with
  | .str y => match a with
    | .str [c] => some (y.contains c)
    | _ => none
  | .lst ys => if a.pur && (decide (a.dep ≤ 60) || decide (D.depL ys ≤ 60)) then some (ys.any fun y => D.eqv y a) else none
  | .tup ys => if a.pur && (decide (a.dep ≤ 60) || decide (D.depL ys ≤ 60)) then some (ys.any fun y => D.eqv y a) else none
  | _ => none
def D.flat : D → Bool
  | .non => true
  | .bl _ => true
  | .int _ => true
  | .str _ => true
  | _ => false
def D.isNon : D → Bool
  | .non => true
  | _ => false
def pCmp : Cm → D → D → Option Bool
  | .eq, a, b => if D.eqOk a b then some (D.eqv a b) else none
  | .ne, a, b => if D.eqOk a b then some (!D.eqv a b) else none
  | .lt, .int i, .int j => some (decide (i < j))
  | .le, .int i, .int j => some (decide (i ≤ j))
  | .gt, .int i, .int j => some (decide (j < i))
  | .ge, .int i, .int j => some (decide (j ≤ i))
  | .isin, a, b => pIn a b
  | .notin, a, b => (pIn a b).map (!·)
  | .isn, a, .non => some a.isNon
  | .isnot, a, .non => some (!a.isNon)
  | _, _, _ => none
def truthy : D → Option Bool
  | .non => some false
  | .bl b => some b
  | .int i => some (i != 0)
  | .str s => some (!s.isEmpty)
  | .lst xs => some (!xs.isEmpty)
  | .tup xs => some (!xs.isEmpty)
  | _ => none
def isT : Ty → D → Option Bool
  | _, .loc _ => none
  | _, .exc _ _ => none
  | .int, .int _ => some true
  | .int, .bl _ => some true
  | .bool, .bl _ => some true
  | .str, .str _ => some true
  | .tup, .tup _ => some true
  | .lst, .lst _ => some true
  | _, _ => some false
def asInts : List D → Option (List Int)
  | [] => some []
  | .int i :: r => (asInts r).map (i :: ·)
  | _ :: _ => none
def asBls : List D → Option (List Bool)
  | [] => some []
  | .bl i :: r => (asBls r).map (i :: ·)
  | _ :: _ => none
def asStrs : List D → Option (List (List Nat))
  | [] => some []
  | .str i :: r => (asStrs r).map (i :: ·)
  | _ :: _ => none
def asPairs : List D → Option (List (Int × Int))
  | [] => some []
  | .tup [.int i, .int j] :: r => (asPairs r).map ((i, j) :: ·)
  | _ :: _ => none
def insB {α : Type} (le : α → α → Bool) (x : α) : List α → List α
  | [] => [x]
  | y :: r => if le x y then x :: y :: r else y :: insB le x r
def srtB {α : Type} (le : α → α → Bool) (xs : List α) : List α := xs.foldr (insB le) []
def leI (a b : Int) : Bool := decide (a ≤ b)
def srtI (xs : List Int) : List Int := srtB leI xs
def leP (a b : Int × Int) : Bool := decide (a.1 < b.1) || (decide (a.1 = b.1) && decide (a.2 ≤ b.2))
def srtP (xs : List (Int × Int)) : List (Int × Int) := srtB leP xs
def ddup {α : Type} [DecidableEq α] : List α → List α
  | [] => []
  | x :: r => if x ∈ ddup r then ddup r else x :: ddup r
def setLim : Nat := 1000
def pB : Bf → List D → Option D
  | .len, [.str s] => some (.int s.length)
  | .len, [.lst s] => some (.int s.length)
  | .len, [.tup s] => some (.int s.length)
  | .int, [.int i] => some (.int i)
  | .int, [.bl b] => some (.int (if b then 1 else 0))
  | .list, [.lst xs] => some (.lst xs)
  | .list, [.tup xs] => some (.lst xs)
  | .tuple, [.lst xs] => some (.tup xs)
  | .tuple, [.tup xs] => some (.tup xs)
  | .all, [.lst xs] => (asBls xs).map fun bs => .bl (bs.all id)
  | .any, [.lst xs] => (asBls xs).map fun bs => .bl (bs.any id)
  | .sum, [.lst xs] => (asInts xs).map fun ns => .int ns.sum
  | .max2, [.int i, .int j] => some (.int (if j > i then j else i))
  | .min2, [.int i, .int j] => some (.int (if j < i then j else i))
  | .abs, [.int i] => some (.int (if i < 0 then -i else i))
  | .isa t, [d] => (isT t d).map .bl
  | .lenset, [.lst xs] => if xs.length ≤ setLim then match asStrs xs with
      | some ss => some (.int (ddup ss).length)
      | none => (asInts xs).map fun ns => .int (ddup ns).length
    else none
  | .sortset, [.lst xs] => if xs.length ≤ setLim then (asInts xs).map fun ns => .lst ((srtI (ddup ns)).map .int) else none
  | .sorted, [.lst xs] => if xs.length ≤ lim then match asPairs xs with
      | some ps => some (.lst ((srtP ps).map fun p => .tup [.int p.1, .int p.2]))
      | none => (asInts xs).map fun ns => .lst ((srtI ns).map .int)
    else none
  | .repr, [d] => if d.pur && d.py.showable && decide (d.dep ≤ 60) && decide (d.py.shown.length ≤ lim) then some (.str d.py.shown.cps.toList) else none
  | _, _ => none
def placeOf (s : List Nat) (xs : List D) : Option D := (asStrs xs).bind fun ss => if s ∈ ss then some (.int (ss.idxOf s)) else none
def placeC (ss : List (List Nat)) : D → Option D
  | .str s => if s ∈ ss then some (.int (ss.idxOf s)) else none
  | _ => none
def recvOk : Mf → D → Bool
  | .index, .lst _ => true
  | .join, .str _ => true
  | .split, .str _ => true
  | _, _ => false
def pM : Mf → D → List D → Option D
  | .index, .lst xs, [.str s] => placeOf s xs
  | _, _, _ => none
def upto (i : Int) : Nat → List D
  | 0 => []
  | n + 1 => .int i :: upto (i + 1) n
def rngOk (i : Int) : Bool := decide (-(2 ^ 62) ≤ i) && decide (i < 2 ^ 62)
def pRng : List D → Option (List D)
  | [.int j] => if rngOk j then some (upto 0 j.toNat) else none
  | [.int i, .int j] => if rngOk i && rngOk j then some (upto i (j - i).toNat) else none
  | _ => none
/-- what a for walks -/
def items : D → Option (List D)
  | .lst xs => some xs
  | .tup xs => some xs
  | .str s => some (s.map fun c => .str [c])
  | _ => none

mutual
def tgSet : Tg → D → List Sl → Option (List Sl)
  | .s i, d, sl => some (sl.set i (.v d))
  | .t ts, .tup ds, sl => tgSetL ts ds sl
  | .t _, _, _ => none
def tgSetL : List Tg → List D → List Sl → Option (List Sl)
  | [], [], sl => some sl
  | t :: ts, d :: ds, sl => (tgSet t d sl).bind fun sl => tgSetL ts ds sl
  | _, _, _ => none
end

/-! ### expressions -/
def compL (f : D → List Cell → Rs (Option D)) : List D → List Cell → List D → Rs (List D)
  | [], S, acc => .ok acc S
  | d :: ds, S, acc => match f d S with
    | .ok none S => compL f ds S acc
    | .ok (some y) S => if acc.length < lim then compL f ds S (acc ++ [y]) else .stk
    | _ => .stk

mutual
def evE (C : Cx) : E → List Sl → List Cell → Rs D
  | .k d, _, S => .ok d S
  | .v i, sl, S => match sl[i]? with
    | some (.v d) => .ok d S
    | _ => .stk
  | .b i, sl, S => match sl[i]? with
    | some (.v d) => .ok d S
    | some (.own xs) => .ok (.lst xs) S
    | _ => .stk
  | .g n, _, S => .of S (C.glob n)
  | .tup es, sl, S => (evL C es sl S).bind fun ds S => if ds.all D.pur then .ok (.tup ds) S else .stk
  | .lst es, sl, S => (evL C es sl S).bind fun ds S => if ds.all D.pur then .ok (.lst ds) S else .stk
  | .mk es, sl, S => (evL C es sl S).bind fun ds S => if ds.all D.pur then .ok (.loc S.length) (S ++ [.lst ds]) else .stk
  | .bin o a b, sl, S => (evE C a sl S).bind fun x S => (evE C b sl S).bind fun y S => .of S (pBin o (dr S x) (dr S y))
  | .neg a, sl, S => (evE C a sl S).bind fun x S => match x with
    | .int i => .ok (.int (-i)) S
    | _ => .stk
  | .cmp o a b, sl, S => (evE C a sl S).bind fun x S => (evE C b sl S).bind fun y S => .of S ((pCmp o (dr S x) (dr S y)).map .bl)
  | .chn o o' a b c, sl, S => (evE C a sl S).bind fun x S => (evE C b sl S).bind fun y S => match pCmp o (dr S x) (dr S y) with
    | some true => (evE C c sl S).bind fun z S => .of S ((pCmp o' (dr S y) (dr S z)).map .bl)
    | some false => .ok (.bl false) S
    | none => .stk
  | .and es, sl, S => evAnd C es sl S
  | .or es, sl, S => evOr C es sl S
  | .not a, sl, S => (evT C a sl S).bind fun b S => .ok (.bl (!b)) S
  | .ite c a b, sl, S => (evT C c sl S).bind fun t S => if t then evE C a sl S else evE C b sl S
  | .ix a i, sl, S => (evE C a sl S).bind fun x S => (evE C i sl S).bind fun y S => .of S (pIx (dr S x) y)
  | .sl a lo hi, sl, S => (evE C a sl S).bind fun x S => (evO C lo sl S).bind fun l S => (evO C hi sl S).bind fun h S => .of S (pSl (dr S x) l h)
  | .cal f es, sl, S => (evL C es sl S).bind fun ds S => C.call f ds S
  | .blt f es, sl, S => (evL C es sl S).bind fun ds S => .of S (pB f (ds.map (dr S)))
  | .ixc f e, sl, S => match C.cst f with
    | some ss => (evE C e sl S).bind fun y S => .of S (placeC ss y)
    | none => .stk
  | .mth m o es, sl, S => (evE C o sl S).bind fun x S => if recvOk m x then (evL C es sl S).bind fun ds S => .of S (pM m x ds) else .stk
  | .comp tg it elt cond, sl, S => (evI C it sl S).bind fun ds S =>
    (compL (fun d S => match tgSet tg d sl with
      | none => .stk
      | some sl' => (evCs C cond sl' S).bind fun t S => if t then (evE C elt sl' S).bind fun y S => if y.pur then .ok (some y) S else .stk else .ok none S) ds S []).bind fun ys S => .ok (.lst ys) S
/-- the truth of an expression -/
def evT (C : Cx) : B → List Sl → List Cell → Rs Bool
  | .tr e, sl, S => (evE C e sl S).bind fun d S => .of S (truthy (dr S d))
  | .and es, sl, S => evAndT C es sl S
  | .or es, sl, S => evOrT C es sl S
  | .not a, sl, S => (evT C a sl S).bind fun b S => .ok (!b) S
def evAnd (C : Cx) : List E → List Sl → List Cell → Rs D
  | [], _, _ => .stk
  | e :: es, sl, S => (evE C e sl S).bind fun d S => match es with
    | [] => .ok d S
    | _ :: _ => match truthy (dr S d) with
      | some true => evAnd C es sl S
      | some false => .ok d S
      | none => .stk
def evOr (C : Cx) : List E → List Sl → List Cell → Rs D
  | [], _, _ => .stk
  | e :: es, sl, S => (evE C e sl S).bind fun d S => match es with
    | [] => .ok d S
    | _ :: _ => match truthy (dr S d) with
      | some false => evOr C es sl S
      | some true => .ok d S
      | none => .stk
def evAndT (C : Cx) : List B → List Sl → List Cell → Rs Bool
  | [], _, S => .ok true S
  | e :: es, sl, S => (evT C e sl S).bind fun b S => if b then evAndT C es sl S else .ok false S
def evOrT (C : Cx) : List B → List Sl → List Cell → Rs Bool
  | [], _, S => .ok false S
  | e :: es, sl, S => (evT C e sl S).bind fun b S => if b then .ok true S else evOrT C es sl S
def evCs (C : Cx) : List B → List Sl → List Cell → Rs Bool
  | [], _, S => .ok true S
  | e :: _, sl, S => evT C e sl S
def evL (C : Cx) : List E → List Sl → List Cell → Rs (List D)
  | [], _, S => .ok [] S
  | e :: es, sl, S => (evE C e sl S).bind fun d S => (evL C es sl S).bind fun ds S => .ok (d :: ds) S
def evO (C : Cx) : Option E → List Sl → List Cell → Rs (Option Int)
  | none, _, S => .ok none S
  | some e, sl, S => (evE C e sl S).bind fun d S => match d with
    | .int i => .ok (some i) S
    | _ => .stk
/-- the items of what a for or a comprehension walks -/
def evI (C : Cx) : I → List Sl → List Cell → Rs (List D)
  | .rng es, sl, S => (evL C es sl S).bind fun ds S => .of S (pRng ds)
  | .e e, sl, S => (evE C e sl S).bind fun d S => .of S (items d)
end

/-! ### statements -/
inductive Fl where
  | nx (sl : List Sl) (S : List Cell)
  | ret (d : D) (S : List Cell)
  | brk (sl : List Sl) (S : List Cell)
  | cnt (sl : List Sl) (S : List Cell)
  | exc (c : Nat) (x : D) (sl : List Sl) (S : List Cell)
  | stk
def Rs.fl {α : Type} (sl : List Sl) : Rs α → (α → List Cell → Fl) → Fl
  | .ok a S, f => f a S
  | .exc c x S, _ => .exc c x sl S
  | .stk, _ => .stk
def forL (f : D → List Sl → List Cell → Fl) : List D → List Sl → List Cell → Fl
  | [], sl, S => .nx sl S
  | d :: ds, sl, S => match f d sl S with
    | .nx sl S => forL f ds sl S
    | .cnt sl S => forL f ds sl S
    | .brk sl S => .nx sl S
    | .ret d S => .ret d S
    | .exc c x sl S => .exc c x sl S
    | .stk => .stk
def whlL (c : List Sl → List Cell → Rs Bool) (f : List Sl → List Cell → Fl) : Nat → List Sl → List Cell → Fl
  | 0, _, _ => .stk
  | n + 1, sl, S => (c sl S).fl sl fun b S => if b then match f sl S with
    | .nx sl S => whlL c f n sl S
    | .cnt sl S => whlL c f n sl S
    | .brk sl S => .nx sl S
    | .ret d S => .ret d S
    | .exc c x sl S => .exc c x sl S
    | .stk => .stk
    else .nx sl S
def pAug : Op2 → D → D → Option D
  | .add, .int i, .int j => some (.int (i + j))
  | .sub, .int i, .int j => some (.int (i - j))
  | .mul, .int i, .int j => if smallI i || smallI j then some (.int (i * j)) else none
  | _, _, _ => none
/-- a list stands there -/
def lstAt (o : E) (sl : List Sl) (S : List Cell) : Bool := match o with
  | .b i => match sl[i]? with
    | some (.own _) => true
    | some (.v (.loc n)) => match S[n]? with
      | some (.lst _) => true
      | _ => false
    | _ => false
  | _ => false
/-- a list cell or an own list, changed -/
def chg (o : E) (f : List D → Option (List D)) (C : Cx) (sl : List Sl) (S : List Cell) : Fl := match o with
  | .b i => match sl[i]? with
    | some (.own xs) => match f xs with
      | some ys => .nx (sl.set i (.own ys)) S
      | none => .stk
    | some (.v (.loc n)) => match S[n]? with
      | some (.lst xs) => match f xs with
        | some ys => .nx sl (S.set n (.lst ys))
        | none => .stk
      | _ => .stk
    | _ => .stk
  | _ => .stk
mutual
def evS (C : Cx) : T → List Sl → List Cell → Fl
  | .set i e, sl, S => (evE C e sl S).fl sl fun d S => .nx (sl.set i (.v d)) S
  | .setO i e, sl, S => (evE C e sl S).fl sl fun d S => match d with
    | .lst xs => .nx (sl.set i (.own xs)) S
    | _ => .stk
  | .unp tg e, sl, S => (evE C e sl S).fl sl fun d S => match tgSet tg d sl with
    | some sl => .nx sl S
    | none => .stk
  | .frz i, sl, S => match sl[i]? with
    | some (.own xs) => .nx (sl.set i (.v (.lst xs))) S
    | some (.v _) => .nx sl S
    | _ => .stk
  | .app o e, sl, S => if lstAt o sl S then (evE C e sl S).fl sl fun d S => if d.pur then chg o (fun xs => if xs.length < lim then some (xs ++ [d]) else none) C sl S else .stk else .stk
  | .ext o e, sl, S => if lstAt o sl S then (evE C e sl S).fl sl fun d S => match d with
    | .lst ys => chg o (fun xs => if xs.length + ys.length ≤ lim then some (xs ++ ys) else none) C sl S
    | _ => .stk
    else .stk
  | .sub o i e, sl, S => (evE C e sl S).fl sl fun d S => if lstAt o sl S then (evE C i sl S).fl sl fun j S => match j with
    | .int j => if d.pur then chg o (fun xs => (ixN xs.length j).map fun k => xs.set k d) C sl S else .stk
    | _ => .stk
    else .stk
  | .aug i o e, sl, S => match sl[i]? with
    | some (.v x) => (evE C e sl S).fl sl fun y S => match pAug o x y with
      | some z => .nx (sl.set i (.v z)) S
      | none => .stk
    | _ => .stk
  | .exp e, sl, S => (evE C e sl S).fl sl fun _ S => .nx sl S
  | .ife c a b, sl, S => (evT C c sl S).fl sl fun t S => if t then evB C a sl S else evB C b sl S
  | .for_ tg it b, sl, S => (evI C it sl S).fl sl fun ds S => forL (fun d sl S => match tgSet tg d sl with
    | some sl => evB C b sl S
    | none => .stk) ds sl S
  | .whl c b, sl, S => whlL (fun sl S => evT C c sl S) (fun sl S => evB C b sl S) C.wf sl S
  | .ret e, sl, S => (evE C e sl S).fl sl fun d S => .ret d S
  | .ret0, _, S => .ret .non S
  | .cnt, sl, S => .cnt sl S
  | .brk, sl, S => .brk sl S
  | .pas, sl, S => .nx sl S
def evB (C : Cx) : List T → List Sl → List Cell → Fl
  | [], sl, S => .nx sl S
  | t :: ts, sl, S => match evS C t sl S with
    | .nx sl S => evB C ts sl S
    | .ret d S => .ret d S
    | .brk sl S => .brk sl S
    | .cnt sl S => .cnt sl S
    | .exc c x sl S => .exc c x sl S
    | .stk => .stk
end

/-! ### defs -/
structure Fn where
  arity : Nat
  slots : Nat
  body : List T
  deriving Inhabited
def slots0 (f : Fn) (ds : List D) : List Sl := ds.map Sl.v ++ List.replicate (f.slots - ds.length) .nil
def Fl.out : Fl → Rs D
  | .nx _ S => .ok .non S
  | .ret d S => .ok d S
  | .exc c x _ S => .exc c x S
  | _ => .stk
/-- the def f, called, with so much fuel -/
def evF (fns : Nat → Option Fn) (glob : Nat → Option D) (cst : Nat → Option (List (List Nat))) (wf : Nat) : Nat → Nat → List D → List Cell → Rs D
  | 0, _, _, _ => .stk
  | n + 1, f, ds, S => match fns f with
    | none => .stk
    | some fn => if ds.length = fn.arity then (evB ⟨evF fns glob cst wf n, glob, wf, if n = 0 then fun _ => none else cst⟩ fn.body (slots0 fn ds) S).out else .stk
end G
end S_GEv
section S_GRel
set_option linter.all false
set_option maxRecDepth 100000
/-! GRel: how values of the small language lie in the heap. -/
namespace G
open PySem PySem.Spec PyProof.Rows L2

abbrev Fg := PySem.W.Frag

mutual
inductive Rp (K : Fg) (F : Hp) (r : List Addr) : V → D → Prop
  | non : Rp K F r .non .non
  | bl (b : Bool) : Rp K F r (.bl b) (.bl b)
  | int (i : Int) : Rp K F r (.int i) (.int i)
  | str (s : List Nat) (h : s.length ≤ lim) : Rp K F r (.str ⟨s.toArray⟩) (.str s)
  | tup {a : Addr} {xs : List V} {ds : List D} (h : SqT K F a xs) (t : RpL K F r xs ds) : Rp K F r (.ref a) (.tup ds)
  | lst {a : Addr} {xs : List V} {ds : List D} (h : SqL K F a xs) (t : RpL K F r xs ds) : Rp K F r (.ref a) (.lst ds)
  | loc {n : Nat} {a : Addr} (h : r[n]? = some a) : Rp K F r (.ref a) (.loc n)
inductive RpL (K : Fg) (F : Hp) (r : List Addr) : List V → List D → Prop
  | nil : RpL K F r [] []
  | cons {v : V} {d : D} {xs : List V} {ds : List D} (h : Rp K F r v d) (p : d.pur = true) (t : RpL K F r xs ds) : RpL K F r (v :: xs) (d :: ds)
end

theorem SqL.up {K : Fg} {F F' : Hp} {a : Addr} {xs : List V} (e : ∀ b o, F b = some o → F' b = some o) (h : SqL K F a xs) : SqL K F' a xs := by
  rcases h with (h | ⟨o, h⟩) | h
  · exact .inl (.inl (e _ _ h))
  · exact .inl (.inr ⟨o, e _ _ h⟩)
  · exact .inr h
theorem SqT.up {K : Fg} {F F' : Hp} {a : Addr} {xs : List V} (e : ∀ b o, F b = some o → F' b = some o) (h : SqT K F a xs) : SqT K F' a xs := by
  rcases h with (h | ⟨o, h⟩) | h
  · exact .inl (.inl (e _ _ h))
  · exact .inl (.inr ⟨o, e _ _ h⟩)
  · exact .inr h

/-- what the addresses of the cells keep -/
def Pre (r r' : List Addr) : Prop := ∃ t, r' = r ++ t
theorem Pre.refl (r : List Addr) : Pre r r := ⟨[], by simp⟩
theorem Pre.at {r r' : List Addr} (p : Pre r r') {n : Nat} {a : Addr} (h : r[n]? = some a) : r'[n]? = some a := by
  obtain ⟨t, e⟩ := p
  obtain ⟨hl, _⟩ := List.getElem?_eq_some_iff.mp h
  rw [e, List.getElem?_append_left hl]
  exact h

section
variable {K : Fg} {F F' : Hp} {r r' : List Addr}
mutual
theorem Rp.up (e : ∀ b o, F b = some o → F' b = some o) (p : Pre r r') : ∀ {v : V} {d : D}, Rp K F r v d → Rp K F' r' v d
  | _, _, .non => .non
  | _, _, .bl b => .bl b
  | _, _, .int i => .int i
  | _, _, .str s h => .str s h
  | _, _, .tup h t => .tup (SqT.up e h) (RpL.up e p t)
  | _, _, .lst h t => .lst (SqL.up e h) (RpL.up e p t)
  | _, _, .loc h => .loc (p.at h)
theorem RpL.up (e : ∀ b o, F b = some o → F' b = some o) (p : Pre r r') : ∀ {xs : List V} {ds : List D}, RpL K F r xs ds → RpL K F' r' xs ds
  | _, _, .nil => .nil
  | _, _, .cons h q t => .cons (Rp.up e p h) q (RpL.up e p t)
end
theorem RpL.len : ∀ {xs : List V} {ds : List D}, RpL K F r xs ds → xs.length = ds.length
  | _, _, .nil => rfl
  | _, _, .cons _ _ t => congrArg (· + 1) (RpL.len t)
theorem RpL.get : ∀ {xs : List V} {ds : List D} {i : Nat} {d : D}, RpL K F r xs ds → ds[i]? = some d → ∃ v, xs[i]? = some v ∧ Rp K F r v d ∧ d.pur = true
  | _, _, i, _, .nil, h => by simp at h
  | _, _, 0, _, .cons q p t, h => by
    simp at h
    subst h
    exact ⟨_, rfl, q, p⟩
  | _, _, i + 1, _, .cons q p t, h => by
    obtain ⟨v, e, z⟩ := RpL.get (i := i) t (by simpa using h)
    exact ⟨v, by simpa using e, z⟩
theorem RpL.app : ∀ {xs ys : List V} {ds es : List D}, RpL K F r xs ds → RpL K F r ys es → RpL K F r (xs ++ ys) (ds ++ es)
  | _, _, _, _, .nil, s => s
  | _, _, _, _, .cons h p t, s => .cons h p (RpL.app t s)
theorem RpL.take : ∀ {xs : List V} {ds : List D} (n : Nat), RpL K F r xs ds → RpL K F r (xs.take n) (ds.take n)
  | _, _, 0, _ => by simp; exact .nil
  | _, _, n + 1, .nil => .nil
  | _, _, n + 1, .cons h p t => .cons h p (RpL.take n t)
theorem RpL.drop : ∀ {xs : List V} {ds : List D} (n : Nat), RpL K F r xs ds → RpL K F r (xs.drop n) (ds.drop n)
  | _, _, 0, h => h
  | _, _, n + 1, .nil => .nil
  | _, _, n + 1, .cons h p t => RpL.drop n t
theorem RpL.set {v : V} {d : D} (h : Rp K F r v d) (p : d.pur = true) : ∀ {xs : List V} {ds : List D} (n : Nat), RpL K F r xs ds → RpL K F r (xs.set n v) (ds.set n d)
  | _, _, _, .nil => .nil
  | _, _, 0, .cons _ _ t => .cons h p t
  | _, _, n + 1, .cons q q' t => .cons q q' (RpL.set h p n t)
theorem RpL.one {v : V} {d : D} (h : Rp K F r v d) (p : d.pur = true) : RpL K F r [v] [d] := .cons h p .nil
end

/-- a cell's object -/
def CellOk (K : Fg) (F H : Hp) (r : List Addr) (a : Addr) : Cell → Prop
  | .lst ds => ∃ xs, H a = some (.lst xs) ∧ RpL K F r xs ds
  | .dead => ∃ o, H a = some o
/-- F: what stays as it is; r: where the cells stand -/
structure Rel (K : Fg) (F H : Hp) (r : List Addr) (S : List Cell) : Prop where
  sub : ∀ a o, F a = some o → H a = some o
  len : r.length = S.length
  inj : ∀ (i j : Nat) (a : Addr), r[i]? = some a → r[j]? = some a → i = j
  nf : ∀ (i : Nat) (a : Addr), r[i]? = some a → F a = none
  cell : ∀ (i : Nat) (a : Addr) (c : Cell), r[i]? = some a → S[i]? = some c → CellOk K F H r a c
/-- the slots -/
structure SlOk (K : Fg) (F H : Hp) (r : List Addr) (σ : L2.St) (sl : List Sl) : Prop where
  len : sl.length = σ.length
  v : ∀ (i : Nat) (d : D), sl[i]? = some (.v d) → ∃ x : V, σ[i]? = some (some x) ∧ Rp K F r x d
  own : ∀ (i : Nat) (ds : List D), sl[i]? = some (.own ds) → ∃ (a : Addr) (xs : List V), σ[i]? = some (some (.ref a)) ∧ H a = some (.lst xs) ∧ F a = none ∧ a ∉ r ∧ RpL K F r xs ds
  ap : ∀ (i j : Nat) (ds es : List D) (a : Addr), sl[i]? = some (.own ds) → sl[j]? = some (.own es) → σ[i]? = some (some (.ref a)) → σ[j]? = some (some (.ref a)) → i = j
/-- what a step keeps -/
structure Ext (F H : Hp) (r : List Addr) (F' H' : Hp) (r' : List Addr) : Prop where
  f : ∀ a o, F a = some o → F' a = some o
  fn : ∀ a o, F' a = some o → F a = none → H a = none
  h : ∀ a o, H a = some o → a ∉ r → H' a = some o
  t : ∀ a o, H a = some o → ∃ o', H' a = some o'
  p : ∃ t, r' = r ++ t ∧ ∀ a ∈ t, H a = none

section
variable {K : Fg} {F F' F'' H H' H'' : Hp} {r r' r'' : List Addr} {S : List Cell} {σ : L2.St} {sl : List Sl}
theorem Ext.refl : Ext F H r F H r := by
  refine ⟨fun _ _ h => h, fun _ _ h n => ?_, fun _ _ h _ => h, fun _ o h => ⟨o, h⟩, [], by simp, fun a h => ?_⟩
  · rw [n] at h
    cases h
  · cases h
theorem Ext.pre (e : Ext F H r F' H' r') : Pre r r' := let ⟨t, h, _⟩ := e.p; ⟨t, h⟩
theorem Ext.free (e : Ext F H r F' H' r') {a : Addr} (h : H' a = none) : H a = none := by
  cases q : H a with
  | none => rfl
  | some o =>
    obtain ⟨o', z⟩ := e.t a o q
    rw [h] at z
    cases z
theorem Ext.trans (e : Ext F H r F' H' r') (e2 : Ext F' H' r' F'' H'' r'') : Ext F H r F'' H'' r'' := by
  obtain ⟨t, rt, nt⟩ := e.p
  obtain ⟨t2, rt2, nt2⟩ := e2.p
  refine ⟨fun a o h => e2.f a o (e.f a o h), fun a o h n => ?_, fun a o h n => ?_, fun a o h => ?_, t ++ t2, by rw [rt2, rt, List.append_assoc], fun a h => ?_⟩
  · cases q : F' a with
    | none => exact e.free (e2.fn a o h q)
    | some o' => exact e.fn a o' q n
  · refine e2.h a o (e.h a o h n) ?_
    rw [rt]
    intro z
    rcases List.mem_append.mp z with z | z
    · exact n z
    · rw [nt a z] at h
      cases h
  · obtain ⟨o', z⟩ := e.t a o h
    exact e2.t a o' z
  · rcases List.mem_append.mp h with z | z
    · exact nt a z
    · exact e.free (nt2 a z)
theorem mem_r {r : List Addr} {i : Nat} {a : Addr} (h : r[i]? = some a) : a ∈ r := List.mem_of_getElem? h
/-- an address of our own -/
structure Mine (F H : Hp) (r : List Addr) (a : Addr) (xs : List V) : Prop where
  h : H a = some (.lst xs)
  f : F a = none
  r : a ∉ r
theorem Mine.ext {a : Addr} {xs : List V} (m : Mine F H r a xs) (e : Ext F H r F' H' r') : Mine F' H' r' a xs := by
  refine ⟨e.h a _ m.h m.r, ?_, ?_⟩
  · cases q : F' a with
    | none => rfl
    | some o =>
      have z := e.fn a o q m.f
      rw [m.h] at z
      cases z
  · obtain ⟨t, rt, nt⟩ := e.p
    rw [rt]
    intro z
    rcases List.mem_append.mp z with z | z
    · exact m.r z
    · have q := nt a z
      rw [m.h] at q
      cases q
theorem SlOk.ext (s : SlOk K F H r σ sl) (e : Ext F H r F' H' r') : SlOk K F' H' r' σ sl := by
  refine ⟨s.len, fun i d h => ?_, fun i ds h => ?_, s.ap⟩
  · obtain ⟨x, h1, h2⟩ := s.v i d h
    exact ⟨x, h1, h2.up e.f e.pre⟩
  · obtain ⟨a, xs, h1, h2, h3, h4, h5⟩ := s.own i ds h
    have m := (Mine.mk h2 h3 h4).ext e
    exact ⟨a, xs, h1, m.h, m.f, m.r, h5.up e.f e.pre⟩
theorem Rel.sql (R : Rel K F H r S) {a : Addr} {xs : List V} (h : SqL K F a xs) : SqL K H a xs := SqL.up R.sub h
theorem Rel.sqt (R : Rel K F H r S) {a : Addr} {xs : List V} (h : SqT K F a xs) : SqT K H a xs := SqT.up R.sub h

/-- a new object that stays as it is -/
theorem Ext.new (R : Rel K F H r S) {p : Addr} {o : HO} (hp : H p = none) : Ext F H r (upd F p o) (upd H p o) r := by
  have ne : ∀ a o', F a = some o' → a ≠ p := fun a o' h z => by
    have q := R.sub a o' h
    rw [z, hp] at q
    cases q
  refine ⟨fun a o' h => ?_, fun a o' h n => ?_, fun a o' h _ => ?_, fun a o' h => ?_, [], by simp, fun a h => nomatch h⟩
  · rw [upd_ne (ne a o' h)]
    exact h
  · by_cases z : a = p
    · subst z
      exact hp
    · rw [upd_ne z, n] at h
      cases h
  · rw [upd_ne (ne_of_none h hp)]
    exact h
  · exact ⟨o', by rw [upd_ne (ne_of_none h hp)]; exact h⟩
theorem CellOk.ext {a : Addr} {c : Cell} (h : CellOk K F H r a c) (e : Ext F H r F' H' r') (k : H' a = H a) : CellOk K F' H' r' a c := by
  cases c with
  | lst ds =>
    obtain ⟨xs, h1, h2⟩ := h
    exact ⟨xs, by rw [k]; exact h1, h2.up e.f e.pre⟩
  | dead =>
    obtain ⟨o, h1⟩ := h
    exact ⟨o, by rw [k]; exact h1⟩
theorem CellOk.there {a : Addr} {c : Cell} (h : CellOk K F H r a c) : ∃ o, H a = some o := by
  cases c with
  | lst ds =>
    obtain ⟨xs, h1, h2⟩ := h
    exact ⟨_, h1⟩
  | dead => exact h
theorem Rel.at (R : Rel K F H r S) {i : Nat} {a : Addr} (h : r[i]? = some a) : ∃ c, S[i]? = some c ∧ CellOk K F H r a c := by
  obtain ⟨hl, _⟩ := List.getElem?_eq_some_iff.mp h
  have hs : i < S.length := by rw [← R.len]; exact hl
  exact ⟨S[i], List.getElem?_eq_getElem hs, R.cell i a _ h (List.getElem?_eq_getElem hs)⟩
theorem Rel.there (R : Rel K F H r S) {a : Addr} (h : a ∈ r) : ∃ o, H a = some o := by
  obtain ⟨i, q⟩ := List.mem_iff_getElem?.mp h
  obtain ⟨c, _, z⟩ := R.at q
  exact z.there
theorem Rel.new (R : Rel K F H r S) {p : Addr} {o : HO} (hp : H p = none) : Rel K (upd F p o) (upd H p o) r S := by
  have ne : ∀ a, a ∈ r → a ≠ p := fun a h z => by
    obtain ⟨o', q⟩ := R.there h
    rw [z, hp] at q
    cases q
  have e : Ext F H r (upd F p o) (upd H p o) r := Ext.new R hp
  refine ⟨fun a o' h => ?_, R.len, R.inj, fun i a h => ?_, fun i a c h1 h2 => ?_⟩
  · by_cases z : a = p
    · subst z
      rw [upd_same] at h ⊢
      exact h
    · rw [upd_ne z] at h ⊢
      exact R.sub a o' h
  · rw [upd_ne (ne a (mem_r h))]
    exact R.nf i a h
  · exact (R.cell i a c h1 h2).ext e (upd_ne (ne a (mem_r h1)))
end
end G
end S_GRel
section S_GPrim
set_option linter.all false
set_option maxRecDepth 100000
set_option maxHeartbeats 1000000
/-! GPrim: what the operations on values do, over the judgements of the hand layer. -/
namespace G
open PySem PySem.Spec PyProof.Rows L2

mutual
def D.cln : D → Bool
  | .loc _ => false
  | .exc _ _ => false
  | .tup xs => D.clnL xs
  | .lst xs => D.clnL xs
  | _ => true
def D.clnL : List D → Bool
  | [] => true
  | x :: xs => D.cln x && D.clnL xs
end
section
variable {K : Fg} {F H : Hp} {r : List Addr} {S : List Cell}
mutual
theorem Rp.cln : ∀ {v : V} {d : D}, Rp K F r v d → d.pur = true → d.cln = true
  | _, _, .non, _ => rfl
  | _, _, .bl _, _ => rfl
  | _, _, .int _, _ => rfl
  | _, _, .str _ _, _ => rfl
  | _, _, .tup _ t, _ => by
    unfold D.cln
    exact RpL.cln t
  | _, _, .lst _ t, _ => by
    unfold D.cln
    exact RpL.cln t
  | _, _, .loc _, h => by cases h
theorem RpL.cln : ∀ {xs : List V} {ds : List D}, RpL K F r xs ds → D.clnL ds = true
  | _, _, .nil => rfl
  | _, _, .cons h p t => by
    unfold D.clnL
    rw [Rp.cln h p, RpL.cln t]
    rfl
end
mutual
theorem Rp.dp (R : Rel K F H r S) : ∀ {v : V} {d : D}, Rp K F r v d → d.pur = true → Dp K H v d.py
  | _, _, .non, _ => .non
  | _, _, .bl b, _ => .bl b
  | _, _, .int i, _ => .int i
  | _, _, .str s _, _ => .str _
  | _, _, .tup h t, _ => by
    unfold D.py
    exact .tup (R.sqt h) (RpL.dp R t)
  | _, _, .lst h t, _ => by
    unfold D.py
    exact .lst (R.sql h) (RpL.dp R t)
  | _, _, .loc _, h => by cases h
theorem RpL.dp (R : Rel K F H r S) : ∀ {xs : List V} {ds : List D}, RpL K F r xs ds → DpAll K H xs (D.pyL ds)
  | _, _, .nil => by
    unfold D.pyL
    exact .nil
  | _, _, .cons h p t => by
    unfold D.pyL
    exact .cons (Rp.dp R h p) (RpL.dp R t)
end
end
mutual
theorem py_plain : ∀ d : D, d.py.plain = true
  | .non => rfl
  | .bl _ => rfl
  | .int _ => rfl
  | .str _ => rfl
  | .tup xs => by unfold D.py PyData.plain; exact pyL_plain xs
  | .lst xs => by unfold D.py PyData.plain; exact pyL_plain xs
  | .loc _ => rfl
  | .exc _ _ => rfl
theorem pyL_plain : ∀ ds : List D, PyData.plainAll (D.pyL ds) = true
  | [] => rfl
  | x :: xs => by unfold D.pyL PyData.plainAll; rw [py_plain x, pyL_plain xs]; rfl
end
mutual
theorem py_depth : ∀ d : D, d.py.depth = d.dep
  | .non => rfl
  | .bl _ => rfl
  | .int _ => rfl
  | .str _ => rfl
  | .tup xs => by unfold D.py PyData.depth D.dep; rw [pyL_depth xs]
  | .lst xs => by unfold D.py PyData.depth D.dep; rw [pyL_depth xs]
  | .loc _ => rfl
  | .exc _ _ => rfl
theorem pyL_depth : ∀ ds : List D, PyData.depthAll (D.pyL ds) = D.depL ds
  | [] => rfl
  | x :: xs => by unfold D.pyL PyData.depthAll D.depL; rw [py_depth x, pyL_depth xs]
end
theorem str_eq (x y : List Nat) : ((⟨x.toArray⟩ : Str) == ⟨y.toArray⟩) = (x == y) := by
  rw [Bool.eq_iff_iff]
  simp
theorem str_app (x y : List Nat) : ((⟨x.toArray⟩ : Str) ++ (⟨y.toArray⟩ : Str)) = ⟨(x ++ y).toArray⟩ := by
  show Str.mk (x.toArray ++ y.toArray) = _
  simp
mutual
theorem py_eqv : ∀ a b : D, a.cln = true → b.cln = true → PyData.eqv a.py b.py = D.eqv a b
  | .non, b, _, hb => by cases b <;> first | rfl | (exact absurd hb (by simp [D.cln]))
  | .bl _, b, _, hb => by cases b <;> first | rfl | (exact absurd hb (by simp [D.cln]))
  | .int _, b, _, hb => by cases b <;> first | rfl | (exact absurd hb (by simp [D.cln]))
  | .str x, b, _, hb => by
    cases b with
    | str y => unfold D.py PyData.eqv D.eqv; exact str_eq x y
    | loc _ => exact absurd hb (by simp [D.cln])
    | exc _ _ => exact absurd hb (by simp [D.cln])
    | _ => rfl
  | .tup xs, b, ha, hb => by
    cases b with
    | tup ys => unfold D.py PyData.eqv D.eqv; exact pyL_eqv xs ys ha hb
    | loc _ => exact absurd hb (by simp [D.cln])
    | exc _ _ => exact absurd hb (by simp [D.cln])
    | _ => rfl
  | .lst xs, b, ha, hb => by
    cases b with
    | lst ys => unfold D.py PyData.eqv D.eqv; exact pyL_eqv xs ys ha hb
    | loc _ => exact absurd hb (by simp [D.cln])
    | exc _ _ => exact absurd hb (by simp [D.cln])
    | _ => rfl
  | .loc _, _, ha, _ => absurd ha (by simp [D.cln])
  | .exc _ _, _, ha, _ => absurd ha (by simp [D.cln])
theorem pyL_eqv : ∀ a b : List D, D.clnL a = true → D.clnL b = true → PyData.eqvAll (D.pyL a) (D.pyL b) = D.eqvL a b
  | [], [], _, _ => rfl
  | [], _ :: _, _, _ => rfl
  | _ :: _, [], _, _ => rfl
  | x :: xs, y :: ys, ha, hb => by
    unfold D.clnL at ha hb
    rw [Bool.and_eq_true] at ha hb
    unfold D.pyL PyData.eqvAll D.eqvL
    rw [py_eqv x y ha.1 hb.1, pyL_eqv xs ys ha.2 hb.2]
end
theorem pyL_any (d : D) (hd : d.cln = true) : ∀ ys : List D, D.clnL ys = true → ((D.pyL ys).any fun y => PyData.eqv y d.py) = ys.any fun y => D.eqv y d
  | [], _ => rfl
  | y :: ys, h => by
    unfold D.clnL at h
    rw [Bool.and_eq_true] at h
    unfold D.pyL
    rw [List.any_cons, List.any_cons, py_eqv y d h.1 hd, pyL_any d hd ys h.2]

/-! ### operands -/
/-- an operand, as it was evaluated: data, or a list of our own -/
inductive RpB (K : Fg) (F H : Hp) (r : List Addr) : V → D → Prop
  | st {v : V} {d : D} (h : Rp K F r v d) : RpB K F H r v d
  | ow {a : Addr} {xs : List V} {ds : List D} (m : Mine F H r a xs) (t : RpL K F r xs ds) : RpB K F H r (.ref a) (.lst ds)
/-- an operand where it is used -/
inductive RpW (K : Fg) (F H : Hp) (r : List Addr) : V → D → Prop
  | st {v : V} {d : D} (h : Rp K F r v d) : RpW K F H r v d
  | ow {a : Addr} {xs : List V} {ds : List D} (m : H a = some (.lst xs)) (t : RpL K F r xs ds) : RpW K F H r (.ref a) (.lst ds)
section
variable {K : Fg} {F H F' H' : Hp} {r r' : List Addr} {S : List Cell} {v : V} {d : D} {a : Addr} {xs : List V} {ds : List D}
theorem RpB.ext (h : RpB K F H r v d) (e : Ext F H r F' H' r') : RpB K F' H' r' v d := by
  cases h with
  | st h => exact .st (h.up e.f e.pre)
  | ow m t => exact .ow (m.ext e) (t.up e.f e.pre)
theorem RpB.w (h : RpB K F H r v d) : RpW K F H r v d := by
  cases h with
  | st h => exact .st h
  | ow m t => exact .ow m.h t
theorem RpB.dr (R : Rel K F H r S) (h : RpB K F H r v d) : RpW K F H r v (G.dr S d) := by
  cases h with
  | ow m t => exact .ow m.h t
  | st h =>
    cases h with
    | @loc n a q =>
      obtain ⟨c, hc, ok⟩ := R.at q
      have e : G.dr S (.loc n) = match some c with
        | some (.lst xs) => .lst xs
        | _ => .loc n := by
        rw [← hc]
        rfl
      rw [e]
      cases c with
      | dead => exact .st (.loc q)
      | lst ds =>
        obtain ⟨xs, h1, h2⟩ := ok
        exact .ow h1 h2
    | non => exact .st .non
    | bl b => exact .st (.bl b)
    | int i => exact .st (.int i)
    | str s z => exact .st (.str s z)
    | tup z t => exact .st (.tup z t)
    | lst z t => exact .st (.lst z t)
theorem RpW.lst (R : Rel K F H r S) (h : RpW K F H r v (.lst ds)) : ∃ a xs, v = .ref a ∧ SqL K H a xs ∧ RpL K F r xs ds := by
  cases h with
  | ow m t => exact ⟨_, _, rfl, SqL.of m, t⟩
  | st h =>
    cases h with
    | lst h t => exact ⟨_, _, rfl, R.sql h, t⟩
theorem RpW.tup (R : Rel K F H r S) (h : RpW K F H r v (.tup ds)) : ∃ a xs, v = .ref a ∧ SqT K H a xs ∧ RpL K F r xs ds := by
  cases h with
  | st h =>
    cases h with
    | tup h t => exact ⟨_, _, rfl, R.sqt h, t⟩
theorem RpW.int (h : RpW K F H r v (.int i)) : v = .int i := by
  cases h with
  | st h => cases h; rfl
theorem RpW.bl (h : RpW K F H r v (.bl i)) : v = .bl i := by
  cases h with
  | st h => cases h; rfl
theorem RpW.non (h : RpW K F H r v .non) : v = .non := by
  cases h with
  | st h => cases h; rfl
theorem RpW.str {s : List Nat} (h : RpW K F H r v (.str s)) : v = .str ⟨s.toArray⟩ ∧ s.length ≤ lim := by
  cases h with
  | st h => cases h with | str _ h => exact ⟨rfl, h⟩
theorem RpW.cln (h : RpW K F H r v d) (p : d.pur = true) : d.cln = true := by
  cases h with
  | st h => exact h.cln p
  | ow m t =>
    unfold D.cln
    exact t.cln
theorem RpW.dp (R : Rel K F H r S) (h : RpW K F H r v d) (p : d.pur = true) : Dp K H v d.py := by
  cases h with
  | st h => exact h.dp R p
  | ow m t =>
    unfold D.py
    exact .lst (SqL.of m) (t.dp R)

/-- what follows with a value d -/
def Res (K : Fg) (F H : Hp) (r : List Addr) (S : List Cell) (d : D) (Q : VK) : Prop := ∀ v F' H' r', Ext F H r F' H' r' → Rel K F' H' r' S → Rp K F' r' v d → Q v H'
variable {Q : VK}
theorem Res.now (q : Res K F H r S d Q) (R : Rel K F H r S) (h : Rp K F r v d) : Q v H := q v F H r .refl R h
theorem Res.tupN (q : Res K F H r S (.tup ds) Q) (R : Rel K F H r S) (h : RpL K F r xs ds) {p : Addr} (hp : H p = none) : Q (.ref p) (upd H p (.tup xs)) := by
  have e : Ext F H r (upd F p (.tup xs)) (upd H p (.tup xs)) r := Ext.new R hp
  exact q _ _ _ _ e (R.new hp) (.tup (SqT.of upd_same) (h.up e.f e.pre))
theorem Res.lstN (q : Res K F H r S (.lst ds) Q) (R : Rel K F H r S) (h : RpL K F r xs ds) {p : Addr} (hp : H p = none) : Q (.ref p) (upd H p (.lst xs)) := by
  have e : Ext F H r (upd F p (.lst xs)) (upd H p (.lst xs)) r := Ext.new R hp
  exact q _ _ _ _ e (R.new hp) (.lst (SqL.of upd_same) (h.up e.f e.pre))
end
/-- the same, where a list is a new one -/
def ResX (K : Fg) (F H : Hp) (r : List Addr) (S : List Cell) : D → VK → Prop
  | .lst ds, Q => ∀ p xs, RpL K F r xs ds → H p = none → Q (.ref p) (upd H p (.lst xs))
  | d, Q => Res K F H r S d Q
theorem Res.x {K : Fg} {F H : Hp} {r : List Addr} {S : List Cell} {d : D} {Q : VK} (q : Res K F H r S d Q) (R : Rel K F H r S) : ResX K F H r S d Q := by
  cases d with
  | lst ds => exact fun p xs h hp => q.lstN R h hp
  | _ => exact q
theorem lim_eq : lim = sizeLine := by rw [sizeLine_eq]; rfl

def opM : Op2 → Operator
  | .add => .Add | .sub => .Sub | .mul => .Mult | .fdiv => .FloorDiv | .mod => .Mod
def cmM : Cm → CmpOp
  | .eq => .Eq | .ne => .NotEq | .lt => .Lt | .le => .LtE | .gt => .Gt | .ge => .GtE | .isin => .In | .notin => .NotIn | .isn => .Is | .isnot => .IsNot

/-- two operands, their data, what follows -/
def rD (K : Fg) (f : D → D → Option D) : R2 := fun x y H Q => ∃ F r S a b d, Rel K F H r S ∧ RpW K F H r x a ∧ RpW K F H r y b ∧ f a b = some d ∧ Res K F H r S d Q
def rDX (K : Fg) (f : D → D → Option D) : R2 := fun x y H Q => ∃ F r S a b d, Rel K F H r S ∧ RpW K F H r x a ∧ RpW K F H r y b ∧ f a b = some d ∧ ResX K F H r S d Q
section
variable {X : L2.Cx}
theorem op_catS : OpR X (binaryOp .Add) (fun x y H Q => ∃ l b xs zs, x = .ref l ∧ y = .ref b ∧ SqL X.K H l xs ∧ SqL X.K H b zs ∧ xs.length + zs.length ≤ sizeLine ∧ ∀ p, H p = none → Q (.ref p) (upd H p (.lst (xs ++ zs)))) := by
  intro pins s σ H x y v u Q I rx ry h
  obtain ⟨l, b, xs, zs, rfl, rfl, hH, hB, hz, q⟩ := h
  cases rx
  cases ry
  obtain ⟨its, r, ⟨o, n, ho, hc, hn, hd⟩, hl⟩ := I.list hH
  obtain ⟨its2, r2, ⟨o2, n2, ho2, hc2, hn2, hd2⟩, hl2⟩ := I.list hB
  have e1 := r.length
  have e2 := r2.length
  obtain ⟨cls, dd, data, sl⟩ := o
  obtain ⟨cls2, dd2, data2, sl2⟩ := o2
  simp only at hc hd hc2 hd2
  subst hc hd hc2 hd2
  refine concat_meets ⟨_, ho, rfl⟩ ⟨_, ho2, rfl⟩ noFill_list_add seq_list_add PySem.F.slot_list_add PySem.F.entry_list_add (PySem.F.args_list_add_2 _ _) (list_addW l b its.toArray its2.toArray n n2 dd dd2 sl sl2 (by simp only [List.size_toArray]; omega)) ⟨ho, ho2, ?_⟩
  have e : its.toArray ++ its2.toArray = (its ++ its2).toArray := by simp
  rw [e]
  exact ⟨.ref _, _, I.lnew (t' := s.toks) (r.append r2) (by rw [List.length_append]; omega), rfl, q _ I.fresh⟩

theorem snd_bin (o : Op2) : OpR X (binaryOp (opM o)) (rDX X.K (pBin o)) := by
  intro pins s σ H x y v u Q I rx ry h
  obtain ⟨F, r, S, a, b, d, R, ra, rb, e, q⟩ := h
  have int2 : ∀ {i j : Int}, a = .int i → b = .int j → x = .int i ∧ y = .int j := fun h1 h2 => by
    subst h1 h2
    exact ⟨ra.int, rb.int⟩
  cases o with
  | add =>
    cases a <;> cases b <;> simp only [pBin, reduceCtorEq] at e
    · obtain ⟨ex, ey⟩ := int2 rfl rfl
      cases e
      exact op_add pins s σ H x y v u Q I rx ry ⟨_, _, ex, ey, Res.now q R (.int _)⟩
    · obtain ⟨ex, hx⟩ := ra.str
      obtain ⟨ey, hy⟩ := rb.str
      split at e
      · rename_i hz
        cases e
        refine op_add_str pins s σ H x y v u Q I rx ry ⟨_, _, ex, ey, ?_, ?_⟩
        · rw [← lim_eq]
          simpa [Str.length] using hz
        · have q' := Res.now q R (.str _ (by simpa using hz))
          rw [str_app]
          exact q'
      · cases e
    · obtain ⟨a1, xs, ex, hx, tx⟩ := ra.tup R
      obtain ⟨a2, ys, ey, hy, ty⟩ := rb.tup R
      split at e
      · rename_i hz
        cases e
        refine op_catA pins s σ H x y v u Q I rx ry ⟨a1, a2, xs, ys, ex, ey, hx, hy, ?_, ?_, ?_, ?_⟩
        · rw [tx.len, ty.len, ← lim_eq]
          exact hz
        · intro z
          subst z
          cases tx
          cases rb with
          | st h => subst ey; exact Res.now q R h
        · intro _ z
          subst z
          cases ty
          cases ra with
          | st h =>
            subst ex
            rw [List.append_nil] at q
            exact Res.now q R h
        · intro _ _ p hp
          exact Res.tupN q R (tx.app ty) hp
      · cases e
    · obtain ⟨a1, xs, ex, hx, tx⟩ := ra.lst R
      obtain ⟨a2, ys, ey, hy, ty⟩ := rb.lst R
      split at e
      · rename_i hz
        cases e
        refine op_catS pins s σ H x y v u Q I rx ry ⟨a1, a2, xs, ys, ex, ey, hx, hy, ?_, ?_⟩
        · rw [tx.len, ty.len, ← lim_eq]
          exact hz
        · intro p hp
          exact q p _ (tx.app ty) hp
      · cases e
  | sub =>
    cases a <;> cases b <;> simp only [pBin, reduceCtorEq] at e
    obtain ⟨ex, ey⟩ := int2 rfl rfl
    cases e
    exact op_sub pins s σ H x y v u Q I rx ry ⟨_, _, ex, ey, Res.now q R (.int _)⟩
  | mul =>
    cases a <;> cases b <;> simp only [pBin, reduceCtorEq] at e
    obtain ⟨ex, ey⟩ := int2 rfl rfl
    split at e
    · rename_i hz
      cases e
      refine op_mul pins s σ H x y v u Q I rx ry ⟨_, _, ex, ey, ?_, Res.now q R (.int _)⟩
      simpa [smallI, CMul] using hz
    · cases e
  | fdiv =>
    cases a <;> cases b <;> simp only [pBin, reduceCtorEq] at e
    obtain ⟨ex, ey⟩ := int2 rfl rfl
    split at e
    · rename_i hz
      cases e
      exact op_fdivW pins s σ H x y v u Q I rx ry ⟨_, _, ex, ey, wide_div (b := 63) hz.1 hz.2 (by decide) (by decide), Res.now q R (.int _)⟩
    · cases e
  | mod =>
    cases a <;> cases b <;> simp only [pBin, reduceCtorEq] at e
    obtain ⟨ex, ey⟩ := int2 rfl rfl
    split at e
    · rename_i hz
      cases e
      exact op_mod pins s σ H x y v u Q I rx ry ⟨_, _, ex, ey, hz, Res.now q R (.int _)⟩
    · cases e

theorem min_le {a b : Nat} {c : Nat} (h : a ≤ c ∨ b ≤ c) : min a b ≤ c := by omega
theorem snd_cmp (o : Cm) (hu : X.A.units + 200 < cLine) : OpR X (compareOp (cmM o)) (rD X.K fun a b => (pCmp o a b).map .bl) := by
  intro pins s σ H x y v u Q I rx ry h
  obtain ⟨F, r, S, a, b, d, R, ra, rb, e, q⟩ := h
  have int2 : ∀ {i j : Int}, a = .int i → b = .int j → x = .int i ∧ y = .int j := fun h1 h2 => by
    subst h1 h2
    exact ⟨ra.int, rb.int⟩
  have fin : ∀ {k : Bool} {Q' : VK}, Res X.K F H r S (.bl k) Q' → EP X pins σ Q' (.bool k) s := fun {k Q'} q => ⟨.bl k, H, I, rfl, q.now R (.bl k)⟩
  have inn : ∀ {k : Bool}, pIn a b = some k → (∀ Q', Res X.K F H r S (.bl k) Q' → wpAny (model X.prog X.w) X.A (compareOp .In v u) (EP X pins σ Q') X.xe s) ∧
      (∀ Q', Res X.K F H r S (.bl (!k)) Q' → wpAny (model X.prog X.w) X.A (compareOp .NotIn v u) (EP X pins σ Q') X.xe s) := by
    intro k hk
    cases b <;> simp only [pIn, reduceCtorEq] at hk
    · rename_i ys
      obtain ⟨ey, hy⟩ := rb.str
      split at hk
      · rename_i c
        obtain ⟨ex, hx⟩ := ra.str
        cases hk
        have hc : decide (c ∈ (⟨ys.toArray⟩ : Str).cps.toList) = ys.contains c := by
          rw [Bool.eq_iff_iff, decide_eq_true_iff, List.contains_iff_mem]
        refine ⟨fun Q' q' => ?_, fun Q' q' => ?_⟩
        · refine op_in_sign pins s σ H x y v u Q' I rx ry ⟨c, _, ?_, ey, ?_⟩
          · rw [ex]
          · rw [hc]
            exact q'.now R (.bl _)
        · refine op_notIn_sign pins s σ H x y v u Q' I rx ry ⟨c, _, ?_, ey, ?_⟩
          · rw [ex]
          · rw [hc]
            exact q'.now R (.bl _)
      · cases hk
    · rename_i ys
      split at hk
      · rename_i hz
        cases hk
        rw [Bool.and_eq_true, Bool.or_eq_true, decide_eq_true_eq, decide_eq_true_eq] at hz
        obtain ⟨as, r1⟩ := Dp.reads I a.py x v (ra.dp R hz.1) rx
        obtain ⟨bs, r2⟩ := Dp.reads I (D.py (.tup ys)) y u (rb.dp R rfl) ry
        have hb : D.clnL ys = true := by
          have := rb.cln rfl
          unfold D.cln at this
          exact this
        unfold D.py at r2
        have e1 := pyL_any a (ra.cln hz.1) ys hb
        have hm : X.A.units + 1 + min (PyData.depthAll (D.pyL ys)) a.py.depth < cLine := by
          rw [py_depth, pyL_depth]
          have := min_le (c := 60) (hz.2.symm)
          omega
        refine ⟨fun Q' q' => SeqAt.in_tuple_data r2 r1 (pyL_plain ys) (py_plain a) hm ?_, fun Q' q' => SeqAt.notIn_tuple_data r2 r1 (pyL_plain ys) (py_plain a) hm ?_⟩
        · rw [e1]
          exact fin q'
        · rw [e1]
          exact fin q'
      · cases hk
    · rename_i ys
      split at hk
      · rename_i hz
        cases hk
        rw [Bool.and_eq_true, Bool.or_eq_true, decide_eq_true_eq, decide_eq_true_eq] at hz
        obtain ⟨as, r1⟩ := Dp.reads I a.py x v (ra.dp R hz.1) rx
        obtain ⟨bs, r2⟩ := Dp.reads I (D.py (.lst ys)) y u (rb.dp R rfl) ry
        have hb : D.clnL ys = true := by
          have := rb.cln rfl
          unfold D.cln at this
          exact this
        unfold D.py at r2
        have e1 := pyL_any a (ra.cln hz.1) ys hb
        have hm : X.A.units + 1 + min (PyData.depthAll (D.pyL ys)) a.py.depth < cLine := by
          rw [py_depth, pyL_depth]
          have := min_le (c := 60) (hz.2.symm)
          omega
        refine ⟨fun Q' q' => SeqAt.in_list_data r2 r1 (pyL_plain ys) (py_plain a) hm ?_, fun Q' q' => SeqAt.notIn_list_data r2 r1 (pyL_plain ys) (py_plain a) hm ?_⟩
        · rw [e1]
          exact fin q'
        · rw [e1]
          exact fin q'
      · cases hk
  cases o with
  | eq =>
    simp only [pCmp, Option.map_eq_some_iff] at e
    obtain ⟨k, e1, rfl⟩ := e
    split at e1
    · rename_i hz
      cases e1
      unfold D.eqOk at hz
      simp only [Bool.and_eq_true, Bool.or_eq_true, decide_eq_true_eq] at hz
      obtain ⟨as, r1⟩ := Dp.reads I a.py x v (ra.dp R hz.1.1) rx
      obtain ⟨bs, r2⟩ := Dp.reads I b.py y u (rb.dp R hz.1.2) ry
      refine SeqAt.eq_plain r1 r2 (py_plain a) (py_plain b) ?_ ?_
      · rw [py_depth, py_depth]
        have := min_le (c := 60) hz.2
        omega
      · rw [py_eqv a b (ra.cln hz.1.1) (rb.cln hz.1.2)]
        exact fin q
    · cases e1
  | ne =>
    simp only [pCmp, Option.map_eq_some_iff] at e
    obtain ⟨k, e1, rfl⟩ := e
    split at e1
    · rename_i hz
      cases e1
      unfold D.eqOk at hz
      simp only [Bool.and_eq_true, Bool.or_eq_true, decide_eq_true_eq] at hz
      obtain ⟨as, r1⟩ := Dp.reads I a.py x v (ra.dp R hz.1.1) rx
      obtain ⟨bs, r2⟩ := Dp.reads I b.py y u (rb.dp R hz.1.2) ry
      refine SeqAt.ne_plain r1 r2 (py_plain a) (py_plain b) ?_ ?_
      · rw [py_depth, py_depth]
        have := min_le (c := 60) hz.2
        omega
      · rw [py_eqv a b (ra.cln hz.1.1) (rb.cln hz.1.2)]
        exact fin q
    · cases e1
  | lt =>
    cases a <;> cases b <;> simp only [pCmp, reduceCtorEq, Option.map_none, Option.map_some] at e
    obtain ⟨ex, ey⟩ := int2 rfl rfl
    cases e
    exact op_lt pins s σ H x y v u Q I rx ry ⟨_, _, ex, ey, q.now R (.bl _)⟩
  | le =>
    cases a <;> cases b <;> simp only [pCmp, reduceCtorEq, Option.map_none, Option.map_some] at e
    obtain ⟨ex, ey⟩ := int2 rfl rfl
    cases e
    exact op_le pins s σ H x y v u Q I rx ry ⟨_, _, ex, ey, q.now R (.bl _)⟩
  | gt =>
    cases a <;> cases b <;> simp only [pCmp, reduceCtorEq, Option.map_none, Option.map_some] at e
    obtain ⟨ex, ey⟩ := int2 rfl rfl
    cases e
    exact op_gt pins s σ H x y v u Q I rx ry ⟨_, _, ex, ey, q.now R (.bl _)⟩
  | ge =>
    cases a <;> cases b <;> simp only [pCmp, reduceCtorEq, Option.map_none, Option.map_some] at e
    obtain ⟨ex, ey⟩ := int2 rfl rfl
    cases e
    exact op_ge pins s σ H x y v u Q I rx ry ⟨_, _, ex, ey, q.now R (.bl _)⟩
  | isin =>
    simp only [pCmp, Option.map_eq_some_iff] at e
    obtain ⟨k, e1, rfl⟩ := e
    exact (inn e1).1 Q q
  | notin =>
    simp only [pCmp, Option.map_eq_some_iff] at e
    obtain ⟨k, ⟨j, e1, rfl⟩, rfl⟩ := e
    exact (inn e1).2 Q q
  | isn =>
    cases b <;> simp only [pCmp, reduceCtorEq, Option.map_none, Option.map_some] at e
    cases e
    refine op_isN pins s σ H x y v u Q I rx ry ⟨rb.non, ?_⟩
    have ee : decide (x = .non) = a.isNon := by
      cases ra with
      | ow m t => rfl
      | st h => cases h <;> rfl
    rw [ee]
    exact q.now R (.bl _)
  | isnot =>
    cases b <;> simp only [pCmp, reduceCtorEq, Option.map_none, Option.map_some] at e
    cases e
    refine op_notN pins s σ H x y v u Q I rx ry ⟨rb.non, ?_⟩
    have ee : decide (x = .non) = a.isNon := by
      cases ra with
      | ow m t => rfl
      | st h => cases h <;> rfl
    rw [ee]
    exact q.now R (.bl _)
end
end G
end S_GPrim
section S_GPrim2
set_option linter.all false
set_option maxRecDepth 100000
set_option maxHeartbeats 1000000
/-! GPrim2: subscripts, slices, built-in functions. -/
namespace G
open PySem PySem.Spec PyProof.Rows L2

theorem atI_eq {α : Type} (xs : List α) (i : Int) : L2.atI xs i = G.atI xs i := rfl
theorem cutV_eq (xs : List V) (lo hi : Option Int) : L2.cutV xs lo hi = G.cut xs lo hi := rfl
section
variable {K : Fg} {F H : Hp} {r : List Addr} {S : List Cell}
theorem RpL.atI {xs : List V} {ds : List D} {i : Int} {d : D} (t : RpL K F r xs ds) (h : G.atI ds i = some d) : ∃ v, G.atI xs i = some v ∧ Rp K F r v d ∧ d.pur = true := by
  unfold G.atI at h ⊢
  rw [← t.len] at h
  cases e : G.ixN xs.length i with
  | none =>
    rw [e] at h
    cases h
  | some j =>
    rw [e] at h
    exact t.get h
theorem RpL.cut {xs : List V} {ds : List D} (lo hi : Option Int) (t : RpL K F r xs ds) : RpL K F r (G.cut xs lo hi) (G.cut ds lo hi) := by
  unfold G.cut
  rw [t.len]
  exact (t.drop _).take _
theorem RpL.ints : ∀ {xs : List V} {ds : List D} {ns : List Int}, RpL K F r xs ds → asInts ds = some ns → xs = ns.map V.int ∧ ds = ns.map D.int
  | _, _, _, .nil, h => by
    cases h
    exact ⟨rfl, rfl⟩
  | _, _, _, .cons (d := d) q p t, h => by
    cases q with
    | int i =>
      rw [asInts, Option.map_eq_some_iff] at h
      obtain ⟨ms, h1, rfl⟩ := h
      obtain ⟨e1, e2⟩ := RpL.ints t h1
      exact ⟨by rw [e1]; rfl, by rw [e2]; rfl⟩
    | non => cases h
    | bl => cases h
    | str => cases h
    | tup => cases h
    | lst => cases h
    | loc => cases h
theorem RpL.bls : ∀ {xs : List V} {ds : List D} {ns : List Bool}, RpL K F r xs ds → asBls ds = some ns → xs = ns.map V.bl
  | _, _, _, .nil, h => by
    cases h
    rfl
  | _, _, _, .cons (d := d) q p t, h => by
    cases q with
    | bl i =>
      rw [asBls, Option.map_eq_some_iff] at h
      obtain ⟨ms, h1, rfl⟩ := h
      rw [RpL.bls t h1]
      rfl
    | non => cases h
    | int => cases h
    | str => cases h
    | tup => cases h
    | lst => cases h
    | loc => cases h
theorem RpL.strs : ∀ {xs : List V} {ds : List D} {ns : List (List Nat)}, RpL K F r xs ds → asStrs ds = some ns → xs = ns.map fun s => V.str ⟨s.toArray⟩
  | _, _, _, .nil, h => by
    cases h
    rfl
  | _, _, _, .cons (d := d) q p t, h => by
    cases q with
    | str s hs =>
      rw [asStrs, Option.map_eq_some_iff] at h
      obtain ⟨ms, h1, rfl⟩ := h
      rw [RpL.strs t h1]
      rfl
    | non => cases h
    | int => cases h
    | bl => cases h
    | tup => cases h
    | lst => cases h
    | loc => cases h
theorem RpL.of_ints : ∀ ns : List Int, RpL K F r (ns.map V.int) (ns.map D.int)
  | [] => .nil
  | n :: ns => .cons (.int n) rfl (RpL.of_ints ns)
end
section
variable {X : L2.Cx}
theorem snd_ix : IxR X (rD X.K pIx) := by
  intro value slice pins s σ H x y v u Q I rx ry h hs
  obtain ⟨F, r, S, a, b, d, R, ra, rb, e, q⟩ := h
  refine ix_seq value slice pins s σ H x y v u Q I rx ry ?_ hs
  cases b <;> cases a <;> simp only [pIx, reduceCtorEq] at e
  · rename_i i z
    obtain ⟨ex, hz⟩ := ra.str
    rw [Option.map_eq_some_iff] at e
    obtain ⟨c, e1, rfl⟩ := e
    refine .inr (.inr ⟨_, i, c, ex, rb.int, ?_, ?_, ?_⟩)
    · rw [← lim_eq]
      simpa [Str.length] using hz
    · rw [atI_eq]
      simpa using e1
    · have q' := q.now R (.str [c] (by unfold lim; simp))
      simpa using q'
  · rename_i i ds
    obtain ⟨a1, xs, ex, hx, tx⟩ := ra.tup R
    obtain ⟨w, h1, h2, h3⟩ := tx.atI e
    exact .inr (.inl ⟨a1, xs, i, w, ex, rb.int, hx, h1, q.now R h2⟩)
  · rename_i i ds
    obtain ⟨a1, xs, ex, hx, tx⟩ := ra.lst R
    obtain ⟨w, h1, h2, h3⟩ := tx.atI e
    exact .inl ⟨a1, xs, i, w, ex, rb.int, hx, h1, q.now R h2⟩

def rSl (K : Fg) : V → Option Int → Option Int → Hp → VK → Prop := fun x lo hi H Q => ∃ F r S a d, Rel K F H r S ∧ RpW K F H r x a ∧ pSl a lo hi = some d ∧ ResX K F H r S d Q
theorem cut_len {α : Type} (xs : List α) (lo hi : Option Int) : (G.cut xs lo hi).length ≤ xs.length := by
  unfold G.cut
  rw [List.length_take, List.length_drop]
  omega
theorem cut_whole {α : Type} {xs : List α} {lo hi : Option Int} (h : sIx xs.length 0 lo = 0 ∧ sIx xs.length xs.length hi = xs.length) : G.cut xs lo hi = xs := by
  unfold G.cut
  rw [h.1, h.2]
  simp
theorem snd_sl : SlR X (rSl X.K) := by
  intro pins s σ H x v vl vu lo hi sl Q I rx hs pl pu h
  obtain ⟨F, r, S, a, d, R, ra, e, q⟩ := h
  cases a <;> simp only [pSl, reduceCtorEq, Option.some.injEq] at e <;> subst e
  · rename_i z
    obtain ⟨ex, hz⟩ := ra.str
    refine sl_str pins s σ H x v vl vu lo hi sl Q I rx hs pl pu ⟨_, ex, ?_, ?_⟩
    · rw [← lim_eq]
      simpa [Str.length] using hz
    · have ee : cutS ⟨z.toArray⟩ lo hi = ⟨(G.cut z lo hi).toArray⟩ := by
        unfold cutS G.cut Str.length
        simp only [List.size_toArray]
        rfl
      rw [ee]
      exact Res.now q R (.str _ (Nat.le_trans (cut_len _ _ _) hz))
  · rename_i ds
    obtain ⟨a1, xs, ex, hx, tx⟩ := ra.tup R
    refine sl_tupA pins s σ H x v vl vu lo hi sl Q I rx hs pl pu ⟨a1, xs, ex, hx, fun w => ?_, fun w p hp => ?_⟩
    · have w' : sIx ds.length 0 lo = 0 ∧ sIx ds.length ds.length hi = ds.length := by
        rw [← tx.len]
        exact w
      rw [cut_whole w'] at q
      cases ra with
      | st h =>
        subst ex
        exact Res.now q R h
    · rw [cutV_eq]
      exact Res.tupN q R (tx.cut lo hi) hp
  · rename_i ds
    obtain ⟨a1, xs, ex, hx, tx⟩ := ra.lst R
    refine sl_list pins s σ H x v vl vu lo hi sl Q I rx hs pl pu ⟨a1, xs, ex, hx, fun p hp => ?_⟩
    rw [cutV_eq]
    exact q p _ (tx.cut lo hi) hp

/-! ### built-in functions -/
inductive RpWL (K : Fg) (F H : Hp) (r : List Addr) : List V → List D → Prop
  | nil : RpWL K F H r [] []
  | cons {v : V} {d : D} {xs : List V} {ds : List D} (h : RpW K F H r v d) (t : RpWL K F H r xs ds) : RpWL K F H r (v :: xs) (d :: ds)
def rB (K : Fg) (f : List D → Option D) : List V → Hp → VK → Prop := fun xs H Q => ∃ F r S ds d, Rel K F H r S ∧ RpWL K F H r xs ds ∧ f ds = some d ∧ Res K F H r S d Q
def rBX (K : Fg) (f : List D → Option D) : List V → Hp → VK → Prop := fun xs H Q => ∃ F r S ds d, Rel K F H r S ∧ RpWL K F H r xs ds ∧ f ds = some d ∧ ResX K F H r S d Q
theorem one_arg {K : Fg} {F H : Hp} {r : List Addr} {xs : List V} {d : D} (h : RpWL K F H r xs [d]) : ∃ v, xs = [v] ∧ RpW K F H r v d := by
  cases h with
  | cons h t => cases t; exact ⟨_, rfl, h⟩
theorem two_args {K : Fg} {F H : Hp} {r : List Addr} {xs : List V} {d e : D} (h : RpWL K F H r xs [d, e]) : ∃ v w, xs = [v, w] ∧ RpW K F H r v d ∧ RpW K F H r w e := by
  cases h with
  | cons h t =>
    cases t with
    | cons h2 t => cases t; exact ⟨_, _, rfl, h, h2⟩
theorem snd_len : CallR X (.builtin "len") (rB X.K (pB .len)) := by
  intro pins s σ H xs us Q I rx h
  obtain ⟨F, r, S, ds, d, R, ra, e, q⟩ := h
  match ds, ra, e with
  | [.str z], ra, e =>
    cases e
    obtain ⟨v, rfl, h⟩ := one_arg ra
    obtain ⟨rfl, hz⟩ := h.str
    refine call_len pins s σ H _ us Q I rx ⟨_, z.length, rfl, ⟨?_, ?_⟩, q.now R (.int _)⟩
    · rw [← lim_eq]
      simpa [Str.length] using hz
    · simp [Str.length]
  | [.tup z], ra, e =>
    cases e
    obtain ⟨v, rfl, h⟩ := one_arg ra
    obtain ⟨a1, ys, rfl, hx, tx⟩ := h.tup R
    refine call_len pins s σ H _ us Q I rx ⟨_, z.length, rfl, .inr ⟨ys, hx, tx.len.symm⟩, q.now R (.int _)⟩
  | [.lst z], ra, e =>
    cases e
    obtain ⟨v, rfl, h⟩ := one_arg ra
    obtain ⟨a1, ys, rfl, hx, tx⟩ := h.lst R
    refine call_len pins s σ H _ us Q I rx ⟨_, z.length, rfl, .inl ⟨ys, hx, tx.len.symm⟩, q.now R (.int _)⟩
theorem snd_int : CallR X (.type "int") (rB X.K (pB .int)) := by
  intro pins s σ H xs us Q I rx h
  obtain ⟨F, r, S, ds, d, R, ra, e, q⟩ := h
  match ds, ra, e with
  | [.int i], ra, e =>
    cases e
    obtain ⟨v, rfl, h⟩ := one_arg ra
    have := h.int
    subst this
    exact call_int1 pins s σ H _ us Q I rx (.inl ⟨i, rfl, q.now R (.int _)⟩)
  | [.bl i], ra, e =>
    cases e
    obtain ⟨v, rfl, h⟩ := one_arg ra
    have := h.bl
    subst this
    exact call_int1 pins s σ H _ us Q I rx (.inr ⟨i, rfl, q.now R (.int _)⟩)
theorem snd_list : CallR X (.type "list") (rBX X.K (pB .list)) := by
  intro pins s σ H xs us Q I rx h
  obtain ⟨F, r, S, ds, d, R, ra, e, q⟩ := h
  match ds, ra, e with
  | [.tup z], ra, e =>
    cases e
    obtain ⟨v, rfl, h⟩ := one_arg ra
    obtain ⟨a1, ys, rfl, hx, tx⟩ := h.tup R
    exact call_list_of pins s σ H _ us Q I rx ⟨_, ys, rfl, .inr hx, fun p hp => q p _ tx hp⟩
  | [.lst z], ra, e =>
    cases e
    obtain ⟨v, rfl, h⟩ := one_arg ra
    obtain ⟨a1, ys, rfl, hx, tx⟩ := h.lst R
    exact call_list_of pins s σ H _ us Q I rx ⟨_, ys, rfl, .inl hx, fun p hp => q p _ tx hp⟩
theorem snd_tuple : CallR X (.type "tuple") (rB X.K (pB .tuple)) := by
  intro pins s σ H xs us Q I rx h
  obtain ⟨F, r, S, ds, d, R, ra, e, q⟩ := h
  match ds, ra, e with
  | [.tup z], ra, e =>
    cases e
    obtain ⟨v, rfl, h⟩ := one_arg ra
    obtain ⟨a1, ys, rfl, hx, tx⟩ := h.tup R
    cases h with
    | st h => exact call_tuple_of pins s σ H _ us Q I rx ⟨_, ys, rfl, .inr ⟨hx, q.now R h⟩⟩
  | [.lst z], ra, e =>
    cases e
    obtain ⟨v, rfl, h⟩ := one_arg ra
    obtain ⟨a1, ys, rfl, hx, tx⟩ := h.lst R
    exact call_tuple_of pins s σ H _ us Q I rx ⟨_, ys, rfl, .inl ⟨hx, fun p hp => q.tupN R tx hp⟩⟩
theorem snd_all (hc : X.calm = true) : CallR X (.builtin "all") (rB X.K (pB .all)) := by
  intro pins s σ H xs us Q I rx h
  obtain ⟨F, r, S, ds, d, R, ra, e, q⟩ := h
  match ds, ra, e with
  | [.lst z], ra, e =>
    obtain ⟨v, rfl, h⟩ := one_arg ra
    obtain ⟨a1, ys, rfl, hx, tx⟩ := h.lst R
    rw [pB, Option.map_eq_some_iff] at e
    obtain ⟨bs, e1, rfl⟩ := e
    have := tx.bls e1
    subst this
    exact cr_all hc pins s σ H _ us Q I rx ⟨a1, bs, rfl, hx, q.now R (.bl _)⟩
theorem snd_any (hc : X.calm = true) : CallR X (.builtin "any") (rB X.K (pB .any)) := by
  intro pins s σ H xs us Q I rx h
  obtain ⟨F, r, S, ds, d, R, ra, e, q⟩ := h
  match ds, ra, e with
  | [.lst z], ra, e =>
    obtain ⟨v, rfl, h⟩ := one_arg ra
    obtain ⟨a1, ys, rfl, hx, tx⟩ := h.lst R
    rw [pB, Option.map_eq_some_iff] at e
    obtain ⟨bs, e1, rfl⟩ := e
    have := tx.bls e1
    subst this
    exact cr_any hc pins s σ H _ us Q I rx ⟨a1, bs, rfl, hx, q.now R (.bl _)⟩
theorem snd_sum (hc : X.calm = true) : CallR X (.builtin "sum") (rB X.K (pB .sum)) := by
  intro pins s σ H xs us Q I rx h
  obtain ⟨F, r, S, ds, d, R, ra, e, q⟩ := h
  match ds, ra, e with
  | [.lst z], ra, e =>
    obtain ⟨v, rfl, h⟩ := one_arg ra
    obtain ⟨a1, ys, rfl, hx, tx⟩ := h.lst R
    rw [pB, Option.map_eq_some_iff] at e
    obtain ⟨bs, e1, rfl⟩ := e
    have := (tx.ints e1).1
    subst this
    exact cr_sum hc pins s σ H _ us Q I rx ⟨a1, bs, rfl, hx, q.now R (.int _)⟩
theorem snd_max2 (hc : X.calm = true) : CallR X (.builtin "max") (rB X.K (pB .max2)) := by
  intro pins s σ H xs us Q I rx h
  obtain ⟨F, r, S, ds, d, R, ra, e, q⟩ := h
  match ds, ra, e with
  | [.int i, .int j], ra, e =>
    cases e
    obtain ⟨v, w, rfl, h, h2⟩ := two_args ra
    have e1 := h.int
    have e2 := h2.int
    subst e1 e2
    exact call_max2 hc pins s σ H _ us Q I rx ⟨i, j, rfl, q.now R (.int _)⟩
theorem snd_min2 (hc : X.calm = true) : CallR X (.builtin "min") (rB X.K (pB .min2)) := by
  intro pins s σ H xs us Q I rx h
  obtain ⟨F, r, S, ds, d, R, ra, e, q⟩ := h
  match ds, ra, e with
  | [.int i, .int j], ra, e =>
    cases e
    obtain ⟨v, w, rfl, h, h2⟩ := two_args ra
    have e1 := h.int
    have e2 := h2.int
    subst e1 e2
    exact call_min2 hc pins s σ H _ us Q I rx ⟨i, j, rfl, q.now R (.int _)⟩
theorem snd_abs : CallR X (.builtin "abs") (rB X.K (pB .abs)) := by
  intro pins s σ H xs us Q I rx h
  obtain ⟨F, r, S, ds, d, R, ra, e, q⟩ := h
  match ds, ra, e with
  | [.int i], ra, e =>
    cases e
    obtain ⟨v, rfl, h⟩ := one_arg ra
    have e1 := h.int
    subst e1
    exact call_abs pins s σ H _ us Q I rx ⟨i, rfl, q.now R (.int _)⟩

/-! ### isinstance -/
def tyN : Ty → String
  | .int => "int" | .bool => "bool" | .str => "str" | .tup => "tuple" | .lst => "list"
theorem one_isa {pins : List (Addr × Obj)} {s : Shared} {σ : L2.St} {H : Hp} {F : Hp} {r : List Addr} {S : List Cell} {x : V} {u : Value} {d : D} {t : Ty} {b : Bool} {Q : Value → Shared → Prop} {A : Around} {E : Value → Shared → Prop}
    (I : Inv X pins σ H s) (R : Rel X.K F H r S) (rx : RelV x u) (h : RpW X.K F H r x d) (e : isT t d = some b) (hq : ∀ tk, Q (.bool b) { s with toks := tk }) : wpAny (model X.prog X.w) A (call (.builtin "isinstance") [u, .type (tyN t)]) Q E s := by
  cases d with
  | non =>
    have e1 := h.non
    subst e1
    cases (show u = Value.none from rx)
    cases t <;> simp only [isT, Option.some.injEq] at e <;> subst e <;> exact PySem.W.kia_one PySem.W.kitx_none I.kIn True.intro (kit_ty (by decide +kernel)) (fun z => nomatch z) hq
  | bl k =>
    have e1 := h.bl
    subst e1
    cases (show u = Value.bool k from rx)
    cases t <;> simp only [isT, Option.some.injEq] at e <;> subst e <;> exact PySem.W.kia_one PySem.W.kitx_bool I.kIn True.intro (kit_ty (by decide +kernel)) (fun z => nomatch z) hq
  | int k =>
    have e1 := h.int
    subst e1
    obtain ⟨t1, q⟩ := (show ∃ t, u = Value.int k t from rx)
    cases q
    cases t <;> simp only [isT, Option.some.injEq] at e <;> subst e <;> exact PySem.W.kia_one PySem.W.kitx_int I.kIn True.intro (kit_ty (by decide +kernel)) (fun z => nomatch z) hq
  | str k =>
    have e1 := h.str.1
    subst e1
    obtain ⟨t1, q⟩ := (show ∃ t, u = Value.str _ t from rx)
    cases q
    cases t <;> simp only [isT, Option.some.injEq] at e <;> subst e <;> exact PySem.W.kia_one PySem.W.kitx_str I.kIn True.intro (kit_ty (by decide +kernel)) (fun z => nomatch z) hq
  | tup k =>
    obtain ⟨a1, ys, e1, hx, tx⟩ := h.tup R
    subst e1
    cases (show u = Value.ref a1 from rx)
    obtain ⟨its, rv, ⟨o, h1, h2, _⟩, _⟩ := I.tuple hx
    cases t <;> simp only [isT, Option.some.injEq] at e <;> subst e <;> exact PySem.W.kia_one PySem.W.kitx_tuple I.kIn ⟨o, h1, h2⟩ (kit_ty (by decide +kernel)) (fun z => nomatch z) hq
  | lst k =>
    obtain ⟨a1, ys, e1, hx, tx⟩ := h.lst R
    subst e1
    cases (show u = Value.ref a1 from rx)
    obtain ⟨its, rv, ⟨o, n, h1, h2, _⟩, _⟩ := I.list hx
    cases t <;> simp only [isT, Option.some.injEq] at e <;> subst e <;> exact PySem.W.kia_one PySem.W.kitx_list I.kIn ⟨o, h1, h2⟩ (kit_ty (by decide +kernel)) (fun z => nomatch z) hq
  | loc n => cases t <;> cases e
  | exc c x => cases t <;> cases e
end
end G
end S_GPrim2
section S_GSnd
set_option linter.all false
set_option maxRecDepth 100000
set_option maxHeartbeats 1000000
/-! GSnd: the small language over the judgements of the hand layer. -/
namespace G
open PySem PySem.Spec PyProof.Rows L2

/-! ### readings -/
/-- how an exception of the small language lies -/
abbrev XRel := Nat → D → Value → Option Addr → Hp → Hp → List Addr → Prop
section
variable (K : Fg) (XR : XRel) (W : L2.WX)
def PostE {α : Type} (F H : Hp) (r : List Addr) (σ : L2.St) : Rs α → (α → List Cell → Hp → Hp → List Addr → Prop) → Prop
  | .ok a S', P => ∀ F' H' r', Ext F H r F' H' r' → Rel K F' H' r' S' → P a S' F' H' r'
  | .exc c x S', _ => ∀ F' H' r' cls d, Ext F H r F' H' r' → Rel K F' H' r' S' → XR c x cls d F' H' r' → W cls d σ H'
  | .stk, _ => False
end
section
variable {K : Fg} {XR : XRel} {W : L2.WX} {α β : Type} {F H F1 H1 : Hp} {r r1 : List Addr} {σ : L2.St} {m : Rs α} {f : α → List Cell → Rs β}
theorem PostE.ext {P : α → List Cell → Hp → Hp → List Addr → Prop} (h : PostE K XR W F H r σ m P) (e : Ext F H r F1 H1 r1) : PostE K XR W F1 H1 r1 σ m P := by
  cases m with
  | ok a S => exact fun F' H' r' e' R' => h F' H' r' (e.trans e') R'
  | exc c x S => exact fun F' H' r' cls d e' R' z => h F' H' r' cls d (e.trans e') R' z
  | stk => exact h
theorem PostE.bind {P : β → List Cell → Hp → Hp → List Addr → Prop} (h : PostE K XR W F H r σ (m.bind f) P) : PostE K XR W F H r σ m fun a S1 F1 H1 r1 => PostE K XR W F1 H1 r1 σ (f a S1) P := by
  cases m with
  | ok a S => exact fun F' H' r' e' R' => PostE.ext (m := f a S) h e'
  | exc c x S => exact h
  | stk => exact h
theorem PostE.imp {P P' : α → List Cell → Hp → Hp → List Addr → Prop} (h : PostE K XR W F H r σ m P) (k : ∀ a S' F' H' r', Ext F H r F' H' r' → Rel K F' H' r' S' → P a S' F' H' r' → P' a S' F' H' r') : PostE K XR W F H r σ m P' := by
  cases m with
  | ok a S => exact fun F' H' r' e' R' => k _ _ _ _ _ e' R' (h F' H' r' e' R')
  | exc c x S => exact h
  | stk => exact h
theorem PostE.of {S : List Cell} {o : Option α} {P : α → List Cell → Hp → Hp → List Addr → Prop} (h : PostE K XR W F H r σ (.of S o) P) : ∃ a, o = some a ∧ ∀ F' H' r', Ext F H r F' H' r' → Rel K F' H' r' S → P a S F' H' r' := by
  cases o with
  | none => exact h.elim
  | some a => exact ⟨a, rfl, h⟩
end

def E.isB : E → Bool
  | .b _ => true
  | _ => false
/-- the value: where w, it may be a list of our own -/
def RpX (K : Fg) (w : Bool) (F H : Hp) (r : List Addr) (v : V) (d : D) : Prop := match w with
  | true => RpB K F H r v d
  | false => Rp K F r v d
theorem RpX.b {K : Fg} {w : Bool} {F H : Hp} {r : List Addr} {v : V} {d : D} (h : RpX K w F H r v d) : RpB K F H r v d := by
  cases w with
  | true => exact h
  | false => exact .st h
theorem RpX.ext {K : Fg} {w : Bool} {F H F' H' : Hp} {r r' : List Addr} {v : V} {d : D} (h : RpX K w F H r v d) (e : Ext F H r F' H' r') : RpX K w F' H' r' v d := by
  cases w with
  | true => exact RpB.ext h e
  | false => exact Rp.up e.f e.pre h
abbrev RpXL (K : Fg) (w : Bool) (F H : Hp) (r : List Addr) : List V → List D → Prop := Paired (RpX K w F H r)
section
variable {K : Fg} {w : Bool} {F H F' H' : Hp} {r r' : List Addr} {S : List Cell}
theorem RpXL.ext : ∀ {xs : List V} {ds : List D}, RpXL K w F H r xs ds → Ext F H r F' H' r' → RpXL K w F' H' r' xs ds
  | _, _, .nil, _ => .nil
  | _, _, .cons h t, e => .cons (RpX.ext h e) (RpXL.ext t e)
theorem RpXL.drs (R : Rel K F H r S) : ∀ {xs : List V} {ds : List D}, RpXL K w F H r xs ds → RpWL K F H r xs (ds.map (dr S))
  | _, _, .nil => .nil
  | _, _, .cons h t => .cons ((RpX.b h).dr R) (RpXL.drs R t)
theorem RpXL.pure : ∀ {xs : List V} {ds : List D}, RpXL K false F H r xs ds → ds.all D.pur = true → RpL K F r xs ds
  | _, _, .nil, _ => .nil
  | _, _, .cons h t, p => by
    rw [List.all_cons, Bool.and_eq_true] at p
    exact .cons h p.1 (RpXL.pure t p.2)
theorem RpXL.mono {w' : Bool} (hw : w = true → w' = true) : ∀ {xs : List V} {ds : List D}, RpXL K w F H r xs ds → RpXL K w' F H r xs ds
  | _, _, .nil => .nil
  | _, _, .cons h t => by
    refine .cons ?_ (RpXL.mono hw t)
    cases w' with
    | true => exact RpX.b h
    | false =>
      cases w with
      | true => exact absurd (hw rfl) (by decide)
      | false => exact h
end

section
variable (K : Fg) (XR : XRel) (W : L2.WX) (C : G.Cx)
def tE (e : E) : TE := fun σ H Q => ∃ F r sl S, Rel K F H r S ∧ SlOk K F H r σ sl ∧ PostE K XR W F H r σ (evE C e sl S) fun d S' F' H' r' => ∀ v, RpX K e.isB F' H' r' v d → Q v H'
def tL (w : Bool) (es : List E) : TA := fun σ H Q => ∃ F r sl S, Rel K F H r S ∧ SlOk K F H r σ sl ∧ PostE K XR W F H r σ (evL C es sl S) fun ds S' F' H' r' => ∀ vs, RpXL K w F' H' r' vs ds → Q vs H'
def tT (b : B) : TT := fun σ H Q => ∃ F r sl S, Rel K F H r S ∧ SlOk K F H r σ sl ∧ PostE K XR W F H r σ (evT C b sl S) fun t S' F' H' r' => Q t H'
def tAT (bs : List B) : TT := fun σ H Q => ∃ F r sl S, Rel K F H r S ∧ SlOk K F H r σ sl ∧ PostE K XR W F H r σ (evAndT C bs sl S) fun t S' F' H' r' => Q t H'
def tOT (bs : List B) : TT := fun σ H Q => ∃ F r sl S, Rel K F H r S ∧ SlOk K F H r σ sl ∧ PostE K XR W F H r σ (evOrT C bs sl S) fun t S' F' H' r' => Q t H'
def tAV (es : List E) : TE := fun σ H Q => ∃ F r sl S, Rel K F H r S ∧ SlOk K F H r σ sl ∧ PostE K XR W F H r σ (evAnd C es sl S) fun d S' F' H' r' => ∀ v, Rp K F' r' v d → Q v H'
def tOV (es : List E) : TE := fun σ H Q => ∃ F r sl S, Rel K F H r S ∧ SlOk K F H r σ sl ∧ PostE K XR W F H r σ (evOr C es sl S) fun d S' F' H' r' => ∀ v, Rp K F' r' v d → Q v H'
def tOpt (o : Option E) : TO := fun σ H Q => ∃ F r sl S, Rel K F H r S ∧ SlOk K F H r σ sl ∧ PostE K XR W F H r σ (evO C o sl S) fun i S' F' H' r' => Q i H'
end

/-! ### what is walked -/
def UpW (F : Hp) (r : List Addr) (F' H' : Hp) (r' : List Addr) : Prop := (∀ a o, F a = some o → F' a = some o) ∧ Pre r r'
theorem Ext.w {F H F' H' : Hp} {r r' : List Addr} (e : Ext F H r F' H' r') : UpW F r F' H' r' := ⟨e.f, e.pre⟩
/-- the walk J meets the items ds, in whatever heap comes by Up -/
structure Wk (K : Fg) (Up : Hp → Hp → List Addr → Prop) (J : It) (ds : List D) : Prop where
  go : ∀ (i : Nat) F' H' r' S', Up F' H' r' → Rel K F' H' r' S' → i < ds.length → J.go i H'
  yl : ∀ (i : Nat) d F' H' r' S' x H2, Up F' H' r' → Rel K F' H' r' S' → ds[i]? = some d → J.yld i H' x H2 → ∃ F2, Ext F' H' r' F2 H2 r' ∧ Rel K F2 H2 r' S' ∧ Rp K F2 r' x d
  st : ∀ F' H' r' S', Up F' H' r' → Rel K F' H' r' S' → J.stop ds.length H'
def upOf (w : Bool) (F H : Hp) (r : List Addr) : Hp → Hp → List Addr → Prop := match w with
  | true => Ext F H r
  | false => UpW F r
def tIt (K : Fg) (XR : XRel) (W : L2.WX) (C : G.Cx) (w : Bool) (i : I) : TI := fun σ H R' => ∃ F r sl S, Rel K F H r S ∧ SlOk K F H r σ sl ∧ PostE K XR W F H r σ (evI C i sl S) fun ds S' F' H' r' => ∀ J, Wk K (upOf w F' H' r') J ds → R' J H'
section
variable {K : Fg} {F H : Hp} {r : List Addr} {a : Addr} {xs : List V} {ds : List D}
theorem wk_list (h : SqL K F a xs) (t : RpL K F r xs ds) : Wk K (UpW F r) (Itl K a) ds := by
  refine ⟨fun i F' H' r' S' u R hi => ?_, fun i d F' H' r' S' x H2 u R hi hy => ?_, fun F' H' r' S' u R => ?_⟩
  · have q := R.sql (SqL.up u.1 h)
    have hl : i < xs.length := by rw [t.len]; exact hi
    exact ⟨xs, xs[i], q, List.getElem?_eq_getElem hl⟩
  · obtain ⟨rfl, hy⟩ := hy
    obtain ⟨v, e1, e2, _⟩ := t.get hi
    have e3 := hy xs (R.sql (SqL.up u.1 h))
    rw [e1] at e3
    cases e3
    exact ⟨F', .refl, R, e2.up u.1 u.2⟩
  · exact ⟨xs, R.sql (SqL.up u.1 h), by rw [t.len]; exact Nat.le_refl _⟩
theorem wk_tup (h : SqT K F a xs) (t : RpL K F r xs ds) : Wk K (UpW F r) (Itt K a) ds := by
  refine ⟨fun i F' H' r' S' u R hi => ?_, fun i d F' H' r' S' x H2 u R hi hy => ?_, fun F' H' r' S' u R => ?_⟩
  · have q := R.sqt (SqT.up u.1 h)
    have hl : i < xs.length := by rw [t.len]; exact hi
    exact ⟨xs, xs[i], q, List.getElem?_eq_getElem hl⟩
  · obtain ⟨rfl, hy⟩ := hy
    obtain ⟨v, e1, e2, _⟩ := t.get hi
    have e3 := hy xs (R.sqt (SqT.up u.1 h))
    rw [e1] at e3
    cases e3
    exact ⟨F', .refl, R, e2.up u.1 u.2⟩
  · exact ⟨xs, R.sqt (SqT.up u.1 h), by rw [t.len]; exact Nat.le_refl _⟩
theorem wk_own (m : Mine F H r a xs) (t : RpL K F r xs ds) : Wk K (Ext F H r) (Itl K a) ds := by
  refine ⟨fun i F' H' r' S' u R hi => ?_, fun i d F' H' r' S' x H2 u R hi hy => ?_, fun F' H' r' S' u R => ?_⟩
  · have q : SqL K H' a xs := SqL.of (m.ext u).h
    have hl : i < xs.length := by rw [t.len]; exact hi
    exact ⟨xs, xs[i], q, List.getElem?_eq_getElem hl⟩
  · obtain ⟨rfl, hy⟩ := hy
    obtain ⟨v, e1, e2, _⟩ := t.get hi
    have e3 := hy xs (SqL.of (m.ext u).h)
    rw [e1] at e3
    cases e3
    exact ⟨F', .refl, R, e2.up u.f u.pre⟩
  · exact ⟨xs, SqL.of (m.ext u).h, by rw [t.len]; exact Nat.le_refl _⟩
theorem wk_str (s : List Nat) (h : s.length ≤ lim) : Wk K (UpW F r) (Its ⟨s.toArray⟩) (s.map fun c => .str [c]) := by
  refine ⟨fun i F' H' r' S' u R hi => ?_, fun i d F' H' r' S' x H2 u R hi hy => ?_, fun F' H' r' S' u R => ?_⟩
  · rw [List.length_map] at hi
    exact (by simpa using hi : i < s.toArray.size)
  · obtain ⟨rfl, c, hc, rfl⟩ := hy
    rw [List.getElem?_map, Option.map_eq_some_iff] at hi
    obtain ⟨c', h1, rfl⟩ := hi
    have h2 : s[i]? = some c := by simpa using hc
    rw [h1] at h2
    cases h2
    exact ⟨F', .refl, R, .str [c] (by unfold lim; simp)⟩
  · rw [List.length_map]
    exact (by simp : s.toArray.size ≤ s.length)
theorem upto_len (lo : Int) : ∀ n, (upto lo n).length = n
  | 0 => rfl
  | n + 1 => by
    unfold upto
    rw [List.length_cons, upto_len]
theorem upto_get : ∀ (lo : Int) (n i : Nat), i < n → (upto lo n)[i]? = some (.int (lo + i))
  | lo, 0, i, h => by omega
  | lo, n + 1, 0, h => by simp [upto]
  | lo, n + 1, i + 1, h => by
    unfold upto
    rw [List.getElem?_cons_succ, upto_get (lo + 1) n i (by omega)]
    congr 2
    omega
theorem wk_rng (lo : Int) (n : Nat) : Wk K (UpW F r) (Itr lo n) (upto lo n) := by
  refine ⟨fun i F' H' r' S' u R hi => ?_, fun i d F' H' r' S' x H2 u R hi hy => ?_, fun F' H' r' S' u R => ?_⟩
  · rw [upto_len] at hi
    exact hi
  · obtain ⟨rfl, rfl⟩ := hy
    have hl := (List.getElem?_eq_some_iff.mp hi).1
    rw [upto_len] at hl
    rw [upto_get lo n i hl] at hi
    cases hi
    exact ⟨F', .refl, R, .int _⟩
  · rw [upto_len]
    exact Nat.le_refl _
theorem Wk.up {Up Up' : Hp → Hp → List Addr → Prop} {J : It} (h : Wk K Up J ds) (k : ∀ F' H' r', Up' F' H' r' → Up F' H' r') : Wk K Up' J ds :=
  ⟨fun i F' H' r' S' u R => h.go i F' H' r' S' (k _ _ _ u) R, fun i d F' H' r' S' x H2 u R => h.yl i d F' H' r' S' x H2 (k _ _ _ u) R, fun F' H' r' S' u R => h.st F' H' r' S' (k _ _ _ u) R⟩
theorem Wk.of {w : Bool} {J : It} (h : Wk K (UpW F r) J ds) : Wk K (upOf w F H r) J ds := by
  cases w with
  | true => exact h.up fun _ _ _ e => e.w
  | false => exact h
end
/-- a list, a tuple or a text, walked -/
theorem pi_any {X : L2.Cx} {tg l : Expr} {tl : TE} (hl : PE X l tl) : PI X tg l (fun σ H R => tl σ H fun x H1 => (∃ a, x = .ref a ∧ (∃ xs, SqL X.K H1 a xs) ∧ R (Itl X.K a) H1) ∨ (∃ a, x = .ref a ∧ (∃ xs, SqT X.K H1 a xs) ∧ R (Itt X.K a) H1) ∨ ∃ z, x = .str z ∧ R (Its z) H1) := by
  refine ⟨fun pins s σ H R I h => ?_⟩
  refine thn (hl.run pins s σ H _ I h) fun v s1 ⟨x, H1, I1, r1, q1⟩ => ?_
  rcases q1 with ⟨a, e, ⟨xs, hq⟩, q⟩ | ⟨a, e, ⟨xs, hq⟩, q⟩ | ⟨z, e, q⟩
  · subst e
    cases r1
    obtain ⟨its, rv, p, hz⟩ := I1.list hq
    refine wpAny_pyIter_list p.isList ?_
    refine ⟨s1.heap.objs.size, [s1.heap.objs.size], _, _, H1, rfl, I1.kept (t' := s1.toks) fun b o e => Heap.get?_push_of_some _ e, turn_list a _, ⟨_, Heap.get?_push_size _ rfl, rfl, rfl⟩, fun b hb => ?_, q⟩
    have e : b = s1.heap.objs.size := by simpa using hb
    subst e
    exact I1.fpOk (Nat.le_refl _) (I1.hok.fresh (Nat.le_refl _))
  · subst e
    cases r1
    obtain ⟨its, rv, p, hz⟩ := I1.tuple hq
    refine wpAny_pyIter_tuple (show s1.heap.IsTuple a its.toArray from p) ?_
    refine ⟨s1.heap.objs.size, [s1.heap.objs.size], _, _, H1, rfl, I1.kept (t' := s1.toks) fun b o e => Heap.get?_push_of_some _ e, turn_tuple a _, ⟨_, Heap.get?_push_size _ rfl, rfl, rfl⟩, fun b hb => ?_, q⟩
    have e : b = s1.heap.objs.size := by simpa using hb
    subst e
    exact I1.fpOk (Nat.le_refl _) (I1.hok.fresh (Nat.le_refl _))
  · subst e
    obtain ⟨t, rfl⟩ := r1
    cases ha : z.cps.all (· < 128)
    · exact wpAny_pyIter_wide ha (pi_one (tk := s1.toks) I1 _ (turn_str _ z t "str_iterator" (.inr rfl)) ⟨_, Heap.get?_push_size _ rfl, rfl, rfl⟩ q)
    · exact wpAny_pyIter_ascii ha (pi_one (tk := s1.toks) I1 _ (turn_str _ z t "str_ascii_iterator" (.inl rfl)) ⟨_, Heap.get?_push_size _ rfl, rfl, rfl⟩ q)

/-! ### a def's contract, where no repr runs -/
structure FnG (P : Program) (w : World) (K : Fg) (mg : Str → Option Value) (base : Heap) (CX : CXT) (k : Nat) (f : Addr) (fd : FuncData) (ps : List Str) (sp : Sp) : Prop where
  len : ∀ vs H Q E, sp vs H Q E → vs.length = ps.length
  run : ∀ (A : Around) (outer : List Env) (s : Shared) (H : Hp) (args : Args) (us : List Value) (vs : List V) (Q : VK) (E : XK), A.guards = some [] → Room k A → Env0 P w K mg base A outer s H → BindsTo s fd args (ps.zip us) → Vals vs us → sp vs H Q E →
    codeAny (model P w) A (.call (.ref f) args) (CR CX outer P w H s Q E) s
section
variable {X : L2.Cx} {CX : CXT} {k : Nat} {f : Addr} {fd : FuncData} {ps : List Str} {sp : Sp} {E : L2.St → XK} {x : Str} {p pos : Pos} {e : Expr} {es : List Expr} {t : TA}
theorem run_fnG {pins : List (Addr × Obj)} {σ : L2.St} {H : Hp} {s : Shared} {Q : VK} {us : List Value} {vs : List V} (F : FnG X.prog X.w X.K X.mg X.base CX k f fd ps sp) (hg : X.A.guards = some []) (hr : Room k X.A) (hb : Binds X.K fd ps []) (hx : PassesAt CX X σ (E σ))
    (I : Inv X pins σ H s) (r : Vals vs us) (h : sp vs H Q (E σ)) : wpAny (model X.prog X.w) X.A (call (.ref f) us) (EP X pins σ Q) X.xe s := by
  have hl : us.length = ps.length := by rw [← r.length]; exact F.len _ _ _ _ h
  have b := hb s us I.kIn (by rw [List.append_nil]; exact hl)
  rw [List.append_nil] at b
  refine wpAny_call (codeAny_mono (F.run X.A X.stack s H ⟨us, []⟩ us vs Q (E σ) hg hr I.env0 b r h) fun r s' hq => ?_)
  cases r with
  | error e => exact hx pins H s e s' I hq
  | ok fl =>
    cases fl with
    | ret u => exact I.after hq
    | next => exact False.elim hq
    | brk => exact False.elim hq
    | cont => exact False.elim hq
theorem pe_callG (F : FnG X.prog X.w X.K X.mg X.base CX k f fd ps sp) (hgd : X.A.guards = some []) (hr : Room k X.A) (hg : Gl X x) (hm : X.mg x = some (.ref f)) (hk : PySem.W.keepIn X.K (.ref f) = true) (hb : Binds X.K fd ps []) (hx : ∀ σ, PassesAt CX X σ (E σ))
    (ha : PA X (e :: es) t) (hdb : (x == ("__debug__" : Str)) = false) (he : starEach (e :: es) X.env = (false, eval e X.env) :: starEach es X.env) (hpl : (backTo pos (starEach es X.env)).any (·.1) = false) :
    PE X (.Call (.Name x p) (e :: es) [] pos) (tCallS sp E t) := by
  refine ⟨fun pins s σ H Q I h => ?_⟩
  refine wpAny_Call_Name_kw (ld_glob I hg hm ?_ hdb)
  refine PySem.W.callWith_K (h₀ := X.base) I.ok.mod.kin hk (thn (ha.run pos pins s σ H _ I h) fun us s1 ⟨vs, H1, I1, r, q⟩ => ⟨I1.kIn, ?_⟩) he hpl
  exact run_fnG F hgd hr hb (hx σ) I1 r q
theorem pe_callG0 (F : FnG X.prog X.w X.K X.mg X.base CX k f fd ps sp) (hgd : X.A.guards = some []) (hr : Room k X.A) (hg : Gl X x) (hm : X.mg x = some (.ref f)) (hk : PySem.W.keepIn X.K (.ref f) = true) (hb : Binds X.K fd ps []) (hx : ∀ σ, PassesAt CX X σ (E σ))
    (hdb : (x == ("__debug__" : Str)) = false) : PE X (.Call (.Name x p) [] [] pos) (tCallS sp E tNil) := by
  refine ⟨fun pins s σ H Q I h => ?_⟩
  refine wpAny_Call_Name_kw (ld_glob I hg hm ?_ hdb)
  exact PySem.W.callWith_K0 I.kIn hk (run_fnG (us := []) F hgd hr hb (hx σ) I .nil h)
end
end G
end S_GSnd
section S_GSnd2
set_option linter.all false
set_option maxRecDepth 100000
set_option maxHeartbeats 1000000
/-! GSnd2: the expressions of the small language, one rule each. -/
namespace G
open PySem PySem.Spec PyProof.Rows L2

theorem pe_imp {X : L2.Cx} {ex : Expr} {t t' : TE} (h : PE X ex t) (k : ∀ σ H Q, t' σ H Q → t σ H Q) : PE X ex t' := ⟨fun pins s σ H Q I q => h.run pins s σ H Q I (k σ H Q q)⟩
theorem pt_imp {X : L2.Cx} {ex : Expr} {t t' : TT} (h : PT X ex t) (k : ∀ σ H Q, t' σ H Q → t σ H Q) : PT X ex t' := ⟨fun pins s σ H Q I q => h.run pins s σ H Q I (k σ H Q q)⟩
theorem pw_imp {X : L2.Cx} {ex : Expr} {t t' : TT} (h : PW X ex t) (k : ∀ σ H Q, t' σ H Q → t σ H Q) : PW X ex t' := ⟨fun w pins s σ H Q I q => h.run w pins s σ H Q I (k σ H Q q)⟩
theorem pa_imp {X : L2.Cx} {ex : List Expr} {t t' : TA} (h : PA X ex t) (k : ∀ σ H Q, t' σ H Q → t σ H Q) : PA X ex t' := ⟨fun w pins s σ H Q I q => h.run w pins s σ H Q I (k σ H Q q)⟩
theorem po_imp {X : L2.Cx} {ex : Option Expr} {t t' : TO} (h : PO X ex t) (k : ∀ σ H Q, t' σ H Q → t σ H Q) : PO X ex t' := ⟨fun pins s σ H Q I q => h.run pins s σ H Q I (k σ H Q q)⟩
theorem pi_imp {X : L2.Cx} {tg ex : Expr} {t t' : TI} (h : PI X tg ex t) (k : ∀ σ H Q, t' σ H Q → t σ H Q) : PI X tg ex t' := ⟨fun pins s σ H Q I q => h.run pins s σ H Q I (k σ H Q q)⟩

/-! ### new lists -/
section
variable {K : Fg} {F H : Hp} {r : List Addr} {S : List Cell} {p : Addr} {xs : List V} {ds : List D} {d : D} {Q : VK} {σ : L2.St} {sl : List Sl}
theorem Ext.add (R : Rel K F H r S) {o : HO} (hp : H p = none) : Ext F H r F (upd H p o) r := by
  refine ⟨fun _ _ h => h, fun a o' h n => ?_, fun a o' h _ => ?_, fun a o' h => ?_, [], by simp, fun a h => nomatch h⟩
  · rw [n] at h
    cases h
  · rw [upd_ne (ne_of_none h hp)]
    exact h
  · exact ⟨o', by rw [upd_ne (ne_of_none h hp)]; exact h⟩
theorem Rel.nr (R : Rel K F H r S) (hp : H p = none) : p ∉ r := fun z => by
  obtain ⟨o, q⟩ := R.there z
  rw [hp] at q
  cases q
theorem Rel.nF (R : Rel K F H r S) (hp : H p = none) : F p = none := by
  cases q : F p with
  | none => rfl
  | some o =>
    have z := R.sub p o q
    rw [hp] at z
    cases z
/-- an address that is neither a cell's nor among what stays, written -/
theorem Rel.put (R : Rel K F H r S) {o : HO} (hf : F p = none) (hr : p ∉ r) : Rel K F (upd H p o) r S := by
  refine ⟨fun a o' h => ?_, R.len, R.inj, R.nf, fun i a c h1 h2 => ?_⟩
  · have ne : a ≠ p := fun z => by
      rw [z, hf] at h
      cases h
    rw [upd_ne ne]
    exact R.sub a o' h
  · have ne : a ≠ p := fun z => hr (z ▸ mem_r h1)
    have k := R.cell i a c h1 h2
    cases c with
    | lst ds =>
      obtain ⟨xs, e1, e2⟩ := k
      exact ⟨xs, by rw [upd_ne ne]; exact e1, e2⟩
    | dead =>
      obtain ⟨o', e1⟩ := k
      exact ⟨o', by rw [upd_ne ne]; exact e1⟩
theorem Rel.mine (R : Rel K F H r S) (hp : H p = none) : Mine F (upd H p (.lst xs)) r p xs := ⟨upd_same, R.nF hp, R.nr hp⟩
/-- a list of our own becomes data -/
theorem Rel.frz (R : Rel K F H r S) (m : Mine F H r p xs) : Rel K (upd F p (.lst xs)) H r S := by
  refine ⟨fun a o h => ?_, R.len, R.inj, fun i a h => ?_, fun i a c h1 h2 => ?_⟩
  · by_cases z : a = p
    · subst z
      rw [upd_same] at h
      cases h
      exact m.h
    · rw [upd_ne z] at h
      exact R.sub a o h
  · rw [upd_ne fun z => m.r (by rw [← z]; exact mem_r h)]
    exact R.nf i a h
  · have up : ∀ b o, F b = some o → upd F p (.lst xs) b = some o := fun b o h => by
      rw [upd_ne fun z => by rw [z, m.f] at h; cases h]
      exact h
    have k := R.cell i a c h1 h2
    cases c with
    | lst ds =>
      obtain ⟨xs, e1, e2⟩ := k
      exact ⟨xs, e1, e2.up up (Pre.refl _)⟩
    | dead => exact k
theorem Mine.up {F : Hp} (m : Mine F H r p xs) : ∀ b o, F b = some o → upd F p (.lst xs) b = some o := fun b o h => by
  rw [upd_ne fun z => by rw [z, m.f] at h; cases h]
  exact h

/-- what follows with a value; a list is one of our own, new to H0 -/
def FrX (K : Fg) (H0 F H : Hp) (r : List Addr) : D → VK → Prop
  | .lst ds, Q => ∀ p xs, RpL K F r xs ds → Mine F H r p xs → H0 p = none → Q (.ref p) H
  | d, Q => ∀ v, Rp K F r v d → Q v H
theorem Ext.frz {F0 H0 : Hp} {r0 : List Addr} (e : Ext F0 H0 r0 F H r) (m : Mine F H r p xs) (n : H0 p = none) : Ext F0 H0 r0 (upd F p (.lst xs)) H r := by
  refine ⟨fun a o h => m.up _ _ (e.f a o h), fun a o h hn => ?_, e.h, e.t, e.p⟩
  by_cases z : a = p
  · subst z
    exact n
  · rw [upd_ne z] at h
    exact e.fn a o h hn
theorem FrX.of {F0 H0 : Hp} {r0 : List Addr} (e : Ext F0 H0 r0 F H r) (R : Rel K F H r S) (q : ∀ F' H' r', Ext F0 H0 r0 F' H' r' → Rel K F' H' r' S → ∀ v, Rp K F' r' v d → Q v H') : FrX K H0 F H r d Q := by
  cases d with
  | lst ds => exact fun p xs h m n => q _ _ _ (e.frz m n) (R.frz m) _ (.lst (SqL.of upd_same) (h.up m.up (Pre.refl _)))
  | _ => exact q F H r e R
/-- a new list by Res -/
theorem FrX.res {F0 H0 : Hp} {r0 : List Addr} (e : Ext F0 H0 r0 F H r) (R : Rel K F H r S) (q : ∀ F' H' r', Ext F H r F' H' r' → Rel K F' H' r' S → FrX K H0 F' H' r' d Q) : ResX K F H r S d Q := by
  have go : (∀ ds, d ≠ .lst ds) → Res K F H r S d Q := fun n v F' H' r' e' R' h => by
    have z := q F' H' r' e' R'
    cases d with
    | lst ds => exact absurd rfl (n ds)
    | _ => exact z v h
  cases d with
  | lst ds => exact fun p xs h hp => q _ _ _ (Ext.add R hp) (R.put (R.nF hp) (R.nr hp)) p xs h (R.mine hp) (e.free hp)
  | _ => exact go (fun _ z => nomatch z)
end

section
variable (K : Fg) (XR : XRel) (W : L2.WX) (C : G.Cx)
def tEX (e : E) : TE := fun σ H Q => ∃ F r sl S, Rel K F H r S ∧ SlOk K F H r σ sl ∧ PostE K XR W F H r σ (evE C e sl S) fun d S' F' H' r' => FrX K H F' H' r' d Q
end
section
variable {K : Fg} {XR : XRel} {W : L2.WX} {C : G.Cx}
theorem tE.x {e : E} (hb : e.isB = false) (σ : L2.St) (H : Hp) (Q : VK) (h : tE K XR W C e σ H Q) : tEX K XR W C e σ H Q := by
  obtain ⟨F, r, sl, S, R, so, h⟩ := h
  refine ⟨F, r, sl, S, R, so, ?_⟩
  rw [hb] at h
  generalize evE C e sl S = m at h ⊢
  cases m with
  | ok d S' => exact fun F' H' r' e' R' => FrX.of e' R' h
  | exc c x S' => exact h
  | stk => exact h
theorem tE.pl {e : E} (hb : e.isB = false) {σ : L2.St} {H : Hp} {Q : VK} (h : tE K XR W C e σ H Q) : ∃ F r sl S, Rel K F H r S ∧ SlOk K F H r σ sl ∧ PostE K XR W F H r σ (evE C e sl S) fun d S' F' H' r' => ∀ v, Rp K F' r' v d → Q v H' := by
  unfold tE at h
  rw [hb] at h
  exact h

section
variable {F H : Hp} {r : List Addr} {σ : L2.St} {sl : List Sl} {S : List Cell} {a b c : E} {es : List E} {α : Type} {P : α → List Cell → Hp → Hp → List Addr → Prop}
theorem tE.one {m : D → List Cell → Rs α} {G : V → Hp → Prop} (h : PostE K XR W F H r σ ((evE C a sl S).bind m) P) (R : Rel K F H r S) (so : SlOk K F H r σ sl)
    (k : ∀ x d F' H' r' S', Ext F H r F' H' r' → Rel K F' H' r' S' → RpX K a.isB F' H' r' x d → PostE K XR W F' H' r' σ (m d S') P → G x H') : tE K XR W C a σ H G :=
  ⟨F, r, sl, S, R, so, PostE.imp h.bind fun d S1 F1 H1 r1 e1 R1 h1 v hv => k v d F1 H1 r1 S1 e1 R1 hv h1⟩
theorem tE.two {m : D → D → List Cell → Rs α} {G : V → V → Hp → Prop} (h : PostE K XR W F H r σ ((evE C a sl S).bind fun x S => (evE C b sl S).bind fun y S => m x y S) P) (R : Rel K F H r S) (so : SlOk K F H r σ sl)
    (k : ∀ x y d e F' H' r' S', Ext F H r F' H' r' → Rel K F' H' r' S' → RpX K a.isB F' H' r' x d → RpX K b.isB F' H' r' y e → PostE K XR W F' H' r' σ (m d e S') P → G x y H') : tE K XR W C a σ H fun x H1 => tE K XR W C b σ H1 fun y H2 => G x y H2 :=
  tE.one h R so fun x d F1 H1 r1 S1 e1 R1 rx h1 => tE.one h1 R1 (so.ext e1) fun y e F2 H2 r2 S2 e2 R2 ry h2 => k x y d e F2 H2 r2 S2 (e1.trans e2) R2 (rx.ext e2) ry h2
theorem tL.one {w : Bool} {m : List D → List Cell → Rs α} {G : List V → Hp → Prop} (h : PostE K XR W F H r σ ((evL C es sl S).bind m) P) (R : Rel K F H r S) (so : SlOk K F H r σ sl)
    (k : ∀ xs ds F' H' r' S', Ext F H r F' H' r' → Rel K F' H' r' S' → RpXL K w F' H' r' xs ds → PostE K XR W F' H' r' σ (m ds S') P → G xs H') : tL K XR W C w es σ H G :=
  ⟨F, r, sl, S, R, so, PostE.imp h.bind fun d S1 F1 H1 r1 e1 R1 h1 v hv => k v d F1 H1 r1 S1 e1 R1 hv h1⟩
theorem tT.one {b : B} {m : Bool → List Cell → Rs α} {G : Bool → Hp → Prop} (h : PostE K XR W F H r σ ((evT C b sl S).bind m) P) (R : Rel K F H r S) (so : SlOk K F H r σ sl)
    (k : ∀ t F' H' r' S', Ext F H r F' H' r' → Rel K F' H' r' S' → PostE K XR W F' H' r' σ (m t S') P → G t H') : tT K XR W C b σ H G :=
  ⟨F, r, sl, S, R, so, PostE.imp h.bind fun d S1 F1 H1 r1 e1 R1 h1 => k d F1 H1 r1 S1 e1 R1 h1⟩
theorem tOpt.one {o : Option E} {m : Option Int → List Cell → Rs α} {G : Option Int → Hp → Prop} (h : PostE K XR W F H r σ ((evO C o sl S).bind m) P) (R : Rel K F H r S) (so : SlOk K F H r σ sl)
    (k : ∀ t F' H' r' S', Ext F H r F' H' r' → Rel K F' H' r' S' → PostE K XR W F' H' r' σ (m t S') P → G t H') : tOpt K XR W C o σ H G :=
  ⟨F, r, sl, S, R, so, PostE.imp h.bind fun d S1 F1 H1 r1 e1 R1 h1 => k d F1 H1 r1 S1 e1 R1 h1⟩
end

/-! ### the rules -/
section
variable {X : L2.Cx} {pos : Pos} {a b c : E} {xa xb xc : Expr}
theorem e_bin {o : Op2} (ha : PE X xa (tE X.K XR W C a)) (hb : PE X xb (tE X.K XR W C b)) : PE X (.BinOp xa (opM o) xb pos) (tEX X.K XR W C (.bin o a b)) := by
  refine pe_imp (pe_op (snd_bin o) ha hb) fun σ H Q ⟨F, r, sl, S, R, so, h⟩ => ?_
  unfold evE at h
  refine tE.two h R so fun x y d e F' H' r' S' ex R' rx ry h' => ?_
  obtain ⟨z, hz, q⟩ := h'.of
  exact ⟨F', r', S', _, _, z, R', rx.b.dr R', ry.b.dr R', hz, FrX.res ex R' q⟩
end
end
end G
end S_GSnd2
section S_GSnd3
set_option linter.all false
set_option maxRecDepth 100000
set_option maxHeartbeats 1000000
/-! GSnd3: more rules. -/
namespace G
open PySem PySem.Spec PyProof.Rows L2

/-! ### forms -/
def noStar : Expr → Bool
  | .Starred .. => false
  | _ => true
theorem star_cons {e : Expr} {es : List Expr} {env : Env} (h : noStar e = true) : starEach (e :: es) env = (false, eval e env) :: starEach es env := by
  cases e <;> first | rfl | cases h
theorem star_any {env : Env} {pos : Pos} : ∀ {es : List Expr}, es.all noStar = true → (backTo pos (starEach es env)).any (·.1) = false
  | [], _ => rfl
  | e :: es, h => by
    rw [List.all_cons, Bool.and_eq_true] at h
    rw [star_cons h.1]
    show (false || (backTo pos (starEach es env)).any (·.1)) = false
    rw [star_any h.2]
    rfl
theorem star_all {env : Env} {pos : Pos} : ∀ {es : List Expr}, es.all noStar = true → (backTo pos (starEach es env)).all (fun x => !x.1) = true
  | [], _ => rfl
  | e :: es, h => by
    rw [List.all_cons, Bool.and_eq_true] at h
    rw [star_cons h.1]
    show (true && (backTo pos (starEach es env)).all fun x => !x.1) = true
    rw [star_all h.2]
    rfl
theorem asg_cons {e : Expr} {es : List Expr} {env : Env} (h : noStar e = true) : assignEach (e :: es) env = (false, assign e env) :: assignEach es env := by
  cases e <;> first | rfl | cases h
def isSetX : Expr → Bool
  | .Set .. => true
  | _ => false
theorem set_behind {e : Expr} {op : CmpOp} (h : isSetX e = false) : behindInMarks op e = false := by
  cases e <;> first | rfl | cases h
theorem set_folded {e : Expr} {env : Env} (h : isSetX e = false) (x : Value) : foldedSetIterable e env x = pure x := by
  cases e <;> first | rfl | cases h
theorem set_last {b c : Expr} {o o' : CmpOp} (h : isSetX c = false) : lastMarks [o, o'] [b, c] = false := by
  show behindInMarks o' c = false
  exact set_behind h
def isSliceX : Expr → Bool
  | .Slice .. => true
  | _ => false
theorem slice_plain {e : Expr} (h : isSliceX e = false) : PlainIx e := by
  cases e <;> first | exact fun _ _ => rfl | cases h

section
variable {K : Fg} {F H : Hp} {r : List Addr} {S : List Cell} {v : V} {d : D} {k : Bool}
theorem tru_of (R : Rel K F H r S) (h : RpW K F H r v d) (e : truthy d = some k) : TruV K v H k := by
  cases d with
  | non =>
    cases h.non
    cases e
    rfl
  | bl b =>
    cases h.bl
    cases e
    rfl
  | int i =>
    cases h.int
    cases e
    rfl
  | str s =>
    obtain ⟨rfl, hl⟩ := h.str
    have e : some (!s.isEmpty) = some k := e
    cases e
    refine ⟨?_, ?_⟩
    · show s.toArray.size ≤ sizeLine
      rw [← lim_eq, List.size_toArray]
      exact hl
    · show (!s.isEmpty) = ((s.toArray.size : Int) != 0)
      rw [List.size_toArray]
      cases s <;> rfl
  | tup ds =>
    obtain ⟨a, xs, rfl, hx, tx⟩ := h.tup R
    have e : some (!ds.isEmpty) = some k := e
    cases e
    refine .inr (.inl ⟨xs, hx, ?_⟩)
    cases tx <;> rfl
  | lst ds =>
    obtain ⟨a, xs, rfl, hx, tx⟩ := h.lst R
    have e : some (!ds.isEmpty) = some k := e
    cases e
    refine .inl ⟨xs, hx, ?_⟩
    cases tx <;> rfl
  | loc n => cases e
  | exc c x => cases e
end
theorem Rs.len {C : G.Cx} {sl : List Sl} : ∀ {es : List E} {S S' : List Cell} {ds : List D}, evL C es sl S = .ok ds S' → ds.length = es.length
  | [], S, S', ds, h => by
    unfold evL at h
    cases h
    rfl
  | e :: es, S, S', ds, h => by
    unfold evL at h
    cases h1 : evE C e sl S with
    | ok d S1 =>
      rw [h1] at h
      have h : ((evL C es sl S1).bind fun ds S => .ok (d :: ds) S) = .ok ds S' := h
      cases h2 : evL C es sl S1 with
      | ok es2 S2 =>
        rw [h2] at h
        cases h
        rw [List.length_cons, List.length_cons, Rs.len h2]
      | exc _ _ _ => rw [h2] at h; cases h
      | stk => rw [h2] at h; cases h
    | exc _ _ _ => rw [h1] at h; cases h
    | stk => rw [h1] at h; cases h
theorem tL.oneN {K : Fg} {XR : XRel} {W : L2.WX} {C : G.Cx} {F H : Hp} {r : List Addr} {σ : L2.St} {sl : List Sl} {S : List Cell} {es : List E} {α : Type} {P : α → List Cell → Hp → Hp → List Addr → Prop} {w : Bool} {m : List D → List Cell → Rs α} {G : List V → Hp → Prop} (h : PostE K XR W F H r σ ((evL C es sl S).bind m) P) (R : Rel K F H r S) (so : SlOk K F H r σ sl)
    (k : ∀ xs ds F' H' r' S', ds.length = es.length → Ext F H r F' H' r' → Rel K F' H' r' S' → RpXL K w F' H' r' xs ds → PostE K XR W F' H' r' σ (m ds S') P → G xs H') : tL K XR W C w es σ H G := by
  refine ⟨F, r, sl, S, R, so, ?_⟩
  have h1 := h.bind
  cases hv : evL C es sl S with
  | ok ds S' =>
    rw [hv] at h1
    exact fun F' H' r' e' R' v hv' => k v ds F' H' r' S' (Rs.len hv) e' R' hv' (h1 F' H' r' e' R')
  | exc c x S' =>
    rw [hv] at h1
    exact h1
  | stk =>
    rw [hv] at h1
    exact h1

def kOk : D → Const → Bool
  | .non, .none => true
  | .bl b, .bool b' => b == b'
  | .int i, .int j => decide (i = j)
  | .str s, .str x => decide (x = ⟨s.toArray⟩) && decide (s.length ≤ lim)
  | _, _ => false

section
variable {XR : XRel} {W : L2.WX} {C : G.Cx} {X : L2.Cx} {pos : Pos} {a b c : E} {xa xb xc : Expr} {es : List E} {xs : List Expr}
theorem e_k {d : D} {k : Const} {j : Nat} (h : kOk d k = true) : PE X (.Constant k j pos) (tE X.K XR W C (.k d)) := by
  cases d with
  | non =>
    cases k <;> first | cases h | skip
    exact pe_imp pe_non fun σ H Q ⟨F, r, sl, S, R, so, h⟩ => h F H r .refl R _ .non
  | bl b =>
    cases k <;> first | cases h | skip
    rename_i b'
    have e : b = b' := by simpa [kOk] using h
    subst e
    exact pe_imp pe_bl fun σ H Q ⟨F, r, sl, S, R, so, h⟩ => h F H r .refl R _ (.bl _)
  | int i =>
    cases k <;> first | cases h | skip
    rename_i j
    have e : i = j := by simpa [kOk] using h
    subst e
    exact pe_imp pe_int fun σ H Q ⟨F, r, sl, S, R, so, h⟩ => h F H r .refl R _ (.int _)
  | str s =>
    cases k <;> first | cases h | skip
    rename_i x
    simp only [kOk, Bool.and_eq_true, decide_eq_true_eq] at h
    obtain ⟨rfl, hl⟩ := h
    exact pe_imp pe_str fun σ H Q ⟨F, r, sl, S, R, so, h⟩ => h F H r .refl R _ (.str _ hl)
  | _ => cases k <;> cases h
theorem e_v {i : Nat} {x : Str} (hN : X.N[i]? = some x) (hv : Vis X.env.scope x) (hd : (x == ("__debug__" : Str)) = false) (hcd : (x == ("__classdict__" : Str)) = false) : PE X (.Name x pos) (tE X.K XR W C (.v i)) := by
  refine pe_imp (pe_var hN hv hd hcd) fun σ H Q ⟨F, r, sl, S, R, so, h⟩ => ?_
  unfold evE at h
  cases hs : sl[i]? with
  | none => rw [hs] at h; exact h.elim
  | some y =>
    rw [hs] at h
    cases y with
    | v d =>
      obtain ⟨x, e1, e2⟩ := so.v i d hs
      exact ⟨x, e1, h F H r .refl R _ e2⟩
    | nil => exact h.elim
    | own _ => exact h.elim
theorem e_b {i : Nat} {x : Str} (hN : X.N[i]? = some x) (hv : Vis X.env.scope x) (hd : (x == ("__debug__" : Str)) = false) (hcd : (x == ("__classdict__" : Str)) = false) : PE X (.Name x pos) (tE X.K XR W C (.b i)) := by
  refine pe_imp (pe_var hN hv hd hcd) fun σ H Q ⟨F, r, sl, S, R, so, h⟩ => ?_
  unfold evE at h
  cases hs : sl[i]? with
  | none => rw [hs] at h; exact h.elim
  | some y =>
    rw [hs] at h
    cases y with
    | v d =>
      obtain ⟨x, e1, e2⟩ := so.v i d hs
      exact ⟨x, e1, h F H r .refl R _ (RpB.st e2)⟩
    | nil => exact h.elim
    | own ds =>
      obtain ⟨p, xs, e1, e2, e3, e4, e5⟩ := so.own i ds hs
      exact ⟨.ref p, e1, h F H r .refl R _ (RpB.ow ⟨e2, e3, e4⟩ e5)⟩
theorem e_g {n : Nat} {x : Str} {v : V} {u : Value} (hg : Gl X x) (hm : X.mg x = some u) (rv : RelV v u) (hd : (x == ("__debug__" : Str)) = false) (hk : ∀ d F r, C.glob n = some d → Rp X.K F r v d) : PE X (.Name x pos) (tE X.K XR W C (.g n)) := by
  refine pe_imp (pe_glob hg hm rv hd) fun σ H Q ⟨F, r, sl, S, R, so, h⟩ => ?_
  unfold evE at h
  obtain ⟨d, hd, q⟩ := PostE.of h
  exact q F H r .refl R _ (hk d F r hd)
theorem e_tup {k : Nat} (hn : es.length ≤ 1000) (hs : PA X xs (tL X.K XR W C false es)) : PE X (.Tuple xs k pos) (tE X.K XR W C (.tup es)) := by
  refine pe_imp (pe_tup hs) fun σ H Q ⟨F, r, sl, S, R, so, h⟩ => ?_
  unfold evE at h
  refine tL.oneN h R so fun vs ds F' H' r' S' hl ex R' rx h' => ?_
  by_cases hp : ds.all D.pur = true
  · rw [if_pos hp] at h'
    have t := rx.pure hp
    refine ⟨?_, fun p hp => ?_⟩
    · rw [t.len, hl, ← lim_eq]
      unfold lim
      omega
    · have e : Ext F' H' r' (upd F' p (.tup vs)) (upd H' p (.tup vs)) r' := Ext.new R' hp
      exact h' _ _ _ e (R'.new hp) _ (.tup (SqT.of upd_same) (t.up e.f e.pre))
  · rw [if_neg hp] at h'
    exact h'.elim
theorem e_lst (hn : es.length ≤ 1000) (hs : PA X xs (tL X.K XR W C false es)) : PE X (.List xs pos) (tEX X.K XR W C (.lst es)) := by
  refine pe_imp (pe_lst hs) fun σ H Q ⟨F, r, sl, S, R, so, h⟩ => ?_
  unfold evE at h
  refine tL.oneN h R so fun vs ds F' H' r' S' hl ex R' rx h' => ?_
  by_cases hp : ds.all D.pur = true
  · rw [if_pos hp] at h'
    have t := rx.pure hp
    refine ⟨?_, fun p hp => ?_⟩
    · rw [t.len, hl, ← lim_eq]
      unfold lim
      omega
    · exact h' _ _ _ (Ext.add R' hp) (R'.put (R'.nF hp) (R'.nr hp)) p vs t (R'.mine hp) (ex.free hp)
  · rw [if_neg hp] at h'
    exact h'.elim
theorem Rel.cel {K : Fg} {F H : Hp} {r : List Addr} {S : List Cell} {p : Addr} {vs : List V} {ds : List D} (R : Rel K F H r S) (hp : H p = none) (t : RpL K F r vs ds) : Ext F H r F (upd H p (.lst vs)) (r ++ [p]) ∧ Rel K F (upd H p (.lst vs)) (r ++ [p]) (S ++ [.lst ds]) ∧ (r ++ [p])[S.length]? = some p := by
  have e : Ext F H r F (upd H p (.lst vs)) (r ++ [p]) := by
    have e0 := Ext.add (o := .lst vs) R hp
    exact ⟨e0.f, e0.fn, e0.h, e0.t, [p], rfl, fun a h => by rw [List.mem_singleton.mp h]; exact hp⟩
  have R0 : Rel K F (upd H p (.lst vs)) r S := R.put (R.nF hp) (R.nr hp)
  have at_ : (r ++ [p])[r.length]? = some p := by simp
  refine ⟨e, ⟨R0.sub, by rw [List.length_append, List.length_append, R.len]; rfl, fun i j a h1 h2 => ?_, fun i a h1 => ?_, fun i a c h1 h2 => ?_⟩, by rw [← R.len]; exact at_⟩
  · have bd : ∀ i, (r ++ [p])[i]? = some a → (i < r.length ∧ r[i]? = some a) ∨ (i = r.length ∧ a = p) := fun i h => by
      by_cases hi : i < r.length
      · rw [List.getElem?_append_left hi] at h
        exact .inl ⟨hi, h⟩
      · obtain ⟨hl, _⟩ := List.getElem?_eq_some_iff.mp h
        rw [List.length_append, List.length_singleton] at hl
        have e : i = r.length := by omega
        subst e
        rw [at_] at h
        cases h
        exact .inr ⟨rfl, rfl⟩
    rcases bd i h1 with ⟨hi, g1⟩ | ⟨hi, g1⟩ <;> rcases bd j h2 with ⟨hj, g2⟩ | ⟨hj, g2⟩
    · exact R.inj i j a g1 g2
    · subst g2
      exact absurd (mem_r g1) (R.nr hp)
    · subst g1
      exact absurd (mem_r g2) (R.nr hp)
    · omega
  · by_cases hi : i < r.length
    · rw [List.getElem?_append_left hi] at h1
      exact R.nf i a h1
    · obtain ⟨hl, _⟩ := List.getElem?_eq_some_iff.mp h1
      rw [List.length_append, List.length_singleton] at hl
      have e : i = r.length := by omega
      subst e
      rw [at_] at h1
      cases h1
      exact R.nF hp
  · have pre : Pre r (r ++ [p]) := ⟨[p], rfl⟩
    by_cases hi : i < r.length
    · rw [List.getElem?_append_left hi] at h1
      rw [List.getElem?_append_left (by rw [← R.len]; exact hi)] at h2
      have k := R0.cell i a c h1 h2
      cases c with
      | lst ds =>
        obtain ⟨xs, e1, e2⟩ := k
        exact ⟨xs, e1, e2.up (fun _ _ h => h) pre⟩
      | dead => exact k
    · obtain ⟨hl, _⟩ := List.getElem?_eq_some_iff.mp h1
      rw [List.length_append, List.length_singleton] at hl
      have ei : i = r.length := by omega
      subst ei
      rw [at_] at h1
      cases h1
      rw [R.len] at h2
      rw [show (S ++ [Cell.lst ds])[S.length]? = some (.lst ds) by simp] at h2
      cases h2
      exact ⟨vs, upd_same, t.up (fun _ _ h => h) pre⟩
theorem e_mk (hn : es.length ≤ 1000) (hs : PA X xs (tL X.K XR W C false es)) : PE X (.List xs pos) (tE X.K XR W C (.mk es)) := by
  refine pe_imp (pe_lst hs) fun σ H Q ⟨F, r, sl, S, R, so, h⟩ => ?_
  unfold evE at h
  refine tL.oneN h R so fun vs ds F' H' r' S' hl ex R' rx h' => ?_
  by_cases hp : ds.all D.pur = true
  · rw [if_pos hp] at h'
    have t := rx.pure hp
    refine ⟨?_, fun p hp => ?_⟩
    · rw [t.len, hl, ← lim_eq]
      unfold lim
      omega
    · obtain ⟨e, R2, at_⟩ := R'.cel hp t
      exact h' _ _ _ e R2 _ (.loc at_)
  · rw [if_neg hp] at h'
    exact h'.elim
theorem e_neg (hb : a.isB = false) (ha : PE X xa (tE X.K XR W C a)) : PE X (.UnaryOp .USub xa pos) (tE X.K XR W C (.neg a)) := by
  refine pe_imp (pe_un un_neg ha) fun σ H Q ⟨F, r, sl, S, R, so, h⟩ => ?_
  unfold evE at h
  refine tE.one h R so fun x d F' H' r' S' ex R' rx h' => ?_
  cases d with
  | int i =>
    cases rx.b.w.int
    exact ⟨i, rfl, h' F' H' r' .refl R' _ (.int _)⟩
  | _ => exact h'.elim
theorem e_cmp {o : Cm} (hu : X.A.units + 200 < cLine) (hy : isSetX xb = false) (ha : PE X xa (tE X.K XR W C a)) (hb : PE X xb (tE X.K XR W C b)) : PE X (.Compare xa [cmM o] [xb] pos) (tE X.K XR W C (.cmp o a b)) := by
  refine pe_imp (pe_cmpR (snd_cmp o hu) ha hb (set_behind hy)) fun σ H Q ⟨F, r, sl, S, R, so, h⟩ => ?_
  unfold evE at h
  refine tE.two h R so fun x y d e F' H' r' S' ex R' rx ry h' => ?_
  obtain ⟨z, hz, q⟩ := h'.of
  exact ⟨F', r', S', _, _, z, R', rx.b.dr R', ry.b.dr R', hz, fun v F2 H2 r2 e2 R2 hv => q F2 H2 r2 e2 R2 v hv⟩
/-- a comparison of values, as a test -/
theorem t_cmp {o : Cm} (hu : X.A.units + 200 < cLine) (hy : isSetX xb = false) (ha : PE X xa (tE X.K XR W C a)) (hb : PE X xb (tE X.K XR W C b)) : PT X (.Compare xa [cmM o] [xb] pos) (tT X.K XR W C (.tr (.cmp o a b))) := by
  refine pt_imp (pt_cmpR (snd_cmp o hu) ha hb (set_behind hy)) fun σ H Q ⟨F, r, sl, S, R, so, h⟩ => ?_
  unfold evT evE at h
  have h : PostE X.K XR W F H r σ ((evE C a sl S).bind fun x S => (evE C b sl S).bind fun y S => (Rs.of S ((pCmp o (dr S x) (dr S y)).map D.bl)).bind fun d S => .of S (truthy (dr S d))) fun t S' F' H' r' => Q t H' := by
    generalize evE C a sl S = m at h ⊢
    cases m with
    | ok d S' =>
      have h : PostE X.K XR W F H r σ (((evE C b sl S').bind fun y S => Rs.of S ((pCmp o (dr S d) (dr S y)).map D.bl)).bind fun d S => .of S (truthy (dr S d))) fun t S' F' H' r' => Q t H' := h
      show PostE X.K XR W F H r σ ((evE C b sl S').bind fun y S => (Rs.of S ((pCmp o (dr S d) (dr S y)).map D.bl)).bind fun d S => .of S (truthy (dr S d))) fun t S' F' H' r' => Q t H'
      generalize evE C b sl S' = m at h ⊢
      cases m <;> exact h
    | exc _ _ _ => exact h
    | stk => exact h
  refine tE.two h R so fun x y d e F' H' r' S' ex R' rx ry h' => ?_
  cases hz : pCmp o (dr S' d) (dr S' e) with
  | none => rw [hz] at h'; exact h'.elim
  | some k =>
    rw [hz] at h'
    refine ⟨F', r', S', _, _, .bl k, R', rx.b.dr R', ry.b.dr R', congrArg (Option.map D.bl) hz, fun v F2 H2 r2 e2 R2 hv => ?_⟩
    cases hv
    exact ⟨k, rfl, h' F2 H2 r2 e2 R2⟩
theorem e_chn {o o' : Cm} (hu : X.A.units + 200 < cLine) (hy : isSetX xc = false) (ha : PE X xa (tE X.K XR W C a)) (hb : PE X xb (tE X.K XR W C b)) (hc : PE X xc (tE X.K XR W C c)) : PE X (.Compare xa [cmM o, cmM o'] [xb, xc] pos) (tE X.K XR W C (.chn o o' a b c)) := by
  refine pe_imp (pe_chain (snd_cmp o hu) (snd_cmp o' hu) ha hb hc (set_last hy)) fun σ H Q ⟨F, r, sl, S, R, so, h⟩ => ?_
  unfold evE at h
  refine tE.two h R so fun x y d e F' H' r' S' ex R' rx ry h' => ?_
  cases hz : pCmp o (dr S' d) (dr S' e) with
  | none => rw [hz] at h'; exact h'.elim
  | some k =>
    rw [hz] at h'
    refine ⟨F', r', S', _, _, .bl k, R', rx.b.dr R', ry.b.dr R', congrArg (Option.map D.bl) hz, fun v F2 H2 r2 e2 R2 hv => ?_⟩
    cases hv
    refine ⟨k, rfl, ?_⟩
    cases k with
    | false => exact h' F2 H2 r2 e2 R2 _ (.bl _)
    | true =>
      have h2 := PostE.ext h' e2
      refine tE.one h2 R2 (so.ext (ex.trans e2)) fun z f F3 H3 r3 S3 e3 R3 rz h3 => ?_
      obtain ⟨w, hw, q⟩ := h3.of
      exact ⟨F3, r3, S3, _, _, w, R3, (ry.ext (e2.trans e3)).b.dr R3, rz.b.dr R3, hw, fun v F4 H4 r4 e4 R4 hv => q F4 H4 r4 e4 R4 v hv⟩
end
end G
end S_GSnd3
section S_GSnd4
set_option linter.all false
set_option maxRecDepth 100000
set_option maxHeartbeats 1000000
/-! GSnd4: truth, and, or, calls. -/
namespace G
open PySem PySem.Spec PyProof.Rows L2

/-- isTrue takes the value -/
def plainT : Expr → Bool
  | .UnaryOp .Not _ _ => false
  | .BoolOp .. => false
  | .IfExp .. => false
  | .Compare .. => false
  | _ => true
theorem plain_true {e : Expr} {env : Env} (h : plainT e = true) (whole : Sem Value) : isTrue e env whole = (do let v ← whole; standAt e.pos; holding [v] (PySem.truthy v)) := by
  cases e <;> first
    | rfl
    | cases h
    | (rename_i op _ _; cases op <;> first | rfl | cases h)

section
variable {XR : XRel} {W : L2.WX} {C : G.Cx} {X : L2.Cx} {pos : Pos} {a b c : E} {xa xb xc : Expr} {es : List E} {xs : List Expr} {ta tb : B} {bs : List B}
theorem t_tr (hp : plainT xa = true) (ha : PE X xa (tE X.K XR W C a)) : PT X xa (tT X.K XR W C (.tr a)) := by
  refine pt_imp (pt_truth ha (plain_true hp)) fun σ H Q ⟨F, r, sl, S, R, so, h⟩ => ?_
  unfold evT at h
  refine tE.one h R so fun x d F' H' r' S' ex R' rx h' => ?_
  obtain ⟨k, hk, q⟩ := h'.of
  exact ⟨k, tru_of R' (rx.b.dr R') hk, q F' H' r' .refl R'⟩
theorem t_not (ha : PT X xa (tT X.K XR W C ta)) : PT X (.UnaryOp .Not xa pos) (tT X.K XR W C (.not ta)) := by
  refine pt_imp (pt_not ha) fun σ H Q ⟨F, r, sl, S, R, so, h⟩ => ?_
  unfold evT at h
  exact tT.one h R so fun t F' H' r' S' ex R' h' => h' F' H' r' .refl R'
theorem e_not (ha : PE X xa (tE X.K XR W C a)) : PE X (.UnaryOp .Not xa pos) (tE X.K XR W C (.not (.tr a))) := by
  refine pe_imp (pe_notT ha) fun σ H Q ⟨F, r, sl, S, R, so, h⟩ => ?_
  unfold evE evT at h
  have h : PostE X.K XR W F H r σ ((evE C a sl S).bind fun d S => (Rs.of S (truthy (dr S d))).bind fun b S => .ok (.bl (!b)) S) fun d S' F' H' r' => ∀ v, Rp X.K F' r' v d → Q v H' := by
    generalize evE C a sl S = m at h ⊢
    cases m <;> exact h
  refine tE.one h R so fun x d F' H' r' S' ex R' rx h' => ?_
  cases hk : truthy (dr S' d) with
  | none => rw [hk] at h'; exact h'.elim
  | some k =>
    rw [hk] at h'
    exact ⟨k, tru_of R' (rx.b.dr R') hk, h' F' H' r' .refl R' _ (.bl _)⟩
theorem t_and1 (ha : PT X xa (tT X.K XR W C ta)) : PW X (.BoolOp .And [xa] pos) (tAT X.K XR W C [ta]) := by
  refine pw_imp (pw_and1 ha) fun σ H Q ⟨F, r, sl, S, R, so, h⟩ => ?_
  unfold evAndT at h
  refine tT.one h R so fun t F' H' r' S' ex R' h' => ?_
  cases t with
  | true =>
    unfold evAndT at h'
    exact h' F' H' r' .refl R'
  | false => exact h' F' H' r' .refl R'
theorem t_or1 (ha : PT X xa (tT X.K XR W C ta)) : PW X (.BoolOp .Or [xa] pos) (tOT X.K XR W C [ta]) := by
  refine pw_imp (pw_or1 ha) fun σ H Q ⟨F, r, sl, S, R, so, h⟩ => ?_
  unfold evOrT at h
  refine tT.one h R so fun t F' H' r' S' ex R' h' => ?_
  cases t with
  | true => exact h' F' H' r' .refl R'
  | false =>
    unfold evOrT at h'
    exact h' F' H' r' .refl R'
theorem t_and (ha : PT X xa (tT X.K XR W C ta)) (hb : PW X (.BoolOp .And (xb :: xs) pos) (tAT X.K XR W C (tb :: bs))) : PW X (.BoolOp .And (xa :: xb :: xs) pos) (tAT X.K XR W C (ta :: tb :: bs)) := by
  refine pw_imp (pw_and ha hb) fun σ H Q ⟨F, r, sl, S, R, so, h⟩ => ?_
  rw [evAndT] at h
  refine tT.one h R so fun t F' H' r' S' ex R' h' => ?_
  cases t with
  | true => exact ⟨F', r', sl, S', R', so.ext ex, h'⟩
  | false => exact h' F' H' r' .refl R'
theorem t_or (ha : PT X xa (tT X.K XR W C ta)) (hb : PW X (.BoolOp .Or (xb :: xs) pos) (tOT X.K XR W C (tb :: bs))) : PW X (.BoolOp .Or (xa :: xb :: xs) pos) (tOT X.K XR W C (ta :: tb :: bs)) := by
  refine pw_imp (pw_or ha hb) fun σ H Q ⟨F, r, sl, S, R, so, h⟩ => ?_
  rw [evOrT] at h
  refine tT.one h R so fun t F' H' r' S' ex R' h' => ?_
  cases t with
  | false => exact ⟨F', r', sl, S', R', so.ext ex, h'⟩
  | true => exact h' F' H' r' .refl R'
theorem e_and1 (hb : a.isB = false) (ha : PE X xa (tE X.K XR W C a)) : PE X (.BoolOp .And [xa] pos) (tAV X.K XR W C [a]) := by
  refine pe_imp (pe_one ha) fun σ H Q ⟨F, r, sl, S, R, so, h⟩ => ?_
  unfold evAnd at h
  refine tE.one h R so fun x d F' H' r' S' ex R' rx h' => ?_
  rw [hb] at rx
  exact h' F' H' r' .refl R' x rx
theorem e_or1 (hb : a.isB = false) (ha : PE X xa (tE X.K XR W C a)) : PE X (.BoolOp .Or [xa] pos) (tOV X.K XR W C [a]) := by
  refine pe_imp (pe_one ha) fun σ H Q ⟨F, r, sl, S, R, so, h⟩ => ?_
  unfold evOr at h
  refine tE.one h R so fun x d F' H' r' S' ex R' rx h' => ?_
  rw [hb] at rx
  exact h' F' H' r' .refl R' x rx
theorem e_and (hi : a.isB = false) (ha : PE X xa (tE X.K XR W C a)) (hb : PE X (.BoolOp .And (xb :: xs) pos) (tAV X.K XR W C (b :: es))) : PE X (.BoolOp .And (xa :: xb :: xs) pos) (tAV X.K XR W C (a :: b :: es)) := by
  refine pe_imp (pe_andT ha hb) fun σ H Q ⟨F, r, sl, S, R, so, h⟩ => ?_
  rw [evAnd] at h
  refine tE.one h R so fun x d F' H' r' S' ex R' rx h' => ?_
  cases hk : truthy (dr S' d) with
  | none => simp only [hk] at h'; exact h'.elim
  | some k =>
    refine ⟨k, tru_of R' (rx.b.dr R') hk, ?_⟩
    cases k with
    | true =>
      simp only [hk] at h'
      exact ⟨F', r', sl, S', R', so.ext ex, h'⟩
    | false =>
      simp only [hk] at h'
      rw [hi] at rx
      exact h' F' H' r' .refl R' x rx
theorem e_or (hi : a.isB = false) (ha : PE X xa (tE X.K XR W C a)) (hb : PE X (.BoolOp .Or (xb :: xs) pos) (tOV X.K XR W C (b :: es))) : PE X (.BoolOp .Or (xa :: xb :: xs) pos) (tOV X.K XR W C (a :: b :: es)) := by
  refine pe_imp (pe_orT ha hb) fun σ H Q ⟨F, r, sl, S, R, so, h⟩ => ?_
  rw [evOr] at h
  refine tE.one h R so fun x d F' H' r' S' ex R' rx h' => ?_
  cases hk : truthy (dr S' d) with
  | none => simp only [hk] at h'; exact h'.elim
  | some k =>
    refine ⟨k, tru_of R' (rx.b.dr R') hk, ?_⟩
    cases k with
    | false =>
      simp only [hk] at h'
      exact ⟨F', r', sl, S', R', so.ext ex, h'⟩
    | true =>
      simp only [hk] at h'
      rw [hi] at rx
      exact h' F' H' r' .refl R' x rx
theorem t_chn {o o' : Cm} (hu : X.A.units + 200 < cLine) (hy : isSetX xc = false) (ha : PE X xa (tE X.K XR W C a)) (hb : PE X xb (tE X.K XR W C b)) (hc : PE X xc (tE X.K XR W C c)) : PT X (.Compare xa [cmM o, cmM o'] [xb, xc] pos) (tT X.K XR W C (.tr (.chn o o' a b c))) := by
  refine pt_imp (pt_chain (snd_cmp o hu) (snd_cmp o' hu) ha hb hc (set_last hy)) fun σ H Q ⟨F, r, sl, S, R, so, h⟩ => ?_
  unfold evT evE at h
  have h : PostE X.K XR W F H r σ ((evE C a sl S).bind fun x S => (evE C b sl S).bind fun y S => (match pCmp o (dr S x) (dr S y) with
    | some true => (evE C c sl S).bind fun z S => (.of S ((pCmp o' (dr S y) (dr S z)).map D.bl))
    | some false => .ok (D.bl false) S
    | none => .stk).bind fun d S => .of S (truthy (dr S d))) fun t S' F' H' r' => Q t H' := by
    generalize evE C a sl S = m at h ⊢
    cases m with
    | ok d S' =>
      revert h
      show PostE X.K XR W F H r σ (((evE C b sl S').bind fun y S => match pCmp o (dr S d) (dr S y) with
        | some true => (evE C c sl S).bind fun z S => (.of S ((pCmp o' (dr S y) (dr S z)).map D.bl))
        | some false => .ok (D.bl false) S
        | none => .stk).bind fun d S => .of S (truthy (dr S d))) (fun t S' F' H' r' => Q t H') → PostE X.K XR W F H r σ ((evE C b sl S').bind fun y S => (match pCmp o (dr S d) (dr S y) with
        | some true => (evE C c sl S).bind fun z S => (.of S ((pCmp o' (dr S y) (dr S z)).map D.bl))
        | some false => .ok (D.bl false) S
        | none => .stk).bind fun d S => .of S (truthy (dr S d))) fun t S' F' H' r' => Q t H'
      generalize evE C b sl S' = m
      cases m <;> exact fun h => h
    | exc _ _ _ => exact h
    | stk => exact h
  refine tE.two h R so fun x y d e F' H' r' S' ex R' rx ry h' => ?_
  cases hz : pCmp o (dr S' d) (dr S' e) with
  | none => rw [hz] at h'; exact h'.elim
  | some k =>
    rw [hz] at h'
    refine ⟨F', r', S', _, _, .bl k, R', rx.b.dr R', ry.b.dr R', congrArg (Option.map D.bl) hz, fun v F2 H2 r2 e2 R2 hv => ?_⟩
    cases hv
    refine ⟨k, rfl, ?_⟩
    cases k with
    | false => exact ⟨false, rfl, h' F2 H2 r2 e2 R2⟩
    | true =>
      have h' : PostE X.K XR W F' H' r' σ ((evE C c sl S').bind fun z S => (Rs.of S ((pCmp o' (dr S e) (dr S z)).map D.bl)).bind fun d S => .of S (truthy (dr S d))) fun t S' F' H' r' => Q t H' := by
        revert h'
        show PostE X.K XR W F' H' r' σ (((evE C c sl S').bind fun z S => (Rs.of S ((pCmp o' (dr S e) (dr S z)).map D.bl))).bind fun d S => .of S (truthy (dr S d))) (fun t S' F' H' r' => Q t H') → _
        generalize evE C c sl S' = m
        cases m <;> exact fun h => h
      have h2 := PostE.ext h' e2
      refine tE.one h2 R2 (so.ext (ex.trans e2)) fun z f F3 H3 r3 S3 e3 R3 rz h3 => ?_
      cases hw : pCmp o' (dr S3 e) (dr S3 f) with
      | none => rw [hw] at h3; exact h3.elim
      | some w =>
        rw [hw] at h3
        refine ⟨F3, r3, S3, _, _, .bl w, R3, (ry.ext (e2.trans e3)).b.dr R3, rz.b.dr R3, congrArg (Option.map D.bl) hw, fun v F4 H4 r4 e4 R4 hv => ?_⟩
        cases hv
        exact ⟨w, rfl, h3 F4 H4 r4 e4 R4⟩
theorem e_ite (hb : a.isB = false) (hc : b.isB = false) (ht : PT X xc (tT X.K XR W C ta)) (ha : PE X xa (tE X.K XR W C a)) (he : PE X xb (tE X.K XR W C b)) : PE X (.IfExp xc xa xb pos) (tE X.K XR W C (.ite ta a b)) := by
  refine pe_imp (pe_ifExp ht ha he) fun σ H Q ⟨F, r, sl, S, R, so, h⟩ => ?_
  unfold evE at h
  refine tT.one h R so fun t F' H' r' S' ex R' h' => ?_
  cases t with
  | true =>
    refine ⟨F', r', sl, S', R', so.ext ex, ?_⟩
    rw [hb]
    exact h'
  | false =>
    refine ⟨F', r', sl, S', R', so.ext ex, ?_⟩
    rw [hc]
    exact h'
theorem e_ix (hi : b.isB = false) (hs : isSliceX xb = false) (ha : PE X xa (tE X.K XR W C a)) (hb : PE X xb (tE X.K XR W C b)) : PE X (.Subscript xa xb pos) (tE X.K XR W C (.ix a b)) := by
  refine pe_imp (pe_ix snd_ix ha hb (slice_plain hs)) fun σ H Q ⟨F, r, sl, S, R, so, h⟩ => ?_
  unfold evE at h
  refine tE.two h R so fun x y d e F' H' r' S' ex R' rx ry h' => ?_
  obtain ⟨z, hz, q⟩ := h'.of
  rw [hi] at ry
  exact ⟨F', r', S', _, _, z, R', rx.b.dr R', .st ry, hz, fun v F2 H2 r2 e2 R2 hv => q F2 H2 r2 e2 R2 v hv⟩
theorem o_none : PO X none (tOpt X.K XR W C none) := by
  refine po_imp po_none fun σ H Q ⟨F, r, sl, S, R, so, h⟩ => ?_
  unfold evO at h
  exact h F H r .refl R
theorem o_some (hb : a.isB = false) (ha : PE X xa (tE X.K XR W C a)) : PO X (some xa) (tOpt X.K XR W C (some a)) := by
  refine po_imp (po_some ha) fun σ H Q ⟨F, r, sl, S, R, so, h⟩ => ?_
  unfold evO at h
  refine tE.one h R so fun x d F' H' r' S' ex R' rx h' => ?_
  cases d with
  | int i =>
    cases rx.b.w.int
    exact ⟨i, rfl, h' F' H' r' .refl R'⟩
  | _ => exact h'.elim
theorem e_sl {lo hi : Option E} {xl xh : Option Expr} {p2 : Pos} (ha : PE X xa (tE X.K XR W C a)) (hl : PO X xl (tOpt X.K XR W C lo)) (hh : PO X xh (tOpt X.K XR W C hi)) : PE X (.Subscript xa (.Slice xl xh none p2) pos) (tEX X.K XR W C (.sl a lo hi)) := by
  refine pe_imp (pe_slice snd_sl ha hl hh) fun σ H Q ⟨F, r, sl, S, R, so, h⟩ => ?_
  unfold evE at h
  refine tE.one h R so fun x d F' H' r' S' ex R' rx h' => ?_
  refine tOpt.one h' R' (so.ext ex) fun l F2 H2 r2 S2 e2 R2 h2 => ?_
  refine tOpt.one h2 R2 (so.ext (ex.trans e2)) fun u F3 H3 r3 S3 e3 R3 h3 => ?_
  obtain ⟨z, hz, q⟩ := h3.of
  exact ⟨F3, r3, S3, _, z, R3, (rx.ext (e2.trans e3)).b.dr R3, hz, FrX.res (ex.trans (e2.trans e3)) R3 q⟩
end
end G
end S_GSnd4
section S_GSnd5
set_option linter.all false
set_option maxRecDepth 100000
set_option maxHeartbeats 1000000
/-! GSnd5: calls, targets, walks. -/
namespace G
open PySem PySem.Spec PyProof.Rows L2

/-- a def's promise -/
def spF (K : Fg) (XR : XRel) (C : G.Cx) (f : Nat) : Sp := fun vs H Q E => ∃ F r S ds, Rel K F H r S ∧ RpXL K false F H r vs ds ∧
  PostE K XR (fun c d _ H => E c d H) F H r [] (C.call f ds S) fun d S' F' H' r' => ∀ v, Rp K F' r' v d → Q v H'

section
variable {XR : XRel} {W : L2.WX} {C : G.Cx} {X : L2.Cx} {p pos : Pos} {a b c : E} {xa xb xc : Expr} {es : List E} {xs : List Expr} {ta tb : B} {bs : List B}
theorem a_nil {w : Bool} : PA X [] (tL X.K XR W C w []) := by
  refine pa_imp pa_nil fun σ H Q ⟨F, r, sl, S, R, so, h⟩ => ?_
  unfold evL at h
  exact h F H r .refl R [] .nil
theorem a_cons {w : Bool} (hs : noStar xa = true) (hw : w = true ∨ a.isB = false) (ha : PE X xa (tE X.K XR W C a)) (hr : PA X xs (tL X.K XR W C w es)) : PA X (xa :: xs) (tL X.K XR W C w (a :: es)) := by
  refine pa_imp (pa_cons ha hr (star_cons hs)) fun σ H Q ⟨F, r, sl, S, R, so, h⟩ => ?_
  unfold evL at h
  refine tE.one h R so fun x d F' H' r' S' ex R' rx h' => ?_
  refine tL.one h' R' (so.ext ex) fun ys ds F2 H2 r2 S2 e2 R2 ry h2 => ?_
  refine h2 F2 H2 r2 .refl R2 _ (.cons ?_ ry)
  rcases hw with hw | hw
  · subst hw
    exact (rx.ext e2).b
  · rw [hw] at rx
    cases w with
    | true => exact .st (Rp.up e2.f e2.pre rx)
    | false => exact Rp.up e2.f e2.pre rx
theorem postE_call {K : Fg} {F H : Hp} {r : List Addr} {σ : L2.St} {α : Type} {m : Rs α} {P : α → List Cell → Hp → Hp → List Addr → Prop} (h : PostE K XR W F H r σ m P) : PostE K XR (fun c d _ H => WE W σ c d H) F H r [] m P := by
  cases m <;> exact h
theorem e_cal {CX : CXT} {k f : Nat} {fa : Addr} {fd : FuncData} {ps : List Str} {x : Str} (F : FnG X.prog X.w X.K X.mg X.base CX k fa fd ps (spF X.K XR C f)) (hgd : X.A.guards = some []) (hr : Room k X.A) (hg : Gl X x) (hm : X.mg x = some (.ref fa)) (hk : PySem.W.keepIn X.K (.ref fa) = true) (hb : Binds X.K fd ps []) (hx : ∀ σ, PassesAt CX X σ (WE W σ))
    (hdb : (x == ("__debug__" : Str)) = false) (hs : (xa :: xs).all noStar = true) (ha : PA X (xa :: xs) (tL X.K XR W C false es)) : PE X (.Call (.Name x p) (xa :: xs) [] pos) (tE X.K XR W C (.cal f es)) := by
  rw [List.all_cons, Bool.and_eq_true] at hs
  refine pe_imp (pe_callG F hgd hr hg hm hk hb hx ha hdb (star_cons hs.1) (star_any hs.2)) fun σ H Q ⟨F, r, sl, S, R, so, h⟩ => ?_
  unfold evE at h
  exact tL.one h R so fun ys ds F' H' r' S' ex R' ry h' => ⟨F', r', S', ds, R', ry, postE_call h'⟩
theorem e_cal0 {CX : CXT} {k f : Nat} {fa : Addr} {fd : FuncData} {ps : List Str} {x : Str} (F : FnG X.prog X.w X.K X.mg X.base CX k fa fd ps (spF X.K XR C f)) (hgd : X.A.guards = some []) (hr : Room k X.A) (hg : Gl X x) (hm : X.mg x = some (.ref fa)) (hk : PySem.W.keepIn X.K (.ref fa) = true) (hb : Binds X.K fd ps []) (hx : ∀ σ, PassesAt CX X σ (WE W σ))
    (hdb : (x == ("__debug__" : Str)) = false) : PE X (.Call (.Name x p) [] [] pos) (tE X.K XR W C (.cal f [])) := by
  refine pe_imp (pe_callG0 F hgd hr hg hm hk hb hx hdb) fun σ H Q ⟨F, r, sl, S, R, so, h⟩ => ?_
  unfold evE evL at h
  exact ⟨F, r, S, [], R, .nil, postE_call h⟩

/-! ### built-in functions -/
theorem e_blt {f : Bf} (h : PE X xa (tCB (rB X.K (pB f)) (tL X.K XR W C true es))) : PE X xa (tE X.K XR W C (.blt f es)) := by
  refine pe_imp h fun σ H Q ⟨F, r, sl, S, R, so, h⟩ => ?_
  unfold evE at h
  refine tL.one h R so fun ys ds F' H' r' S' ex R' ry h' => ?_
  obtain ⟨z, hz, q⟩ := h'.of
  exact ⟨F', r', S', _, z, R', ry.drs R', hz, fun v F2 H2 r2 e2 R2 hv => q F2 H2 r2 e2 R2 v hv⟩
theorem e_bltX {f : Bf} (h : PE X xa (tCB (rBX X.K (pB f)) (tL X.K XR W C true es))) : PE X xa (tEX X.K XR W C (.blt f es)) := by
  refine pe_imp h fun σ H Q ⟨F, r, sl, S, R, so, h⟩ => ?_
  unfold evE at h
  refine tL.one h R so fun ys ds F' H' r' S' ex R' ry h' => ?_
  obtain ⟨z, hz, q⟩ := h'.of
  exact ⟨F', r', S', _, z, R', ry.drs R', hz, FrX.res ex R' q⟩
theorem cr_isa (t : Ty) : CallR X (.builtin "isinstance") (fun xs H Q => ∃ F r S x d, xs = [x, .ty (tyN t)] ∧ Rel X.K F H r S ∧ RpW X.K F H r x d ∧ ∃ b, isT t d = some b ∧ Q (.bl b) H) := by
  intro pins s σ H xs us Q I rx h
  obtain ⟨F, r, S, x, d, rfl, R, hx, b, hb, q⟩ := h
  obtain ⟨u1, u2, rfl, r1, r2⟩ := vals2 rx
  cases (show u2 = Value.type (tyN t) from r2)
  exact one_isa I R r1 hx hb fun tk => ⟨.bl b, H, I.tok tk, rfl, q⟩
theorem boot_ty (t : Ty) : bootBuiltins ((tyN t : String) : Str) = some (.type (tyN t)) := by cases t <;> decide +kernel
theorem ty_ne (t : Ty) : ((tyN t : String) : Str) ≠ "__name__" ∧ (((tyN t : String) : Str) == ("__debug__" : Str)) = false := by cases t <;> decide +kernel
theorem e_isa {t : Ty} {p2 : Pos} (hs : noStar xa = true) (hb : a.isB = false) (hg : Gl X "isinstance") (hm : X.mg "isinstance" = none) (hg2 : Gl X ((tyN t : String) : Str)) (hm2 : X.mg ((tyN t : String) : Str) = none) (ha : PE X xa (tE X.K XR W C a)) :
    PE X (.Call (.Name "isinstance" p) [xa, .Name ((tyN t : String) : Str) p2] [] pos) (tE X.K XR W C (.blt (.isa t) [a])) := by
  have h2 : PE X (.Name ((tyN t : String) : Str) p2) (tC (.ty (tyN t))) := pe_bltn hg2 hm2 (boot_ty t) rfl (ty_ne t).1 (ty_ne t).2
  have hA : PA X [xa, .Name ((tyN t : String) : Str) p2] (tCons (tE X.K XR W C a) (tCons (tC (.ty (tyN t))) tNil)) := pa_cons ha (pa_cons h2 pa_nil) (star_cons hs)
  refine pe_imp (pe_callB (cr_isa t) hg hm PyProof.Rows.boot_isinstance hA (by decide) (by decide) (star_cons hs)) fun σ H Q ⟨F, r, sl, S, R, so, h⟩ => ?_
  unfold evE evL evL at h
  have h : PostE X.K XR W F H r σ ((evE C a sl S).bind fun d S => Rs.of S (pB (.isa t) [dr S d])) fun d S' F' H' r' => ∀ v, Rp X.K F' r' v d → Q v H' := by
    generalize evE C a sl S = m at h ⊢
    cases m <;> exact h
  refine tE.one h R so fun x d F' H' r' S' ex R' rx h' => ?_
  obtain ⟨z, hz, q⟩ := h'.of
  have hz : (isT t (dr S' d)).map D.bl = some z := hz
  cases hb : isT t (dr S' d) with
  | none => rw [hb] at hz; cases hz
  | some k =>
    rw [hb] at hz
    cases hz
    exact ⟨F', r', S', x, _, rfl, R', rx.b.dr R', k, hb, q F' H' r' .refl R' _ (.bl _)⟩

/-! ### index -/
theorem strs_get : ∀ {xs : List D} {ss : List (List Nat)}, asStrs xs = some ss → xs = ss.map D.str
  | [], ss, h => by
    cases h
    rfl
  | d :: r, ss, h => by
    cases d with
    | str s =>
      have h : (asStrs r).map (s :: ·) = some ss := h
      cases e : asStrs r with
      | none => rw [e] at h; cases h
      | some t =>
        rw [e] at h
        cases h
        rw [List.map_cons, strs_get e]
    | _ => cases h
def toS (s : List Nat) : Str := ⟨s.toArray⟩
theorem toS_inj {s t : List Nat} (h : toS s = toS t) : s = t := by
  have h1 : s.toArray = t.toArray := congrArg Str.cps h
  simpa using h1
theorem place_of {s : List Nat} {xs : List D} {z : D} (h : placeOf s xs = some z) : ∃ ss, asStrs xs = some ss ∧ s ∈ ss ∧ z = .int (ss.idxOf s) := by
  unfold placeOf at h
  cases e : asStrs xs with
  | none => rw [e] at h; cases h
  | some ss =>
    rw [e] at h
    have h : (if s ∈ ss then some (D.int (ss.idxOf s)) else none) = some z := h
    by_cases hm : s ∈ ss
    · rw [if_pos hm] at h
      cases h
      exact ⟨ss, rfl, hm, rfl⟩
    · rw [if_neg hm] at h
      cases h
theorem idx_facts {s : List Nat} {ss : List (List Nat)} (h : s ∈ ss) : (ss.map toS)[ss.idxOf s]? = some (toS s) ∧ ∀ m, m < ss.idxOf s → (ss.map toS)[m]? ≠ some (toS s) := by
  have hl := List.idxOf_lt_length_iff.mpr h
  refine ⟨?_, fun m hm e => ?_⟩
  · rw [List.getElem?_map, List.getElem?_eq_getElem hl, List.getElem_idxOf hl]
    rfl
  · have hm' : m < ss.length := Nat.lt_trans hm hl
    rw [List.getElem?_map, List.getElem?_eq_getElem hm'] at e
    have e : some (toS ss[m]) = some (toS s) := e
    have e2 := toS_inj (Option.some.inj e)
    have z := List.not_of_lt_findIdx (p := fun y => y == s) (show m < List.findIdx (fun y => y == s) ss from hm)
    rw [e2] at z
    simp at z
theorem snd_indexL : MtR X "list.index" (fun x xs H Q => ∃ F r S ds y s z, xs = [y] ∧ Rel X.K F H r S ∧ RpW X.K F H r x (.lst ds) ∧ RpW X.K F H r y (.str s) ∧ placeOf s ds = some z ∧ Res X.K F H r S z Q) := by
  intro pins s σ H x xs v us Q I rx ru h
  obtain ⟨F, r, S, ds, y, t, z, rfl, R, hx, hy, hz, q⟩ := h
  obtain ⟨ss, e1, e2, rfl⟩ := place_of hz
  obtain ⟨a1, vs, rfl, hs, tx⟩ := hx.lst R
  obtain ⟨rfl, _⟩ := hy.str
  have ev : vs = (ss.map toS).map V.str := by
    rw [List.map_map]
    exact RpL.strs tx e1
  obtain ⟨f1, f2⟩ := idx_facts e2
  refine mt_index pins s σ H _ _ v us Q I rx ru ⟨a1, vs, .str (toS t), ss.idxOf t, .str (toS t), rfl, rfl, hs, rfl, ?_, ?_, ?_, fun m z' hm hz' => ?_, q.now R (.int _)⟩
  · rw [ev]
    exact List.all_eq_true.mpr fun y hy => by
      obtain ⟨w, _, rfl⟩ := List.mem_map.mp hy
      rfl
  · rw [ev, List.getElem?_map, f1]
    rfl
  · show (toS t == toS t) = true
    simp
  · rw [ev, List.getElem?_map] at hz'
    cases hw : (ss.map toS)[m]? with
    | none => rw [hw] at hz'; cases hz'
    | some w =>
      rw [hw] at hz'
      cases hz'
      show (w == toS t) = false
      have : w ≠ toS t := fun e => f2 m hm (by rw [hw, e])
      simpa using this
def idxS : Str := "index"

theorem few_ok {xs : List Expr} {cpos : Pos} {env : Env} (hs : xs.all noStar = true) (hl : xs.length < 30) : ((backTo cpos (starEach xs env)).all (fun x => !x.1) && (backToKw cpos (keywordEach [] env)).all (fun x => x.1.isSome)
      && decide (xs.length + ([] : List Keyword).length + (if ([] : List Keyword).isEmpty then 0 else 1) < 30)) = true := by
  rw [star_all hs]
  have : decide (xs.length + ([] : List Keyword).length + (if ([] : List Keyword).isEmpty then 0 else 1) < 30) = true := decide_eq_true hl
  rw [this]
  rfl
theorem e_index {apos cpos : Pos} (hy : noStar xb = true) (hl : (apos.endLine == cpos.line) = true) (hi : b.isB = false) (hbase : attributeBase xa idxS X.env (eval xa X.env) = eval xa X.env) (ha : PE X xa (tE X.K XR W C a)) (hb : PA X [xb] (tL X.K XR W C false [b])) :
    PE X (.Call (.Attribute xa idxS apos) [xb] [] cpos) (tE X.K XR W C (.mth .index a [b])) := by
  refine pe_imp (pe_bm PySem.F.plainAttrs_list PySem.F.slot_list_index PySem.F.type_list_index snd_indexL ha hb hbase (few_ok (by rw [List.all_cons, hy]; rfl) (by show 1 < 30; decide)) hl (star_cons hy) rfl) fun σ H Q ⟨F, r, sl, S, R, so, h⟩ => ?_
  unfold evE at h
  refine tE.one h R so fun x d F' H' r' S' ex R' rx h' => ?_
  cases d with
  | lst ds =>
    rw [if_pos (show recvOk .index (.lst ds) = true from rfl)] at h'
    obtain ⟨p, xs, rfl, hq, _⟩ := rx.b.w.lst R'
    refine ⟨.inl ⟨rfl, xs, hq⟩, tL.oneN h' R' (so.ext ex) fun ys es F2 H2 r2 S2 hn e2 R2 ry h2 => ?_⟩
    obtain ⟨z, hz, q⟩ := h2.of
    have rx2 := (rx.ext e2).b.w
    cases ry with
    | nil => cases hz
    | cons ry rt =>
      cases rt with
      | cons _ _ => cases hn
      | nil =>
        rename_i y d
        cases d with
        | str t => exact ⟨F2, r2, S2, ds, y, t, z, rfl, R2, rx2, .st ry, hz, fun v F3 H3 r3 e3 R3 hv => q F3 H3 r3 e3 R3 v hv⟩
        | _ => cases hz
  | _ =>
    rw [if_neg (by intro z; cases z)] at h'
    exact h'.elim

/-! ### a def that returns texts -/
def strV (ss : List (List Nat)) : List V := ss.map fun s => V.str (toS s)
/-- its promise: a new tuple, without a dict -/
def spC (ss : List (List Nat)) : Sp := fun vs H Q _ => vs = [] ∧ ∀ (p : Addr) (o : Obj), H p = none → o.cls = .type "tuple" → o.dict = none → Q (.ref p) (upd H p (.frz o (.tup (strV ss))))
theorem pe_tupF {t : TA} {k : Nat} (h : PA X xs t) : PE X (.Tuple xs k pos) (fun σ H Q => t σ H fun vs H1 => vs.length ≤ sizeLine ∧ ∀ (p : Addr) (o : Obj), H1 p = none → o.cls = .type "tuple" → o.dict = none → Q (.ref p) (upd H1 p (.frz o (.tup vs)))) := by
  refine ⟨fun pins s σ H Q I hq => ?_⟩
  refine wpAny_Tuple_spliced (thn (h.run pos pins s σ H _ I hq) fun us s1 ⟨vs, H1, I1, r, z, q⟩ => ⟨by rw [← r.length]; exact z, ?_⟩)
  have hf : H1 s1.heap.objs.size = none := I1.hok.fresh (Nat.le_refl _)
  refine ⟨.ref s1.heap.objs.size, upd H1 s1.heap.objs.size (.frz { cls := .type "tuple", data := .seq us.toArray } (.tup vs)), I1.laid (t' := s1.toks) (fun b u e => Heap.get?_push_of_some _ e) (Nat.le_refl _) ?_, rfl, q _ _ hf rfl rfl⟩
  exact ⟨Heap.get?_push_size _ rfl, z, us, r, ⟨_, Heap.get?_push_size _ rfl, rfl, _, rfl⟩⟩
theorem e_ixc {CX : CXT} {k f : Nat} {fa : Addr} {fd : FuncData} {x : Str} {ss : List (List Nat)} {p2 apos cpos : Pos} (hc : C.cst f = some ss) (F : FnG X.prog X.w X.K X.mg X.base CX k fa fd [] (spC ss)) (hgd : X.A.guards = some []) (hr : Room k X.A) (hg : Gl X x) (hm : X.mg x = some (.ref fa)) (hk : PySem.W.keepIn X.K (.ref fa) = true) (hb : Binds X.K fd [] []) (hx : ∀ σ, PassesAt CX X σ (WE W σ))
    (hdb : (x == ("__debug__" : Str)) = false) (hsup : (x != ("super" : Str)) = true) (hy : noStar xb = true) (hl : (apos.endLine == cpos.line) = true) (hi : b.isB = false) (ha : PA X [xb] (tL X.K XR W C false [b])) :
    PE X (.Call (.Attribute (.Call (.Name x p) [] [] p2) idxS apos) [xb] [] cpos) (tE X.K XR W C (.ixc f b)) := by
  refine ⟨fun pins s σ H Q I h => ?_⟩
  obtain ⟨F0, r, sl, S, R, so, h⟩ := h
  unfold evE at h
  rw [hc] at h
  have h : PostE X.K XR W F0 H r σ ((evL C [b] sl S).bind fun ys S => Rs.of S (match ys with | [y] => placeC ss y | _ => none)) fun d S' F' H' r' => ∀ v, Rp X.K F' r' v d → Q v H' := by
    unfold evL evL
    generalize evE C b sl S = m at h ⊢
    cases m <;> exact h
  have ho : PE X (.Call (.Name x p) [] [] p2) (tCallS (spC ss) (WE W) tNil) := pe_callG0 F hgd hr hg hm hk hb hx hdb
  refine PySem.wpAny_Call_method_late (abase_call hsup) (few_ok (by rw [List.all_cons, hy]; rfl) (by show 1 < 30; decide)) hl rfl (thn (ho.run pins s σ H (fun v H1 => ∃ (p : Addr) (o : Obj), v = .ref p ∧ H p = none ∧ o.cls = .type "tuple" ∧ o.dict = none ∧ H1 = upd H p (.frz o (.tup (strV ss)))) I ⟨rfl, fun p o h1 h2 h3 => ⟨p, o, rfl, h1, h2, h3, rfl⟩⟩) fun v s1 ⟨x, H1, I1, r1, q1⟩ => ?_)
  obtain ⟨q, o, rfl, hp, hcl, hd, rfl⟩ := q1
  cases r1
  have hob : s1.heap.get? q = some o := (I1.hok q _ upd_same).1
  refine ⟨"tuple", "tuple.index", PySem.F.plainAttrs_tuple, PySem.F.slot_tuple_index, PySem.F.type_tuple_index, ⟨o, hob, hcl⟩, fun a e => by cases e; exact ⟨o, hob, hd⟩, ?_⟩
  have e1 : Ext F0 H r (upd F0 q (.frz o (.tup (strV ss)))) (upd H q (.frz o (.tup (strV ss)))) r := Ext.new R hp
  have R1 := R.new (o := .frz o (.tup (strV ss))) hp
  have hA := ha.run cpos pins s1 σ _ (fun vs H2 => ∃ y t z, vs = [.str (toS t)] ∧ SqT X.K H2 q (strV ss) ∧ placeC ss (.str t) = some z ∧ y = z ∧ ∀ v, v = (match z with | .int i => V.int i | _ => .non) → Q v H2) I1 (tL.one (PostE.ext h e1) R1 (so.ext e1) fun ys es F2 H2 r2 S2 e2 R2 ry h2 => by
    obtain ⟨z, hz, qq⟩ := h2.of
    cases ry with
    | nil => cases hz
    | cons ry rt =>
      cases rt with
      | cons _ _ => cases hz
      | nil =>
        rename_i y d
        cases d with
        | str t =>
          obtain ⟨rfl, _⟩ := (show RpW X.K F2 H2 r2 y (.str t) from .st ry).str
          refine ⟨z, t, z, rfl, .inl (.inr ⟨o, R2.sub q _ (e2.f q _ upd_same)⟩), hz, rfl, fun v hv => ?_⟩
          have hz' : (if t ∈ ss then some (D.int (ss.idxOf t)) else none) = some z := hz
          by_cases hm : t ∈ ss
          · rw [if_pos hm] at hz'
            cases hz'
            subst hv
            exact qq F2 H2 r2 .refl R2 _ (.int _)
          · rw [if_neg hm] at hz'
            cases hz'
        | _ => cases hz)
  rw [star_cons hy] at hA ⊢
  refine Calls.callWith_builtin rfl (Calls.evalArgs_plain ?_)
  refine thn hA fun us s2 ⟨vs, H2, I2, r2, y, t, z, ev, hq, hz, _, hQ⟩ => ?_
  subst ev
  have hz' : (if t ∈ ss then some (D.int (ss.idxOf t)) else none) = some z := hz
  by_cases hm : t ∈ ss
  · rw [if_pos hm] at hz'
    cases hz'
    obtain ⟨f1, f2⟩ := idx_facts hm
    have hq' : SqT X.K H2 q ((ss.map toS).map V.str) := by
      rw [List.map_map]
      exact hq
    exact mt_tup_index pins s2 σ H2 (.ref q) [.str (toS t)] (.ref q) us Q I2 rfl r2 ⟨q, ss.map toS, toS t, ss.idxOf t, rfl, rfl, hq', f1, f2, hQ _ rfl⟩
  · rw [if_neg hm] at hz'
    cases hz'
end
end G
end S_GSnd5
section S_GSnd6
set_option linter.all false
set_option maxRecDepth 100000
set_option maxHeartbeats 1000000
/-! GSnd6: targets, walks, comprehensions. -/
namespace G
open PySem PySem.Spec PyProof.Rows L2

mutual
def tgs : Tg → List Nat
  | .s i => [i]
  | .t ts => tgsL ts
def tgsL : List Tg → List Nat
  | [] => []
  | t :: ts => tgs t ++ tgsL ts
end
section
variable {K : Fg} {F H : Hp} {r : List Addr} {σ σ2 : L2.St} {sl sl2 : List Sl} {v : V} {d : D}
theorem SlOk.set (s : SlOk K F H r σ sl) (i : Nat) (h : Rp K F r v d) : SlOk K F H r (σ.set i (some v)) (sl.set i (.v d)) := by
  refine ⟨by rw [List.length_set, List.length_set, s.len], fun j e hj => ?_, fun j ds hj => ?_, fun j k ds es a h1 h2 h3 h4 => ?_⟩
  · by_cases z : i = j
    · subst z
      by_cases hl : i < sl.length
      · rw [List.getElem?_set_self hl] at hj
        cases hj
        exact ⟨v, by rw [List.getElem?_set_self (by rw [← s.len]; exact hl)], h⟩
      · rw [List.getElem?_eq_none (by rw [List.length_set]; omega)] at hj
        cases hj
    · rw [List.getElem?_set_ne z] at hj ⊢
      exact s.v j e hj
  · by_cases z : i = j
    · subst z
      by_cases hl : i < sl.length
      · rw [List.getElem?_set_self hl] at hj
        cases hj
      · rw [List.getElem?_eq_none (by rw [List.length_set]; omega)] at hj
        cases hj
    · rw [List.getElem?_set_ne z] at hj ⊢
      exact s.own j ds hj
  · have ne : ∀ {j ds}, (sl.set i (.v d))[j]? = some (.own ds) → i ≠ j ∧ sl[j]? = some (.own ds) := fun {j ds} hj => by
      by_cases z : i = j
      · subst z
        by_cases hl : i < sl.length
        · rw [List.getElem?_set_self hl] at hj
          cases hj
        · rw [List.getElem?_eq_none (by rw [List.length_set]; omega)] at hj
          cases hj
      · rw [List.getElem?_set_ne z] at hj
        exact ⟨z, hj⟩
    obtain ⟨n1, g1⟩ := ne h1
    obtain ⟨n2, g2⟩ := ne h2
    rw [List.getElem?_set_ne n1] at h3
    rw [List.getElem?_set_ne n2] at h4
    exact s.ap j k ds es a g1 g2 h3 h4
def wipeS (sl : List Sl) : List Nat → List Sl
  | [] => sl
  | v :: vs => (wipeS sl vs).set v .nil
theorem wipeS_len : ∀ vs : List Nat, (wipeS sl vs).length = sl.length
  | [] => rfl
  | v :: vs => by
    unfold wipeS
    rw [List.length_set, wipeS_len vs]
theorem wipeS_in {i : Nat} : ∀ {vs : List Nat}, i ∈ vs → (wipeS sl vs)[i]? = if i < sl.length then some .nil else none
  | v :: vs, h => by
    unfold wipeS
    by_cases z : v = i
    · subst z
      by_cases hl : v < sl.length
      · rw [List.getElem?_set_self (by rw [wipeS_len]; exact hl), if_pos hl]
      · rw [List.getElem?_eq_none (by rw [List.length_set, wipeS_len]; omega), if_neg hl]
    · rw [List.getElem?_set_ne z]
      exact wipeS_in ((List.mem_cons.mp h).resolve_left fun e => z e.symm)
theorem wipeS_out {i : Nat} : ∀ {vs : List Nat}, i ∉ vs → (wipeS sl vs)[i]? = sl[i]?
  | [], _ => rfl
  | v :: vs, h => by
    unfold wipeS
    rw [List.getElem?_set_ne fun e => h (by rw [e]; exact List.mem_cons_self)]
    exact wipeS_out fun z => h (List.mem_cons_of_mem _ z)
theorem wipe_in {i : Nat} : ∀ {vs : List Nat}, i ∈ vs → (wipe σ vs)[i]? = if i < σ.length then some none else none
  | v :: vs, h => by
    unfold wipe
    by_cases z : v = i
    · subst z
      by_cases hl : v < σ.length
      · rw [List.getElem?_set_self (by rw [wipe_length]; exact hl), if_pos hl]
      · rw [List.getElem?_eq_none (by rw [List.length_set, wipe_length]; omega), if_neg hl]
    · rw [List.getElem?_set_ne z]
      exact wipe_in ((List.mem_cons.mp h).resolve_left fun e => z e.symm)
theorem wipe_out {i : Nat} : ∀ {vs : List Nat}, i ∉ vs → (wipe σ vs)[i]? = σ[i]?
  | [], _ => rfl
  | v :: vs, h => by
    unfold wipe
    rw [List.getElem?_set_ne fun e => h (by rw [e]; exact List.mem_cons_self)]
    exact wipe_out fun z => h (List.mem_cons_of_mem _ z)
theorem SlOk.wipe (s : SlOk K F H r σ sl) (vs : List Nat) : SlOk K F H r (wipe σ vs) (wipeS sl vs) := by
  have nm : ∀ {i : Nat} {x : Sl}, (wipeS sl vs)[i]? = some x → x ≠ .nil → i ∉ vs ∧ sl[i]? = some x := fun {i x} h n => by
    by_cases hi : i ∈ vs
    · rw [wipeS_in hi] at h
      split at h
      · cases h
        exact absurd rfl n
      · cases h
    · exact ⟨hi, by rw [wipeS_out hi] at h; exact h⟩
  refine ⟨by rw [wipeS_len, wipe_length, s.len], fun i d h => ?_, fun i ds h => ?_, fun i j ds es a h1 h2 h3 h4 => ?_⟩
  · obtain ⟨n, g⟩ := nm h (by intro z; cases z)
    rw [wipe_out n]
    exact s.v i d g
  · obtain ⟨n, g⟩ := nm h (by intro z; cases z)
    rw [wipe_out n]
    exact s.own i ds g
  · obtain ⟨n1, g1⟩ := nm h1 (by intro z; cases z)
    obtain ⟨n2, g2⟩ := nm h2 (by intro z; cases z)
    rw [wipe_out n1] at h3
    rw [wipe_out n2] at h4
    exact s.ap i j ds es a g1 g2 h3 h4
theorem wipe_agree {vs : List Nat} (hl : σ2.length = σ.length) (h : ∀ i, i ∉ vs → σ2[i]? = (L2.wipe σ vs)[i]?) : L2.wipe σ2 vs = L2.wipe σ vs := by
  apply List.ext_getElem?
  intro i
  by_cases hi : i ∈ vs
  · rw [wipe_in hi, wipe_in hi, hl]
  · rw [wipe_out hi, h i hi]
end
/-- slots that agree but at A -/
def offA (A : List Nat) (s t : List Sl) : Prop := s.length = t.length ∧ ∀ i, i ∉ A → s[i]? = t[i]?
mutual
theorem tgSet_off : ∀ {tg : Tg} {d : D} {s s' t : List Sl} {A : List Nat}, offA (tgs tg ++ A) s t → tgSet tg d s = some s' → ∃ t', tgSet tg d t = some t' ∧ offA A s' t'
  | .s i, d, s, s', t, A, h, e => by
    have e : some (s.set i (.v d)) = some s' := e
    cases e
    refine ⟨t.set i (.v d), rfl, by rw [List.length_set, List.length_set, h.1], fun j hj => ?_⟩
    by_cases z : i = j
    · subst z
      by_cases hl : i < s.length
      · rw [List.getElem?_set_self hl, List.getElem?_set_self (by rw [← h.1]; exact hl)]
      · rw [List.getElem?_eq_none (by rw [List.length_set]; omega), List.getElem?_eq_none (by rw [List.length_set, ← h.1]; omega)]
    · rw [List.getElem?_set_ne z, List.getElem?_set_ne z]
      exact h.2 j (by
        intro m
        rcases List.mem_append.mp m with m | m
        · exact z (List.mem_singleton.mp m).symm
        · exact hj m)
  | .t ts, d, s, s', t, A, h, e => by
    cases d with
    | tup ds => exact tgSetL_off (ts := ts) h e
    | _ => cases e
theorem tgSetL_off : ∀ {ts : List Tg} {ds : List D} {s s' t : List Sl} {A : List Nat}, offA (tgsL ts ++ A) s t → tgSetL ts ds s = some s' → ∃ t', tgSetL ts ds t = some t' ∧ offA A s' t'
  | [], [], s, s', t, A, h, e => by
    cases e
    exact ⟨t, rfl, h⟩
  | [], _ :: _, _, _, _, _, _, e => by cases e
  | _ :: _, [], _, _, _, _, _, e => by cases e
  | tg :: ts, d :: ds, s, s', t, A, h, e => by
    have e : (tgSet tg d s).bind (fun sl => tgSetL ts ds sl) = some s' := e
    cases e1 : tgSet tg d s with
    | none => rw [e1] at e; cases e
    | some s1 =>
      rw [e1] at e
      have h : offA (tgs tg ++ (tgsL ts ++ A)) s t := by rw [← List.append_assoc]; exact h
      obtain ⟨t1, q1, o1⟩ := tgSet_off h e1
      obtain ⟨t2, q2, o2⟩ := tgSetL_off o1 e
      exact ⟨t2, by show (tgSet tg d t).bind _ = _; rw [q1]; exact q2, o2⟩
end
theorem tgSet_wipe {tg : Tg} {d : D} {sl sl' : List Sl} (h : tgSet tg d sl = some sl') : tgSet tg d (wipeS sl (tgs tg)) = some sl' := by
  obtain ⟨t', e, o⟩ := tgSet_off (t := wipeS sl (tgs tg)) (A := []) ⟨(wipeS_len _).symm, fun i hi => (wipeS_out (by simpa using hi)).symm⟩ h
  rw [e]
  congr 1
  exact (List.ext_getElem? fun i => o.2 i (by simp)).symm

/-! ### targets -/
def gTg (K : Fg) (tg : Tg) : TG := fun v σ H Q => ∃ F r S sl d sl', Rel K F H r S ∧ SlOk K F H r σ sl ∧ Rp K F r v d ∧ tgSet tg d sl = some sl' ∧ ∀ σ' : L2.St, SlOk K F H r σ' sl' → (∀ i, i ∉ tgs tg → σ'[i]? = σ[i]?) → Q σ' H
def gTgs (K : Fg) (ts : List Tg) : TGs := fun vs σ H Q => ∃ F r S sl ds sl', Rel K F H r S ∧ SlOk K F H r σ sl ∧ RpL K F r vs ds ∧ tgSetL ts ds sl = some sl' ∧ ∀ σ' : L2.St, SlOk K F H r σ' sl' → (∀ i, i ∉ tgsL ts → σ'[i]? = σ[i]?) → Q σ' H
theorem pg_imp {X : L2.Cx} {ex : Expr} {t t' : TG} (h : PG X ex t) (k : ∀ v σ H Q, t' v σ H Q → t v σ H Q) : PG X ex t' := ⟨fun pins s σ H v u Q I r q => h.run pins s σ H v u Q I r (k v σ H Q q)⟩
theorem pgs_imp {X : L2.Cx} {ex : List Expr} {t t' : TGs} (h : PGs X ex t) (k : ∀ v σ H Q, t' v σ H Q → t v σ H Q) : PGs X ex t' := ⟨fun pins s σ H v u Q I r q => h.run pins s σ H v u Q I r (k v σ H Q q)⟩
theorem asg_len {env : Env} : ∀ {es : List Expr}, (assignEach es env).length = es.length
  | [] => rfl
  | e :: es => by
    cases e <;> (show (assignEach es env).length + 1 = es.length + 1; rw [asg_len])
theorem asg_find {env : Env} {es : List Expr} (h : es.all noStar = true) : (assignEach es env).findIdx? (·.1) = none := by
  rw [List.findIdx?_eq_none_iff]
  induction es with
  | nil => intro x hx; cases hx
  | cons e es ih =>
    rw [List.all_cons, Bool.and_eq_true] at h
    intro x hx
    rw [asg_cons h.1] at hx
    rcases List.mem_cons.mp hx with rfl | hx
    · rfl
    · exact ih h.2 x hx
section
variable {X : L2.Cx} {pos : Pos} {x : Str} {xa : Expr} {xs : List Expr} {i : Nat} {tg : Tg} {ts : List Tg}
theorem g_s (hN : X.N.Nodup) (hi : X.N[i]? = some x) (hx : Loc X.env.scope x) (hf : X.fn x = true ∨ X.env.scope.names.lookup x = some .local) : PG X (.Name x pos) (gTg X.K (.s i)) := by
  refine pg_imp (pg_name hN hi hx hf) fun v σ H Q ⟨F, r, S, sl, d, sl', R, so, hv, e, q⟩ => ?_
  have e : some (sl.set i (.v d)) = some sl' := e
  cases e
  refine q _ (so.set i hv) fun j hj => ?_
  rw [List.getElem?_set_ne fun z => hj (by rw [z]; exact List.mem_singleton.mpr rfl)]
theorem gs_nil : PGs X [] (gTgs X.K []) := by
  refine pgs_imp pgs_nil fun vs σ H Q ⟨F, r, S, sl, ds, sl', R, so, hv, e, q⟩ => ?_
  cases hv with
  | nil =>
    cases e
    exact ⟨rfl, q σ so fun _ _ => rfl⟩
  | cons _ _ _ => cases e
theorem gs_cons (hs : noStar xa = true) (h1 : PG X xa (gTg X.K tg)) (h2 : PGs X xs (gTgs X.K ts)) : PGs X (xa :: xs) (gTgs X.K (tg :: ts)) := by
  refine pgs_imp (pgs_cons h1 h2 (by rw [asg_cons hs]; rfl)) fun vs σ H Q ⟨F, r, S, sl, ds, sl', R, so, hv, e, q⟩ => ?_
  cases hv with
  | nil => cases e
  | @cons v d vs ds hv hp ht =>
    have e : (tgSet tg d sl).bind (fun sl => tgSetL ts ds sl) = some sl' := e
    cases e1 : tgSet tg d sl with
    | none => rw [e1] at e; cases e
    | some s1 =>
      rw [e1] at e
      refine ⟨v, vs, rfl, F, r, S, sl, d, s1, R, so, hv, e1, fun σ1 so1 a1 => ?_⟩
      refine ⟨F, r, S, s1, ds, sl', R, so1, ht, e, fun σ2 so2 a2 => q σ2 so2 fun i hi => ?_⟩
      have h1 : i ∉ tgs tg := fun z => hi (List.mem_append_left _ z)
      have h2 : i ∉ tgsL ts := fun z => hi (List.mem_append_right _ z)
      rw [a2 i h2, a1 i h1]
theorem tgSetL_len : ∀ {ts : List Tg} {ds : List D} {s s' : List Sl}, tgSetL ts ds s = some s' → ds.length = ts.length
  | [], [], _, _, _ => rfl
  | [], _ :: _, _, _, e => by cases e
  | _ :: _, [], _, _, e => by cases e
  | tg :: ts, d :: ds, s, s', e => by
    have e : (tgSet tg d s).bind (fun sl => tgSetL ts ds sl) = some s' := e
    cases e1 : tgSet tg d s with
    | none => rw [e1] at e; cases e
    | some s1 =>
      rw [e1] at e
      rw [List.length_cons, List.length_cons, tgSetL_len (ts := ts) e]
theorem g_t {k : Nat} (hc : X.calm = true) (hs : xs.all noStar = true) (hl : xs.length = ts.length) (h : PGs X xs (gTgs X.K ts)) : PG X (.Tuple xs k pos) (gTg X.K (.t ts)) := by
  refine pg_imp (pg_tup hc h (asg_len) (asg_find hs)) fun v σ H Q ⟨F, r, S, sl, d, sl', R, so, hv, e, q⟩ => ?_
  cases d with
  | tup ds =>
    cases hv with
    | @tup a vs _ hq ht =>
      have e : tgSetL ts ds sl = some sl' := e
      exact ⟨a, vs, rfl, R.sqt hq, by rw [ht.len, tgSetL_len e, hl], F, r, S, sl, ds, sl', R, so, ht, e, q⟩
  | _ => cases e
end
end G
end S_GSnd6
section S_GSnd7
set_option linter.all false
set_option maxRecDepth 100000
set_option maxHeartbeats 1000000
/-! GSnd7: walks and comprehensions. -/
namespace G
open PySem PySem.Spec PyProof.Rows L2

theorem Rp.toInt {K : Fg} {F : Hp} {r : List Addr} {v : V} {i : Int} (h : Rp K F r v (.int i)) : v = .int i := by
  cases h
  rfl
mutual
theorem tgSet_len : ∀ {tg : Tg} {d : D} {s s' : List Sl}, tgSet tg d s = some s' → s'.length = s.length
  | .s i, d, s, s', e => by
    have e : some (s.set i (.v d)) = some s' := e
    cases e
    exact List.length_set
  | .t ts, d, s, s', e => by
    cases d with
    | tup ds => exact tgSetL_len2 (ts := ts) e
    | _ => cases e
theorem tgSetL_len2 : ∀ {ts : List Tg} {ds : List D} {s s' : List Sl}, tgSetL ts ds s = some s' → s'.length = s.length
  | [], [], _, _, e => by
    cases e
    rfl
  | [], _ :: _, _, _, e => by cases e
  | _ :: _, [], _, _, e => by cases e
  | tg :: ts, d :: ds, s, s', e => by
    have e : (tgSet tg d s).bind (fun sl => tgSetL ts ds sl) = some s' := e
    cases e1 : tgSet tg d s with
    | none => rw [e1] at e; cases e
    | some s1 =>
      rw [e1] at e
      rw [tgSetL_len2 (ts := ts) e, tgSet_len e1]
end
section
variable {XR : XRel} {W : L2.WX} {C : G.Cx} {X : L2.Cx} {p pos : Pos} {a b c : E} {xa xb xc tgx : Expr} {es : List E} {xs : List Expr}
theorem i_e {w : Bool} (hw : w = true ∨ a.isB = false) (ha : PE X xa (tE X.K XR W C a)) : PI X tgx xa (tIt X.K XR W C w (.e a)) := by
  refine pi_imp (pi_any ha) fun σ H Q ⟨F, r, sl, S, R, so, h⟩ => ?_
  unfold evI at h
  refine tE.one h R so fun x d F' H' r' S' ex R' rx h' => ?_
  obtain ⟨z, hz, q⟩ := h'.of
  have q := q F' H' r' .refl R'
  rcases rx.b with rx | ⟨m, t⟩
  · cases rx with
    | lst hq ht =>
      cases hz
      exact .inl ⟨_, rfl, ⟨_, R'.sql hq⟩, q _ (wk_list hq ht).of⟩
    | tup hq ht =>
      cases hz
      exact .inr (.inl ⟨_, rfl, ⟨_, R'.sqt hq⟩, q _ (wk_tup hq ht).of⟩)
    | str s hl =>
      cases hz
      exact .inr (.inr ⟨_, rfl, q _ (wk_str s hl).of⟩)
    | _ => cases hz
  · cases hz
    rcases hw with hw | hw
    · subst hw
      exact .inl ⟨_, rfl, ⟨_, SqL.of m.h⟩, q _ (wk_own m t)⟩
    · rw [hw] at rx
      cases rx with
      | lst hq ht => exact .inl ⟨_, rfl, ⟨_, R'.sql hq⟩, q _ (wk_list hq ht).of⟩
theorem rng_of {i : Int} (h : rngOk i = true) : -(2 ^ 62) ≤ i ∧ i < 2 ^ 62 := by
  unfold rngOk at h
  rw [Bool.and_eq_true, decide_eq_true_eq, decide_eq_true_eq] at h
  exact h
theorem i_rng1 {w : Bool} (hs : noStar xa = true) (hg : Gl X "range") (hm : X.mg "range" = none) (ha : PA X [xa] (tL X.K XR W C false [a])) : PI X tgx (.Call (.Name "range" p) [xa] [] pos) (tIt X.K XR W C w (.rng [a])) := by
  refine pi_imp (pi_range1 hg hm ha (star_cons hs)) fun σ H Q ⟨F, r, sl, S, R, so, h⟩ => ?_
  unfold evI at h
  refine tL.oneN h R so fun vs ds F' H' r' S' hn ex R' rx h' => ?_
  obtain ⟨z, hz, q⟩ := h'.of
  have q := q F' H' r' .refl R'
  cases rx with
  | nil => cases hn
  | @cons v d vs ds h1 t =>
    cases t with
    | cons _ _ => cases hn
    | nil =>
      cases d with
      | int j =>
        have hz : (if rngOk j then some (upto 0 j.toNat) else none) = some z := hz
        by_cases hj : rngOk j = true
        · rw [if_pos hj] at hz
          cases hz
          have e : v = .int j := Rp.toInt (show Rp X.K F' r' v (.int j) from h1)
          subst e
          obtain ⟨h1, h2⟩ := rng_of hj
          exact ⟨j, rfl, h1, h2, q _ (wk_rng 0 j.toNat).of⟩
        · rw [if_neg hj] at hz
          cases hz
      | _ => cases hz
theorem i_rng2 {w : Bool} (hs : noStar xa = true) (hs2 : noStar xb = true) (hg : Gl X "range") (hm : X.mg "range" = none) (ha : PA X [xa, xb] (tL X.K XR W C false [a, b])) : PI X tgx (.Call (.Name "range" p) [xa, xb] [] pos) (tIt X.K XR W C w (.rng [a, b])) := by
  refine pi_imp (pi_range2 hg hm ha (by rw [star_cons hs, star_cons hs2]; rfl) (star_cons hs2)) fun σ H Q ⟨F, r, sl, S, R, so, h⟩ => ?_
  unfold evI at h
  refine tL.oneN h R so fun vs ds F' H' r' S' hn ex R' rx h' => ?_
  obtain ⟨z, hz, q⟩ := h'.of
  have q := q F' H' r' .refl R'
  cases rx with
  | nil => cases hn
  | @cons v d vs ds h1 t =>
    cases t with
    | nil => cases hn
    | @cons v2 d2 vs2 ds2 h2 t =>
      cases t with
      | cons _ _ => cases hn
      | nil =>
        cases d with
        | int i =>
          cases d2 with
          | int j =>
            have hz : (if (rngOk i && rngOk j) = true then some (upto i (j - i).toNat) else none) = some z := hz
            by_cases hj : (rngOk i && rngOk j) = true
            · rw [if_pos hj] at hz
              cases hz
              have e : v = .int i := Rp.toInt (show Rp X.K F' r' v (.int i) from h1)
              subst e
              have e : v2 = .int j := Rp.toInt (show Rp X.K F' r' v2 (.int j) from h2)
              subst e
              rw [Bool.and_eq_true] at hj
              obtain ⟨h1, h2⟩ := rng_of hj.1
              obtain ⟨h3, h4⟩ := rng_of hj.2
              exact ⟨i, j, rfl, ⟨h1, h2, h3, h4⟩, q _ (wk_rng i (j - i).toNat).of⟩
            · rw [if_neg hj] at hz
              cases hz
          | _ => cases hz
        | _ => cases hz
end

/-- a clause's tests -/
def tCs (K : Fg) (XR : XRel) (W : L2.WX) (C : G.Cx) (cs : List B) : TT := fun σ H Q => ∃ F r sl S, Rel K F H r S ∧ SlOk K F H r σ sl ∧ PostE K XR W F H r σ (evCs C cs sl S) fun t S' F' H' r' => Q t H'
theorem pts_imp {X : L2.Cx} {ex : List Expr} {t t' : TT} (h : PTs X ex t) (k : ∀ σ H Q, t' σ H Q → t σ H Q) : PTs X ex t' := ⟨fun pins s σ H Q I q => h.run pins s σ H Q I (k σ H Q q)⟩
theorem c_nil {X : L2.Cx} {XR : XRel} {W : L2.WX} {C : G.Cx} : PTs X [] (tCs X.K XR W C []) := by
  refine pts_imp pts_nil fun σ H Q ⟨F, r, sl, S, R, so, h⟩ => ?_
  unfold evCs at h
  exact h F H r .refl R
theorem c_one {X : L2.Cx} {XR : XRel} {W : L2.WX} {C : G.Cx} {c : B} {x : Expr} (h : PT X x (tT X.K XR W C c)) : PTs X [x] (tCs X.K XR W C [c]) := by
  refine pts_imp (pts_one h) fun σ H Q ⟨F, r, sl, S, R, so, h⟩ => ?_
  unfold evCs at h
  exact ⟨F, r, sl, S, R, so, h⟩

theorem Ext.own {F H F' H' : Hp} {r r' : List Addr} {p : Addr} {o : HO} (e : Ext F H r F' H' r') (n : H p = none) : Ext F H r F' (upd H' p o) r' := by
  refine ⟨e.f, e.fn, fun a o' h hr => ?_, fun a o' h => ?_, e.p⟩
  · rw [upd_ne fun z => by rw [z, n] at h; cases h]
    exact e.h a o' h hr
  · rw [upd_ne fun z => by rw [z, n] at h; cases h]
    exact e.t a o' h
theorem Mine.upd {F H : Hp} {r : List Addr} {p : Addr} {xs ys : List V} (m : Mine F H r p xs) : Mine F (upd H p (.lst ys)) r p ys := ⟨upd_same, m.f, m.r⟩

section
variable {XR : XRel} {W : L2.WX} {C : G.Cx} {X : L2.Cx} {pos : Pos} {it : I} {elt : E} {cond : List B} {tg : Tg} {xe xi tgx : Expr} {ifs : List Expr}
/-- what a comprehension's rule asks -/
theorem lc_of {vs : List Nat} (hvs : vs = tgs tg) (hb : elt.isB = false) {σ : L2.St} {H : Hp} {Q : VK} (h : tEX X.K XR W C (.comp tg it elt cond) σ H Q) :
    tLc (tIt X.K XR W C true it) (gTg X.K tg) (tCs X.K XR (fun _ _ _ _ => False) C cond) (tE X.K XR (fun _ _ _ _ => False) C elt) vs σ H Q := by
  subst hvs
  obtain ⟨F, r, sl, S, R, so, h⟩ := h
  unfold evE at h
  generalize hf : (fun d S => match tgSet tg d sl with
      | none => .stk
      | some sl' => (evCs C cond sl' S).bind fun t S => if t then (evE C elt sl' S).bind fun y S => if y.pur then .ok (some y) S else .stk else .ok none S : D → List Cell → Rs (Option D)) = f at h
  refine ⟨F, r, sl, S, R, so, PostE.imp h.bind fun ds S1 F1 H1 r1 e1 R1 h1 J wk D hD => ?_⟩
  refine ⟨fun i m H2 => m = ds.length - i ∧ i ≤ ds.length ∧ ∃ F2 r2 S2 acc vs, Rel X.K F2 H2 r2 S2 ∧ Ext F1 H1 r1 F2 H2 r2 ∧ Mine F2 H2 r2 D vs ∧ RpL X.K F2 r2 vs acc ∧
    PostE X.K XR W F1 H1 r1 σ ((compL f (ds.drop i) S2 acc).bind fun ys S => Rs.ok (G.D.lst ys) S) (fun d S' F' H' r' => FrX X.K H F' H' r' d Q), ⟨ds.length, by simp, Nat.zero_le _, F1, r1, S1, [], [], R1.put (R1.nF hD) (R1.nr hD), Ext.add R1 hD, R1.mine hD, .nil, h1⟩, ?_⟩
  rintro i m H2 ⟨rfl, hi, F2, r2, S2, acc, vs, R2, e2, mD, t2, h2⟩
  by_cases hlt : i < ds.length
  · have hd : ds.drop i = ds[i] :: ds.drop (i + 1) := List.drop_eq_getElem_cons hlt
    rw [hd] at h2
    unfold compL at h2
    refine .inr ⟨wk.go i F2 H2 r2 S2 e2 R2 hlt, fun H' => i + 1 ≤ ds.length ∧ ∃ F2 r2 S2 acc vs, Rel X.K F2 H' r2 S2 ∧ Ext F1 H1 r1 F2 H' r2 ∧ Mine F2 H' r2 D vs ∧ RpL X.K F2 r2 vs acc ∧
      PostE X.K XR W F1 H1 r1 σ ((compL f (ds.drop (i + 1)) S2 acc).bind fun ys S => Rs.ok (G.D.lst ys) S) (fun d S' F' H' r' => FrX X.K H F' H' r' d Q), fun H' p => ⟨ds.length - (i + 1), by omega, rfl, p⟩, fun x H' hy => ?_⟩
    obtain ⟨F3, e3, R3, rx⟩ := wk.yl i ds[i] F2 H2 r2 S2 x H' e2 R2 (List.getElem?_eq_getElem hlt) hy
    have hfd : f ds[i] S2 = match tgSet tg ds[i] sl with
      | none => .stk
      | some sl' => (evCs C cond sl' S2).bind fun t S => if t then (evE C elt sl' S).bind fun y S => if y.pur then .ok (some y) S else .stk else .ok none S := by rw [← hf]
    cases ht : tgSet tg ds[i] sl with
    | none =>
      rw [hfd, ht] at h2
      exact h2.elim
    | some sl' =>
      rw [hfd, ht] at h2
      dsimp only at h2
      have so3 : SlOk X.K F3 H' r2 σ sl := ((so.ext e1).ext e2).ext e3
      refine ⟨F3, r2, S2, wipeS sl (tgs tg), ds[i], sl', R3, so3.wipe _, rx, tgSet_wipe ht, fun σ2 so2 ag => ⟨wipe_agree ?_ ag, F3, r2, sl', S2, R3, so2, ?_⟩⟩
      · rw [← so2.len, ← so3.len]
        obtain ⟨t', e, o⟩ := tgSet_off (t := sl) (A := []) ⟨rfl, fun _ _ => rfl⟩ ht
        rw [ht] at e
        cases e
        exact tgSet_len ht
      have m3 : Mine F3 H' r2 D vs := mD.ext e3
      have t3 : RpL X.K F3 r2 vs acc := t2.up e3.f e3.pre
      cases hcs : evCs C cond sl' S2 with
      | stk => rw [hcs] at h2; exact h2.elim
      | exc _ _ _ => rw [hcs] at h2; exact h2.elim
      | ok t S3 =>
        rw [hcs] at h2
        intro F4 H4 r4 e4 R4
        cases t with
        | false =>
          rw [if_neg (by decide)]
          exact ⟨hlt, F4, r4, S3, acc, vs, R4, e2.trans (e3.trans e4), m3.ext e4, t3.up e4.f e4.pre, h2⟩
        | true =>
          rw [if_pos rfl]
          refine ⟨F4, r4, sl', S3, R4, so2.ext e4, ?_⟩
          rw [hb]
          cases hel : evE C elt sl' S3 with
          | stk => simp only [Rs.bind, hel] at h2; exact h2.elim
          | exc _ _ _ => simp only [Rs.bind, hel] at h2; exact h2.elim
          | ok y S5 =>
            simp only [Rs.bind, hel, if_true] at h2
            by_cases hp : y.pur = true
            · rw [if_pos hp] at h2
              simp only at h2
              by_cases hn : acc.length < lim
              · rw [if_pos hn] at h2
                intro F5 H5 r5 e5 R5 v hv
                have m5 := (m3.ext e4).ext e5
                have t5 := (t3.up e4.f e4.pre).up e5.f e5.pre
                refine ⟨vs, m5.h, by rw [t5.len, ← lim_eq]; exact hn, hlt, F5, r5, S5, acc ++ [y], vs ++ [v], R5.put m5.f m5.r, (e2.trans (e3.trans (e4.trans e5))).own hD, m5.upd, t5.app (.one hv hp), h2⟩
              · rw [if_neg hn] at h2
                exact h2.elim
            · rw [if_neg hp] at h2
              exact h2.elim
  · have e : i = ds.length := by omega
    subst e
    refine .inl ⟨wk.st F2 H2 r2 S2 e2 R2, ?_⟩
    rw [List.drop_length] at h2
    unfold compL at h2
    exact h2 F2 H2 r2 e2 R2 D vs t2 mD (e1.free hD)
end
end G
end S_GSnd7
section S_GSet
set_option linter.all false
set_option maxRecDepth 100000
set_option maxHeartbeats 3200000
/-! GSet: set(l) of a list. -/
namespace G
open PySem PySem.Spec PyProof.Rows L2

/-- an empty set's object, a list's iterator -/
def fso (w : World) : Obj := ⟨.type "set", none, .set #[] 0 (.fresh 0 0 (!w.params.followText "set-order")), #[]⟩
def lit (l : Addr) : Obj := { cls := .type "list_iterator", data := .fields #[.ref l, .int 0 0] }
section
variable {P : Program} {w : World} {A : Around} {E : Value → Shared → Prop} {s : Shared}
theorem set_skel {l : Addr} {items : Array Value} {Post : Heap → Prop} {Q : Value → Shared → Prop} (hh : A.handled = none) (hl : s.heap.IsList l items)
    (loop : ∀ (B : Around) (R : Result → Shared → Prop), B.handled = none → l ≠ (s.heap.push (fso w)).objs.size → (∀ t : Shared, Moved [s.heap.objs.size, (s.heap.push (fso w)).objs.size] (fun a b => b = a) { s with heap := (s.heap.push (fso w)).push (lit l) } t → Post t.heap → R (.ok (.ret .none)) t) →
      codeAny (model P w) B (.builtin "set.update.loop" ⟨[.ref s.heap.objs.size, .ref (s.heap.push (fso w)).objs.size], []⟩) R { s with heap := (s.heap.push (fso w)).push (lit l) })
    (fin : ∀ (h' : Heap) (tk : Nat), Post h' → (∀ b o, s.heap.get? b = some o → h'.get? b = some o) → Q (.ref s.heap.objs.size) { s with heap := h', toks := tk }) :
    wpAny (model P w) A (call (.type "set") [.ref l]) Q E s := by
  obtain ⟨_, _, mro⟩ := PySem.F.called_set.mro
  have made := PySem.F.called_set.made
  have subb := PySem.F.called_set.sub
  apply wpAny_call
  apply codeAny_of_tree
  change wpAny _ _ (callAny (.type "set") _) _ _ _
  apply wpAny_pure
  refine ⟨Code.quiet_builtin _ (by decide +kernel), codeAny_builtin PySem.F.entry_type_call ?_⟩
  rw [Around.under_plain (weight_type_call_type "set" [Value.ref l] []) rfl]
  have noT := PySem.F.called_set.notType
  have can := PySem.F.called_set.canCreate
  have tc := PySem.F.typeCall_set_1 (Value.ref l)
  repeat any_goals first | assumption | wp_step
  apply codeAny_mono (code_set_led1 (.ref l) (E := E) (Q₁ := fun obj t => obj = .ref s.heap.objs.size ∧ t = { s with heap := s.heap.push (fso w) }) ⟨rfl, rfl⟩)
  rintro r t res
  cases r with
  | error e => exact res
  | ok fl =>
    cases fl with
    | ret obj =>
      obtain ⟨rfl, rfl⟩ := res
      have here : (s.heap.push (fso w)).get? s.heap.objs.size = some (fso w) := Heap.get?_push_size _ rfl
      have isSet : Shared.TypeIs { s with heap := s.heap.push (fso w) } (.ref s.heap.objs.size) "set" := ⟨_, here, rfl⟩
      have ini := PySem.F.called_set.init.lookup
      have bnd := PySem.F.called_set.init.bind (.ref s.heap.objs.size)
      repeat any_goals first | assumption | wp_step
      apply codeAny_mono (codeAny_call_builtin (R := wants (fun r t => r = .none ∧ ∃ h' tk, t = { s with heap := h', toks := tk } ∧ Post h' ∧ (∀ b o, s.heap.get? b = some o → h'.get? b = some o)) E)
        PySem.F.called_set.init.plain PySem.F.entry_set_init (check_set_init_1 isSet ?_))
      · rintro r2 t2 res2
        cases r2 with
        | error e => exact res2
        | ok fl2 =>
          cases fl2 with
          | ret u =>
            obtain ⟨rfl, h', tk, rfl, post, keep⟩ := res2
            repeat any_goals first | assumption | wp_step
            exact fin _ _ post keep
          | _ => exact res2
      · obtain ⟨⟨oc, od, oda, osl⟩, got, isl, nl, dat⟩ := hl
        simp only at isl dat
        subst isl
        subst dat
        have got1 : (s.heap.push (fso w)).get? l = some ⟨.type "list", od, .seq items nl, osl⟩ := Heap.get?_push_of_some _ got
        have s1 := PySem.F.sub_list_set
        have s2 := PySem.F.sub_list_frozenset
        have nd : (Value.type "list" == Value.type "dict") = false := by decide
        have isL : (s.heap.push (fso w)).IsList l items := ⟨_, got1, rfl, nl, rfl⟩
        unfold Builtin.«set.__init__» noKeywords Builtin.Frozenset.updateFrom
        generalize eqI : pyIter = PI
        wp_walk
        subst eqI
        apply wpAny_pyIter_list isL
        apply wpAny_bind
        apply wpAny_runValue
        have below : l < s.heap.objs.size := Heap.lt_size got
        have sz : (s.heap.push (fso w)).objs.size = s.heap.objs.size + 1 := Heap.size_push ..
        apply loop
        · simp [hh]
        · rw [sz]
          exact Nat.ne_of_lt (Nat.lt_succ_of_lt below)
        · intro t mv post
          obtain ⟨h', g', d', tk', os'⟩ := t
          obtain rfl : g' = s.gens := mv.gens
          obtain rfl : d' = s.drawn := mv.drawn
          obtain rfl : os' = s.os := mv.os
          change wpAny _ _ _ _ _ _
          apply wpAny_pure
          change wpAny _ _ (ret Value.none) _ _ _
          apply wpAny_pure
          refine ⟨rfl, h', tk', rfl, post, fun b o e => ?_⟩
          have lt := Heap.lt_size e
          refine mv.heap b o ?_ (Heap.get?_push_of_some _ (Heap.get?_push_of_some _ e))
          simp only [List.mem_cons, List.not_mem_nil, or_false, not_or]
          exact ⟨Nat.ne_of_lt lt, by rw [sz]; exact Nat.ne_of_lt (Nat.lt_succ_of_lt lt)⟩
    | _ => exact res
end
end G
end S_GSet
section S_GSrt
set_option linter.all false
/-! GSrt: sorting, sets of members: plain facts. -/
namespace G
section
variable {α : Type} {le : α → α → Bool}
structure Ord (le : α → α → Bool) : Prop where
  tot : ∀ a b, le a b = true ∨ le b a = true
  tr : ∀ a b c, le a b = true → le b c = true → le a c = true
  anti : ∀ a b, le a b = true → le b a = true → a = b
theorem insB_comm (O : Ord le) (x y : α) : ∀ l : List α, insB le x (insB le y l) = insB le y (insB le x l)
  | [] => by
    by_cases h : le x y = true
    · by_cases h2 : le y x = true
      · rw [O.anti x y h h2]
      · simp [insB, h, h2]
    · have h2 : le y x = true := (O.tot x y).resolve_left h
      simp [insB, h, h2]
  | a :: l => by
    have ih := insB_comm O x y l
    by_cases hx : le x a = true <;> by_cases hy : le y a = true
    · simp only [insB, hx, hy, if_true]
      by_cases h : le x y = true <;> by_cases h2 : le y x = true
      · rw [O.anti x y h h2]
      · simp [h, h2, hx, hy, insB]
      · simp [h, h2, hx, hy, insB]
      · exact absurd ((O.tot x y).resolve_left h) h2
    · have h : le x y = true := O.tr x a y hx ((O.tot a y).resolve_right hy)
      have h2 : ¬ le y x = true := fun z => hy (O.tr y x a z hx)
      simp [insB, hx, hy, h, h2]
    · have h : le y x = true := O.tr y a x hy ((O.tot a x).resolve_right hx)
      have h2 : ¬ le x y = true := fun z => hx (O.tr x y a z hy)
      simp [insB, hx, hy, h, h2]
    · simp [insB, hx, hy, ih]
theorem srtB_perm (O : Ord le) {l m : List α} (p : l.Perm m) : srtB le l = srtB le m := by
  induction p with
  | nil => rfl
  | cons x _ ih => exact congrArg (insB le x) ih
  | swap x y l => exact insB_comm O y x _
  | trans _ _ ih1 ih2 => exact ih1.trans ih2
theorem srtB_id : ∀ {l : List α}, l.Pairwise (fun a b => le a b = true) → srtB le l = l
  | [], _ => rfl
  | x :: l, h => by
    obtain ⟨h1, h2⟩ := List.pairwise_cons.mp h
    show insB le x (srtB le l) = x :: l
    rw [srtB_id h2]
    cases l with
    | nil => rfl
    | cons y l =>
      unfold insB
      rw [if_pos (h1 y List.mem_cons_self)]
theorem srtB_uniq (O : Ord le) {l m : List α} (p : l.Perm m) (h : l.Pairwise (fun a b => le a b = true)) : l = srtB le m := by
  rw [← srtB_perm O p, srtB_id h]
theorem insB_mem {x y : α} : ∀ {l : List α}, y ∈ insB le x l ↔ y = x ∨ y ∈ l
  | [] => by simp [insB]
  | a :: l => by
    unfold insB
    split
    · simp
    · rw [List.mem_cons, insB_mem (l := l), List.mem_cons]
      constructor
      · rintro (h | h | h)
        · exact .inr (.inl h)
        · exact .inl h
        · exact .inr (.inr h)
      · rintro (h | h | h)
        · exact .inr (.inl h)
        · exact .inl h
        · exact .inr (.inr h)
theorem srtB_mem {y : α} : ∀ {l : List α}, y ∈ srtB le l ↔ y ∈ l
  | [] => Iff.rfl
  | x :: l => by
    show y ∈ insB le x (srtB le l) ↔ _
    rw [insB_mem, srtB_mem (l := l), List.mem_cons]
theorem insB_len {x : α} : ∀ {l : List α}, (insB le x l).length = l.length + 1
  | [] => rfl
  | a :: l => by
    unfold insB
    split
    · rfl
    · rw [List.length_cons, insB_len (l := l), List.length_cons]
theorem srtB_len : ∀ {l : List α}, (srtB le l).length = l.length
  | [] => rfl
  | x :: l => by
    show (insB le x (srtB le l)).length = _
    rw [insB_len, srtB_len (l := l), List.length_cons]
theorem insB_srt (O : Ord le) {x : α} : ∀ {l : List α}, l.Pairwise (fun a b => le a b = true) → (insB le x l).Pairwise (fun a b => le a b = true)
  | [], _ => List.pairwise_singleton _ _
  | a :: l, h => by
    obtain ⟨h1, h2⟩ := List.pairwise_cons.mp h
    unfold insB
    by_cases hx : le x a = true
    · rw [if_pos hx]
      refine List.pairwise_cons.mpr ⟨fun y hy => ?_, h⟩
      rcases List.mem_cons.mp hy with rfl | hy
      · exact hx
      · exact O.tr x a y hx (h1 y hy)
    · rw [if_neg hx]
      refine List.pairwise_cons.mpr ⟨fun y hy => ?_, insB_srt O h2⟩
      rcases insB_mem.mp hy with rfl | hy
      · exact (O.tot a y).resolve_right hx
      · exact h1 y hy
theorem srtB_srt (O : Ord le) : ∀ {l : List α}, (srtB le l).Pairwise (fun a b => le a b = true)
  | [] => List.Pairwise.nil
  | x :: l => insB_srt O (srtB_srt O (l := l))
end
theorem ordI : Ord leI := ⟨fun a b => by simp only [leI, decide_eq_true_eq]; omega, fun a b c => by simp only [leI, decide_eq_true_eq]; omega, fun a b => by simp only [leI, decide_eq_true_eq]; omega⟩
theorem leP_iff {a b : Int × Int} : leP a b = true ↔ a.1 < b.1 ∨ (a.1 = b.1 ∧ a.2 ≤ b.2) := by
  simp [leP]
theorem ordP : Ord leP := by
  refine ⟨fun a b => ?_, fun a b c => ?_, fun a b => ?_⟩
  · rw [leP_iff, leP_iff]
    omega
  · rw [leP_iff, leP_iff, leP_iff]
    omega
  · rw [leP_iff, leP_iff]
    intro h1 h2
    have e1 : a.1 = b.1 := by omega
    have e2 : a.2 = b.2 := by omega
    exact Prod.ext e1 e2
section
variable {α : Type} [DecidableEq α]
theorem ddup_mem {y : α} : ∀ {l : List α}, y ∈ ddup l ↔ y ∈ l
  | [] => Iff.rfl
  | x :: l => by
    unfold ddup
    split
    · rename_i h
      rw [ddup_mem (l := l), List.mem_cons]
      exact ⟨.inr, fun z => z.elim (fun e => by rw [e]; exact ddup_mem.mp h) id⟩
    · rw [List.mem_cons, ddup_mem (l := l), List.mem_cons]
theorem ddup_nodup : ∀ {l : List α}, (ddup l).Nodup
  | [] => List.nodup_nil
  | x :: l => by
    unfold ddup
    split
    · exact ddup_nodup
    · rename_i h
      exact List.nodup_cons.mpr ⟨h, ddup_nodup⟩
theorem nodup_perm : ∀ {l m : List α}, l.Nodup → m.Nodup → (∀ x, x ∈ l ↔ x ∈ m) → l.Perm m
  | [], m, _, _, h => by
    cases m with
    | nil => exact List.Perm.refl _
    | cons y m => exact absurd ((h y).mpr List.mem_cons_self) (by simp)
  | x :: l, m, hl, hm, h => by
    obtain ⟨h1, h2⟩ := List.nodup_cons.mp hl
    have hx : x ∈ m := (h x).mp List.mem_cons_self
    have p := List.perm_cons_erase hx
    refine List.Perm.trans (List.Perm.cons x (nodup_perm h2 (hm.erase x) fun y => ?_)) p.symm
    rw [hm.mem_erase_iff]
    constructor
    · intro hy
      exact ⟨fun e => h1 (by rw [← e]; exact hy), (h y).mp (List.mem_cons_of_mem _ hy)⟩
    · rintro ⟨ne, hy⟩
      exact (List.mem_cons.mp ((h y).mpr hy)).resolve_left ne
theorem ddup_len_rev {l : List α} : (ddup l.reverse).length = (ddup l).length :=
  (nodup_perm ddup_nodup ddup_nodup fun x => by rw [ddup_mem, ddup_mem, List.mem_reverse]).length_eq
theorem ddup_id : ∀ {l : List α}, l.Nodup → ddup l = l
  | [], _ => rfl
  | x :: l, h => by
    obtain ⟨h1, h2⟩ := List.nodup_cons.mp h
    unfold ddup
    rw [ddup_id h2, if_neg h1]
theorem ddup_le : ∀ l : List α, (ddup l).length ≤ l.length
  | [] => Nat.le_refl _
  | x :: l => by
    have := ddup_le l
    unfold ddup
    split
    · rw [List.length_cons]; omega
    · rw [List.length_cons, List.length_cons]; omega
theorem ddup_cons {x : α} {l : List α} : (ddup (x :: l)).length = if x ∈ l then (ddup l).length else (ddup l).length + 1 := by
  by_cases h : x ∈ l
  · rw [if_pos h]
    show (if x ∈ ddup l then ddup l else x :: ddup l).length = _
    rw [if_pos (ddup_mem.mpr h)]
  · rw [if_neg h]
    show (if x ∈ ddup l then ddup l else x :: ddup l).length = _
    rw [if_neg fun z => h (ddup_mem.mp z)]
    rfl
theorem ddup_nodup_iff : ∀ {l : List α}, (ddup l).length = l.length ↔ l.Nodup
  | [] => by simp [ddup]
  | x :: l => by
    have ih := ddup_nodup_iff (l := l)
    have le := ddup_le l
    rw [List.nodup_cons]
    unfold ddup
    split
    · rename_i h
      rw [List.length_cons]
      constructor
      · intro e
        omega
      · rintro ⟨h1, _⟩
        exact absurd (ddup_mem.mp h) h1
    · rename_i h
      rw [List.length_cons, List.length_cons]
      constructor
      · intro e
        exact ⟨fun z => h (ddup_mem.mpr z), ih.mp (by omega)⟩
      · rintro ⟨_, h2⟩
        have := ih.mpr h2
        omega
end
end G
end S_GSrt
section S_GSort
set_option linter.all false
set_option maxRecDepth 100000
set_option maxHeartbeats 3200000
/-! GSort: sorted, len(set(..)), sorted(set(..)). -/
namespace G
open PySem PySem.Spec PyProof.Rows L2

/-! ### sorted -/
/-- a pair's numbers, read from the heap -/
def keyH (h : Heap) : Value → Int × Int
  | .ref a => match h.get? a with
    | some o => match o.data with
      | .seq its _ => match its.toList with
        | [.int x _, .int y _] => (x, y)
        | _ => (0, 0)
      | _ => (0, 0)
    | none => (0, 0)
  | _ => (0, 0)
theorem keyH_pair {h : Heap} {v : Value} {x y : Int} (p : Srt.IsPair h v x y) : keyH h v = (x, y) := by
  obtain ⟨a, o, t, u, n, rfl, e, _, d⟩ := p
  unfold keyH
  simp only [e, d]
theorem pairs_get : ∀ {ds : List D} {ps : List (Int × Int)}, asPairs ds = some ps → ds = ps.map fun p => .tup [.int p.1, .int p.2]
  | [], ps, h => by
    cases h
    rfl
  | d :: r, ps, h => by
    unfold asPairs at h
    split at h
    · rename_i heq
      cases heq
    · rename_i i j r' heq
      cases heq
      cases e : asPairs r with
      | none => rw [e] at h; cases h
      | some t =>
        rw [e] at h
        cases h
        rw [List.map_cons, ← pairs_get e]
    · cases h
section
variable {X : L2.Cx} {pins : List (Addr × Obj)} {s : Shared} {σ : L2.St} {H F : Hp} {r : List Addr} {S : List Cell}
/-- pairs, as they lie -/
theorem pairs_lie (I : Inv X pins σ H s) (R : Rel X.K F H r S) : ∀ {ps : List (Int × Int)} {xs : List V} {us : List Value}, RpL X.K F r xs (ps.map fun p => .tup [.int p.1, .int p.2]) → Vals xs us →
    us.map (keyH s.heap) = ps ∧ ∀ u ∈ us, Srt.IsPair s.heap u (keyH s.heap u).1 (keyH s.heap u).2 ∧ ∃ a, u = .ref a ∧ Rp X.K F r (.ref a) (.tup [.int (keyH s.heap u).1, .int (keyH s.heap u).2])
  | [], _, _, .nil, .nil => ⟨rfl, fun u hu => nomatch hu⟩
  | p :: ps, x :: xs, u :: us, .cons h1 _ t, .cons r1 rt => by
    obtain ⟨q1, q2⟩ := pairs_lie I R t rt
    cases h1 with
    | @tup a vs _ hq ht =>
      cases (show u = Value.ref a from r1)
      obtain ⟨its, rv, ⟨o, ho, hc, n, hd⟩, hz⟩ := I.tuple (R.sqt hq)
      cases ht with
      | cons g1 _ ht =>
        cases ht with
        | cons g2 _ ht =>
          cases ht
          cases Rp.toInt g1
          cases Rp.toInt g2
          obtain ⟨u1, u2, rfl, ri, rj⟩ := vals2 rv
          obtain ⟨t1, rfl⟩ := ri
          obtain ⟨t2, rfl⟩ := rj
          have ip : Srt.IsPair s.heap (.ref a) p.1 p.2 := ⟨a, o, t1, t2, n, rfl, ho, hc, hd⟩
          have ek := keyH_pair ip
          refine ⟨by rw [List.map_cons, ek, q1], fun u hu => ?_⟩
          rcases List.mem_cons.mp hu with rfl | hu
          · rw [ek]
            exact ⟨ip, a, rfl, .tup hq (.cons g1 rfl (.cons g2 rfl .nil))⟩
          · exact q2 u hu
theorem leP_lex {a b : Int × Int} : SrtO.lexB b a = false ↔ leP a b = true := by
  rw [leP_iff, ← Bool.not_eq_true, SrtO.lexB_iff]
  omega
theorem back_list {K : Fg} (k : Value → Int × Int) : ∀ {us : List Value}, (∀ u ∈ us, ∃ a, u = .ref a ∧ Rp K F r (.ref a) (.tup [.int (k u).1, .int (k u).2])) → ∃ xs, Vals xs us ∧ RpL K F r xs ((us.map k).map fun p => .tup [.int p.1, .int p.2])
  | [], _ => ⟨[], .nil, .nil⟩
  | u :: us, h => by
    obtain ⟨xs, h1, h2⟩ := back_list k fun v hv => h v (List.mem_cons_of_mem _ hv)
    obtain ⟨a, rfl, ha⟩ := h u List.mem_cons_self
    exact ⟨.ref a :: xs, .cons rfl h1, .cons ha rfl h2⟩
theorem snd_sorted : CallR X (.builtin "sorted") (rBX X.K (pB .sorted)) := by
  intro pins s σ H xs us Q I rx h
  obtain ⟨F, r, S, ds, d, R, ra, e, q⟩ := h
  cases ra with
  | nil => cases e
  | @cons v d0 vs ds0 h1 t =>
    cases t with
    | cons _ _ => cases d0 <;> cases e
    | nil =>
      cases d0 with
      | lst ds =>
        obtain ⟨a, ys, rfl, hs, tx⟩ := h1.lst R
        have e : (if ds.length ≤ lim then match asPairs ds with
          | some ps => some (.lst ((srtP ps).map fun p => .tup [.int p.1, .int p.2]))
          | none => (asInts ds).map fun ns => .lst ((srtI ns).map .int)
          else none) = some d := e
        by_cases hl : ds.length ≤ lim
        · rw [if_pos hl] at e
          cases hp : asPairs ds with
          | some ps =>
            rw [hp] at e
            cases e
            have ed := pairs_get hp
            subst ed
            obtain ⟨its, rv, il, hz⟩ := I.list hs
            rw [Vals.ref1 rx]
            obtain ⟨k1, k2⟩ := pairs_lie I R tx rv
            refine SrtO.sorted_pairsO (k := keyH s.heap) il.isList (by rw [← rv.length]; exact hz) (fun v hv => (k2 v hv).1) fun h' p out h1 h2 kp hd hn => ?_
            obtain ⟨n, hn⟩ := hn
            obtain ⟨zs, z1, z2⟩ := back_list (F := F) (r := r) (K := X.K) (keyH s.heap) (us := out) fun u hu => (k2 u (h2.perm.mem_iff.mp hu)).2
            have eo : out.map (keyH s.heap) = srtP ps := by
              rw [← k1]
              refine srtB_uniq ordP (h2.perm.map _) (List.pairwise_map.mpr (h1.imp fun {a b} hab => leP_lex.mp hab))
            rw [eo] at z2
            have hn0 : H p = none := I.hok.fresh hd
            refine ⟨.ref p, upd H p (.lst zs), I.laid (t' := s.toks) kp hd ⟨?_, out, n, z1, hn⟩, rfl, q p zs z2 hn0⟩
            rw [z1.length, h2.perm.length_eq, ← rv.length]
            exact hz
          | none =>
            rw [hp] at e
            cases hi : asInts ds with
            | none => rw [hi] at e; cases e
            | some ns =>
              rw [hi] at e
              cases e
              obtain ⟨ey, _⟩ := tx.ints hi
              subst ey
              refine cr_sortedI pins s σ H _ us Q I rx ⟨a, ns, rfl, hs, fun ns' p pm so hp => ?_⟩
              have eo : ns' = srtI ns := srtB_uniq ordI pm (so.imp fun {a b} hab => by simpa [leI] using hab)
              rw [eo]
              exact q p _ (RpL.of_ints _) hp
        · rw [if_neg hl] at e
          cases e
      | _ => cases e
end

/-! ### of a set -/
/-- a built-in function of set(e) -/
theorem pe_ofSet {X : L2.Cx} {nm : Str} {id : String} {xa : Expr} {te : TE} {rr : V → Hp → VK → Prop} {p p2 q pos : Pos} (hg : Gl X nm) (hm : X.mg nm = none) (hv : bootBuiltins nm = some (.builtin id)) (hn : nm ≠ "__name__") (hdb : (nm == ("__debug__" : Str)) = false) (hg2 : Gl X "set") (hm2 : X.mg "set" = none) (ns : noStar xa = true) (ha : PE X xa te)
    (core : ∀ pins s σ H x u Q, Inv X pins σ H s → RelV x u → rr x H Q → wpAny (model X.prog X.w) X.A (call (.type "set") [u]) (fun v t => wpAny (model X.prog X.w) X.A (call (.builtin id) [v]) (EP X pins σ Q) X.xe t) X.xe s) :
    PE X (.Call (.Name nm p) [.Call (.Name "set" p2) [xa] [] q] [] pos) (fun σ H Q => te σ H fun x H1 => rr x H1 Q) := by
  constructor
  intro pins s σ H Q I h
  apply Call_ (ld_blt I hg hm hv ?_ hn hdb)
  apply PyProof.Rows.callWith_builtin1 (PyProof.Rows.args_cons ?_ rfl) rfl rfl
  apply Call_ (ld_blt I hg2 hm2 boot_set ?_)
  apply PyProof.Rows.callWith_type1 (PyProof.Rows.args_cons (thn (ha.run pins s σ H _ I h) ?_) (star_cons ns)) (star_cons ns) rfl
  rintro u s1 ⟨x, H1, I1, r1, q1⟩
  apply PyProof.Rows.args_nil
  exact thn (core pins s1 σ H1 x u Q I1 r1 q1) fun v t hh => PyProof.Rows.args_nil hh

section
variable {P : Program} {w : World} {A : Around} {E : Value → Shared → Prop} {s : Shared}
theorem lit_is {h : Heap} {l : Addr} : (h.push (lit l)).IsListIter h.objs.size l 0 := ⟨_, Heap.get?_push_size _ rfl, rfl, rfl⟩
/-- set(l), ints -/
theorem set_ints {l : Addr} {items : Array Value} {ns : List Int} {Q : Value → Shared → Prop} (hh : A.handled = none) (hl : s.heap.IsList l items) (hi : IntsAre items.toList ns) (hb : ns.length + 1 < scanBound)
    (fin : ∀ (h' : Heap) (tk c : Nat), SetR w h' s.heap.objs.size (fun j => decide (j ∈ ns)) c → (∀ b o, s.heap.get? b = some o → h'.get? b = some o) → Q (.ref s.heap.objs.size) { s with heap := h', toks := tk }) : wpAny (model P w) A (call (.type "set") [.ref l]) Q E s := by
  have len : items.size = ns.length := by
    have := IntsAre.length hi
    rw [Array.length_toList] at this
    exact this
  refine set_skel (Post := fun h' => ∃ c, SetR w h' s.heap.objs.size (fun j => decide (j ∈ ns)) c) hh hl (fun B R hB ne done => ?_) fun h' tk ⟨c, post⟩ keep => fin h' tk c post keep
  have sz : (s.heap.push (fso w)).objs.size = s.heap.objs.size + 1 := Heap.size_push ..
  obtain ⟨ol, got, _⟩ := id hl
  have below : l < s.heap.objs.size := Heap.lt_size got
  have vals : ∀ (i : Nat) (v : Value), items[i]? = some v → ∃ k t, ns[i]? = some k ∧ v = .int k t := by
    intro i v hv
    have lt : i < ns.length := by rw [← len]; exact (Array.getElem?_eq_some_iff.mp hv).1
    obtain ⟨t, e⟩ := IntsAre.int_at hi i v (by rw [Array.getElem?_toList]; exact hv)
    refine ⟨ns[i], t, List.getElem?_eq_getElem lt, ?_⟩
    rw [e, List.getD_eq_getElem?_getD, List.getElem?_eq_getElem lt]
    rfl
  have hB1 : B.in1.handled = none := hB
  have here : ((s.heap.push (fso w)).push (lit l)).get? s.heap.objs.size = some (fso w) := Heap.get?_push_of_some _ (Heap.get?_push_size _ rfl)
  refine set_update_ints ((Walks.list hB1 _ l ne items).toS) s.heap.objs.size ?_ ns len hb vals (items.size - 0) 0 _ (by omega) (Nat.zero_le _) ⟨lit_is, (hl.push _).push _⟩ ⟨0, Nat.le_refl 0, setR_new_at here⟩ fun t c mv _ post => done t mv ⟨c, post⟩
  rw [sz]
  simp only [List.mem_cons, List.not_mem_nil, or_false, not_or]
  exact ⟨Nat.ne_of_lt (Nat.lt_succ_self _), Nat.ne_of_gt below⟩
theorem setR_len {a : Addr} {ns : List Int} {c : Nat} {Q : Value → Shared → Prop} (R : SetR w s.heap a (fun j => decide (j ∈ ns)) c) (h : Q (.int (ddup ns).length (s.toks + 1)) { s with toks := s.toks + 1 + 1 }) : wpAny (model P w) A (call (.builtin "len") [.ref a]) Q E s := by
  obtain ⟨o, es, ep, t, ho, hex, hd, g, nd, hm, hb, hf, hn, _, _⟩ := R
  have e : es.size = (ddup ns).length := by
    have p : (es.toList.map keyOf).Perm (ddup ns) := nodup_perm nd ddup_nodup fun k => by
      rw [ddup_mem, ← hm k, decide_eq_true_eq]
    have := p.length_eq
    rw [List.length_map, Array.length_toList] at this
    exact this
  refine call_len_set ho hex hd hf ?_ (by rw [e]; exact h)
  have : es.size < 4096 := hb
  omega
/-- sorted(a set of ints), any size -/
theorem setR_sorted {a : Addr} {T : Int → Bool} {n : Nat} {Q : Value → Shared → Prop} (R : SetR w s.heap a T n) (hh : A.handled = none)
    (fin : ∀ t p (out : Array Value) (c : Nat) (ns : List Int), (∀ b o, s.heap.get? b = some o → t.heap.get? b = some o) → t.gens = s.gens → t.os = s.os → s.heap.objs.size ≤ p → t.heap.get? p = some (seqObj "list" out c) →
      IntsAre out.toList ns → ns.Pairwise (· ≤ ·) → ns.Nodup → (∀ k, k ∈ ns ↔ T k = true) → ns.length ≤ sizeLine → Q (.ref p) t) : wpAny (model P w) A (call (.builtin "sorted") [.ref a]) Q E s := by
  obtain ⟨o, es, ep, t, ho, hex, hd, good, nd, mem, bd, ft, _, ri, ld⟩ := R
  apply Calls.call_function_entry kind_sorted plain_sorted entry_sorted (args_sorted1 _)
  unfold Builtin.«sorted»
  apply wpAny_bind (m := checkCount "sorted" 1 1 _)
  apply wpAny_pure
  apply wpAny_bind (collect_set (A := A.in1) hh ⟨o, ho, hex.1, hd⟩ ft bd ri ld ?_)
  intro s1 vs keep le1 g1 o1 pm
  have small : vs.length ≤ sizeLine := by
    rw [pm.length_eq, List.length_map, Array.length_toList, sizeLine_eq]
    have : es.size < 4096 := bd
    omega
  have allI : IntsAre vs (vs.map Builtin.Re.reRawOf) := by
    apply ints_of
    intro v hv
    obtain ⟨e, he, eq⟩ := List.mem_map.mp (pm.mem_iff.mp hv)
    obtain ⟨k, tk, h1, _⟩ := good e he
    exact ⟨k, tk, by rw [← eq]; exact h1⟩
  have keys : (vs.map Builtin.Re.reRawOf).Perm (es.toList.map keyOf) := by
    have := pm.map Builtin.Re.reRawOf
    rw [List.map_map] at this
    exact this
  apply wpAny_bind (wpAny_newList ?_ small)
  have new : (s1.heap.push (seqObj "list" vs.toArray 0)).get? s1.heap.objs.size = some (seqObj "list" vs.toArray 0) := Heap.get?_push_size _ rfl
  apply wpAny_bind
  apply wpAny_holding
  refine wpAny_call_entry slot_list_sort ⟨_, new, rfl⟩ entry_list_sort (SrtO.list_sort_ord SrtO.swo_int new small (fun two => SrtO.ints_sortable allI two) fun out h1 h2 => ⟨_, rfl, ?_⟩) (args_list_sort _)
  obtain ⟨k1, k2, k3⟩ := SrtO.ints_out allI h1 h2
  obtain ⟨c, hc⟩ := sortedHeap_at (vs := vs) (out := out.toArray) new
  have all := k2.trans keys
  apply wpAny_pure
  refine ⟨_, rfl, fin _ s1.heap.objs.size out.toArray c _ (fun b u e => ?_) g1 o1 le1 hc k1 k3 (all.nodup_iff.mpr nd) (fun k => by rw [all.mem_iff, ← mem k]) ?_⟩
  · have old := keep b u e
    have lt := Heap.lt_size old
    change (sortedHeap (s1.heap.push (seqObj "list" vs.toArray 0)) s1.heap.objs.size vs out.toArray).get? b = some u
    rw [sortedHeap_old (Nat.ne_of_lt lt) (by rw [size_push']; exact Nat.lt_succ_of_lt lt)]
    exact Heap.get?_push_of_some _ old
  · rw [k2.length_eq, List.length_map]
    exact small
end
section
variable {XR : XRel} {C : G.Cx} {X : L2.Cx} {W : L2.WX} {p p2 q pos : Pos} {a : E} {xa : Expr}
theorem ints_get : ∀ {ds : List D} {ns : List Int}, asInts ds = some ns → ds = ns.map D.int
  | [], ns, h => by
    cases h
    rfl
  | x :: r, ns, h => by
    cases x with
    | int i =>
      have h : (asInts r).map (i :: ·) = some ns := h
      cases e : asInts r with
      | none => rw [e] at h; cases h
      | some t =>
        rw [e] at h
        cases h
        rw [List.map_cons, ← ints_get e]
    | _ => cases h
theorem sortset_of {d d2 : D} (h : pB .sortset [d] = some d2) : ∃ ds ns, d = .lst ds ∧ asInts ds = some ns ∧ ns.length ≤ setLim ∧ d2 = .lst ((srtI (ddup ns)).map .int) := by
  cases d with
  | lst ds =>
    have h : (if ds.length ≤ setLim then (asInts ds).map fun ns => D.lst ((srtI (ddup ns)).map .int) else none) = some d2 := h
    by_cases hl : ds.length ≤ setLim
    · rw [if_pos hl] at h
      cases hi : asInts ds with
      | none => rw [hi] at h; cases h
      | some ns =>
        rw [hi] at h
        cases h
        refine ⟨ds, ns, rfl, hi, ?_, rfl⟩
        have := ints_get hi
        rw [this, List.length_map] at hl
        exact hl
    · rw [if_neg hl] at h
      cases h
  | _ => cases h
theorem new_ints {pins : List (Addr × Obj)} {s t : Shared} {σ : L2.St} {H : Hp} {Q : VK} {p : Addr} {out : Array Value} {c : Nat} {zs : List Int} (I : Inv X pins σ H s) (k : ∀ b o, s.heap.get? b = some o → t.heap.get? b = some o) (g : t.gens = s.gens) (o : t.os = s.os) (hp : s.heap.objs.size ≤ p)
    (hg : t.heap.get? p = some (seqObj "list" out c)) (hi : IntsAre out.toList zs) (hz : zs.length ≤ sizeLine) (q : H p = none → Q (.ref p) (upd H p (.lst (zs.map V.int)))) : EP X pins σ Q (.ref p) t := by
  have hn : H p = none := I.hok.fresh hp
  have J : Inv X pins σ (upd H p (.lst (zs.map V.int))) { s with heap := t.heap, gens := t.gens, drawn := t.drawn, toks := t.toks } :=
    I.call (ch := []) (Un.laid k hp hn) (I.hok.laid k hp ⟨by rw [List.length_map]; exact hz, out.toList, c, vals_of_ints hi, hg⟩) (by rw [g]; exact I.bare) fun _ z => nomatch z
  have et : t = { s with heap := t.heap, gens := t.gens, drawn := t.drawn, toks := t.toks } := by
    cases t
    cases s
    cases o
    rfl
  rw [et]
  exact ⟨.ref p, _, J, rfl, q hn⟩
theorem e_sortset (hc : X.calm = true) (hg : Gl X "sorted") (hm : X.mg "sorted" = none) (hg2 : Gl X "set") (hm2 : X.mg "set" = none) (ns : noStar xa = true) (ha : PE X xa (tE X.K XR W C a)) :
    PE X (.Call (.Name "sorted" p) [.Call (.Name "set" p2) [xa] [] q] [] pos) (tEX X.K XR W C (.blt .sortset [a])) := by
  refine pe_imp (pe_ofSet (rr := fun x H Q => ∃ F r S d d2, Rel X.K F H r S ∧ RpW X.K F H r x d ∧ pB .sortset [d] = some d2 ∧ ResX X.K F H r S d2 Q) hg hm boot_sorted (by decide) (by decide) hg2 hm2 ns ha ?_) fun σ H Q ⟨F, r, sl, S, R, so, h⟩ => ?_
  · intro pins s σ H x u Q I rx ⟨F, r, S, d, d2, R, hx, e, qq⟩
    obtain ⟨ds, ns, rfl, hi, hl, rfl⟩ := sortset_of e
    obtain ⟨l, ys, rfl, hs, tx⟩ := hx.lst R
    obtain ⟨rfl, _⟩ := tx.ints hi
    cases (show u = Value.ref l from rx)
    obtain ⟨its, rv, il, hz⟩ := I.list hs
    have hi2 := rv.ints
    refine set_ints (I.ok.hd hc) il.isList (by simpa using hi2) (by unfold scanBound; unfold setLim at hl; omega) fun h' tk c post keep => ?_
    have I2 : Inv X pins σ H { s with heap := h', toks := tk } := I.kept keep
    refine setR_sorted post (I.ok.hd hc) fun t p out c2 zs k g o hp hg hi hs nd hm hz => ?_
    have e : zs = srtI (ddup ns) := by
      refine srtB_uniq ordI (nodup_perm nd ddup_nodup fun k => ?_) (hs.imp fun {a b} hab => by simpa [leI] using hab)
      rw [hm k, ddup_mem, decide_eq_true_eq]
    subst e
    exact new_ints I2 k g o hp hg hi hz (fun hn => qq p _ (RpL.of_ints _) hn)
  · unfold evE evL evL at h
    have h : PostE X.K XR W F H r σ ((evE C a sl S).bind fun d S => Rs.of S (pB .sortset [dr S d])) fun d S' F' H' r' => FrX X.K H F' H' r' d Q := by
      generalize evE C a sl S = m at h ⊢
      cases m <;> exact h
    refine tE.one h R so fun x d F' H' r' S' ex R' rx h' => ?_
    obtain ⟨z, hz, qq⟩ := h'.of
    exact ⟨F', r', S', _, z, R', rx.b.dr R', hz, FrX.res ex R' qq⟩
end

/-! ### sets of texts -/
section
variable {P : Program} {w : World} {B : Around} {R : Result → Shared → Prop} {I : Addr} {fp wr : List Addr} {n : Nat} {Pv : Nat → Value → Prop} {St : Nat → Shared → Prop}
theorem upd_strs (W : WalksS P w B.in1 I fp wr (fun a b => b = a) n Pv St) (S : Addr) (out : S ∉ fp) (xs : List Str) (hn : n = xs.length) (hb : xs.length + 1 < scanBound) (vals : ∀ i v, Pv i v → ∃ x t, xs[i]? = some x ∧ v = .str x t) (m : Nat) : ∀ (i : Nat) (s : Shared), n - i = m → i ≤ n → St i s →
    s.heap.SetOf (PySem.strKind P w) S (fun y => decide (y ∈ xs.take i)) (ddup (xs.take i).reverse).length →
    (∀ t, Moved (S :: wr) (fun a b => b = a) s t → t.heap.SetOf (PySem.strKind P w) S (fun y => decide (y ∈ xs)) (ddup xs.reverse).length → R (.ok (.ret .none)) t) →
    codeAny (model P w) B (.builtin "set.update.loop" ⟨[.ref S, .ref I], []⟩) R s := by
  have nw : S ∉ wr := fun z => out (W.sub _ z)
  have up : ∀ c ∈ wr, c ∈ S :: wr := fun c z => List.mem_cons_of_mem _ z
  have stay : ∀ {t t' : Shared} {T : Str → Bool} {c : Nat}, Moved wr (fun a b => b = a) t t' → t.heap.SetOf (PySem.strKind P w) S T c → t'.heap.SetOf (PySem.strKind P w) S T c := by
    rintro t t' T c mv ⟨o, es, ep, tb, ho, rest⟩
    exact ⟨o, es, ep, tb, mv.heap S _ nw ho, rest⟩
  induction m with
  | zero =>
    intro i s h1 h2 st set done
    obtain rfl : i = n := by omega
    apply codeAny_builtin PyProof.Rows.F.entry_set_update_loop
    rw [Around.under_plainId PyProof.Rows.F.plain_set_update_loop _]
    change wpAny _ B.in1 (pyNext (.ref I) >>= _) _ _ s
    apply wpAny_bind
    apply W.done s _ _ st
    intro t mv
    change wpAny _ B.in1 (ret Value.none) _ _ t
    apply wpAny_pure
    rw [show xs.take i = xs from List.take_of_length_le (by omega)] at set
    exact done t (mv.mono up) (stay mv set)
  | succ m ih =>
    intro i s h1 h2 st set done
    have lt : i < n := by omega
    apply codeAny_builtin PyProof.Rows.F.entry_set_update_loop
    rw [Around.under_plainId PyProof.Rows.F.plain_set_update_loop _]
    change wpAny _ B.in1 (pyNext (.ref I) >>= _) _ _ s
    apply wpAny_bind
    apply W.item i s _ _ lt st
    intro v t pv st' mv
    obtain ⟨x, tk, hx, rfl⟩ := vals i v pv
    have set' := stay mv set
    change wpAny _ B.in1 (holding [Value.str x tk] (setAdd S (.str x tk)) >>= _) _ _ t
    apply wpAny_bind
    apply wpAny_holding
    unfold setAdd
    apply wpAny_holding
    apply wpAny_bind
    refine (PySem.strKind P w).pyHash (k := x) (strKind_is _ _ _ _) ?_
    have room : (ddup (xs.take i).reverse).length + 1 < scanBound := by
      have := ddup_le (xs.take i).reverse
      rw [List.length_reverse, List.length_take] at this
      omega
    refine wpAny_setAddHashed_of (knd := PySem.strKind P w) (s := { t with toks := t.toks + 1 }) (strKind_is _ _ _ _) rfl set' room fun h' same set2 => ?_
    have tk1 : xs.take (i + 1) = xs.take i ++ [x] := by
      rw [List.take_add_one, hx]
      rfl
    have set3 : h'.SetOf (PySem.strKind P w) S (fun y => decide (y ∈ xs.take (i + 1))) (ddup (xs.take (i + 1)).reverse).length := by
      refine PyProof.Rows.SetOf_congr set2 (fun y => ?_) ?_
      · rw [tk1]
        simp [List.mem_append]
      · rw [tk1, List.reverse_append]
        show _ = (ddup (x :: (xs.take i).reverse)).length
        rw [ddup_cons]
        by_cases hm : x ∈ xs.take i
        · rw [if_pos (decide_eq_true hm), if_pos (List.mem_reverse.mpr hm)]
        · rw [if_neg (by simpa using hm), if_neg fun z => hm (List.mem_reverse.mp z)]
    have fp' : ∀ c ∈ fp, ∀ o, t.heap.get? c = some o → h'.get? c = some o := fun c hc o e => by
      rw [same.2 c fun z => out (by rw [← z]; exact hc)]
      exact e
    refine wpAny_pure ⟨plainId_quiet PyProof.Rows.F.plain_set_update_loop _, ih (i + 1) _ (by omega) lt (W.frame _ t _ _ st' (Nat.le_succ _) fp') set3 fun t2 mv2 set4 => done t2 ?_ set4⟩
    refine Moved.trans W.gtrans ((mv.mono up).then_heap (Nat.le_succ _) fun c o hc e => ?_) mv2
    rw [same.2 c fun z => hc (by rw [z]; exact List.mem_cons_self)]
    exact e
end
section
variable {P : Program} {w : World} {A : Around} {E : Value → Shared → Prop} {s : Shared}
theorem strs_at' : ∀ {us : List Value} {xs : List Str}, StrsAre us xs → ∀ (i : Nat) (v : Value), us[i]? = some v → ∃ x t, xs[i]? = some x ∧ v = .str x t
  | _, _, .nil, i, v, h => by simp at h
  | _, _, .cons x t _, 0, v, h => ⟨x, t, rfl, by simpa using h.symm⟩
  | _, _, .cons x t r, i + 1, v, h => by
    obtain ⟨y, k, e1, e2⟩ := strs_at' r i v (by simpa using h)
    exact ⟨y, k, by simpa using e1, e2⟩
/-- len(set(l)), texts -/
theorem lenset_strs {l : Addr} {items : Array Value} {xs : List Str} {Q : Value → Shared → Prop} (hh : A.handled = none) (hl : s.heap.IsList l items) (hi : StrsAre items.toList xs) (len : items.size = xs.length) (hb : xs.length + 1 < scanBound)
    (fin : ∀ (h' : Heap) (tk tk2 : Nat), (∀ b o, s.heap.get? b = some o → h'.get? b = some o) → Q (.int (ddup xs.reverse).length tk2) { s with heap := h', toks := tk }) :
    wpAny (model P w) A (call (.type "set") [.ref l]) (fun v t => wpAny (model P w) A (call (.builtin "len") [v]) Q E t) E s := by
  refine set_skel (Post := fun h' => h'.SetOf (PySem.strKind P w) s.heap.objs.size (fun y => decide (y ∈ xs)) (ddup xs.reverse).length) hh hl (fun B R hB ne done => ?_) fun h' tk post keep => ?_
  · have sz : (s.heap.push (fso w)).objs.size = s.heap.objs.size + 1 := Heap.size_push ..
    obtain ⟨ol, got, _⟩ := id hl
    have below : l < s.heap.objs.size := Heap.lt_size got
    have hB1 : B.in1.handled = none := hB
    have here : ((s.heap.push (fso w)).push (lit l)).get? s.heap.objs.size = some (fso w) := Heap.get?_push_of_some _ (Heap.get?_push_size _ rfl)
    have vals : ∀ (i : Nat) (v : Value), items[i]? = some v → ∃ x t, xs[i]? = some x ∧ v = .str x t := fun i v hv => strs_at' hi i v (by rw [Array.getElem?_toList]; exact hv)
    refine upd_strs ((Walks.list hB1 _ l ne items).toS) s.heap.objs.size ?_ xs len hb vals (items.size - 0) 0 _ (by omega) (Nat.zero_le _) ⟨lit_is, (hl.push _).push _⟩ ?_ fun t mv post => done t mv post
    · rw [sz]
      simp only [List.mem_cons, List.not_mem_nil, or_false, not_or]
      exact ⟨Nat.ne_of_lt (Nat.lt_succ_self _), Nat.ne_of_gt below⟩
    · refine PyProof.Rows.SetOf_congr ((PyProof.Rows.setObjOf_fresh (knd := PySem.strKind P w) _).setOf here (by unfold scanBound; omega)) (fun y => by simp) rfl
  · obtain ⟨o, es, ep, t, ho, hex, hd, _, _, _, hf, hn⟩ := post
    refine call_len_set ho hex hd hf ?_ (by rw [hn]; exact fin h' _ _ keep)
    have := ddup_le xs.reverse
    rw [List.length_reverse] at this
    have : xs.length + 1 < 4096 := hb
    omega
end
section
variable {XR : XRel} {C : G.Cx} {X : L2.Cx} {W : L2.WX} {p p2 q pos : Pos} {a : E} {xa : Expr}
theorem lenset_of {d d2 : D} (h : pB .lenset [d] = some d2) : ∃ ds, d = .lst ds ∧ ds.length ≤ setLim ∧ ((∃ ss, asStrs ds = some ss ∧ d2 = .int (ddup ss).length) ∨ ∃ ns, asInts ds = some ns ∧ d2 = .int (ddup ns).length) := by
  cases d with
  | lst ds =>
    have h : (if ds.length ≤ setLim then match asStrs ds with
      | some ss => some (D.int (ddup ss).length)
      | none => (asInts ds).map fun ns => .int (ddup ns).length
      else none) = some d2 := h
    by_cases hl : ds.length ≤ setLim
    · rw [if_pos hl] at h
      refine ⟨ds, rfl, hl, ?_⟩
      cases hs : asStrs ds with
      | some ss =>
        rw [hs] at h
        cases h
        exact .inl ⟨ss, rfl, rfl⟩
      | none =>
        rw [hs] at h
        cases hi : asInts ds with
        | none => rw [hi] at h; cases h
        | some ns =>
          rw [hi] at h
          cases h
          exact .inr ⟨ns, rfl, rfl⟩
    · rw [if_neg hl] at h
      cases h
  | _ => cases h
theorem ddup_map {ss : List (List Nat)} : (ddup (ss.map toS)).length = (ddup ss).length := by
  induction ss with
  | nil => rfl
  | cons x r ih =>
    have mm : toS x ∈ ddup (r.map toS) ↔ x ∈ ddup r := by
      rw [ddup_mem, ddup_mem, List.mem_map]
      constructor
      · rintro ⟨y, hy, e⟩
        rw [← toS_inj e]
        exact hy
      · exact fun h => ⟨x, h, rfl⟩
    rw [List.map_cons, ddup_cons, ddup_cons, ih]
    by_cases h : x ∈ r
    · rw [if_pos h, if_pos (ddup_mem.mp (mm.mpr (ddup_mem.mpr h)))]
    · rw [if_neg h, if_neg fun z => h (ddup_mem.mp (mm.mp (ddup_mem.mpr z)))]
theorem e_lenset (hc : X.calm = true) (hg : Gl X "len") (hm : X.mg "len" = none) (hg2 : Gl X "set") (hm2 : X.mg "set" = none) (ns : noStar xa = true) (ha : PE X xa (tE X.K XR W C a)) :
    PE X (.Call (.Name "len" p) [.Call (.Name "set" p2) [xa] [] q] [] pos) (tE X.K XR W C (.blt .lenset [a])) := by
  refine pe_imp (pe_ofSet (rr := fun x H Q => ∃ F r S d d2, Rel X.K F H r S ∧ RpW X.K F H r x d ∧ pB .lenset [d] = some d2 ∧ Res X.K F H r S d2 Q) hg hm boot_len (by decide) (by decide) hg2 hm2 ns ha ?_) fun σ H Q ⟨F, r, sl, S, R, so, h⟩ => ?_
  · intro pins s σ H x u Q I rx ⟨F, r, S, d, d2, R, hx, e, qq⟩
    obtain ⟨ds, rfl, hl, e⟩ := lenset_of e
    obtain ⟨l, ys, rfl, hs, tx⟩ := hx.lst R
    cases (show u = Value.ref l from rx)
    have hlen : ys.length ≤ setLim := by rw [tx.len]; exact hl
    obtain ⟨its, rv, il, hz⟩ := I.list hs
    rcases e with ⟨ss, hi, rfl⟩ | ⟨ns, hi, rfl⟩
    · have ey : ys = (ss.map toS).map V.str := by
        rw [List.map_map]
        exact tx.strs hi
      subst ey
      rw [List.length_map] at hlen
      refine lenset_strs (xs := ss.map toS) (I.ok.hd hc) il.isList (by simpa using strsAre_of rv) ?_ (by unfold scanBound; unfold setLim at hlen; omega) fun h' tk tk2 keep => ?_
      · rw [List.size_toArray, ← rv.length, List.length_map]
      · have I2 : Inv X pins σ H { s with heap := h', toks := tk } := I.kept keep
        rw [ddup_len_rev, ddup_map]
        exact ⟨.int _, H, I2, ⟨_, rfl⟩, qq.now R (.int _)⟩
    · obtain ⟨rfl, _⟩ := tx.ints hi
      rw [List.length_map] at hlen
      have hi2 := rv.ints
      refine set_ints (I.ok.hd hc) il.isList (by simpa using hi2) (by unfold scanBound; unfold setLim at hlen; omega) fun h' tk c post keep => ?_
      have I2 : Inv X pins σ H { s with heap := h', toks := tk } := I.kept keep
      exact setR_len post ⟨.int _, H, I2.tok _, ⟨_, rfl⟩, qq.now R (.int _)⟩
  · unfold evE evL evL at h
    have h : PostE X.K XR W F H r σ ((evE C a sl S).bind fun d S => Rs.of S (pB .lenset [dr S d])) fun d S' F' H' r' => ∀ v, Rp X.K F' r' v d → Q v H' := by
      generalize evE C a sl S = m at h ⊢
      cases m <;> exact h
    refine tE.one h R so fun x d F' H' r' S' ex R' rx h' => ?_
    obtain ⟨z, hz, qq⟩ := h'.of
    exact ⟨F', r', S', _, z, R', rx.b.dr R', hz, fun v F2 H2 r2 e2 R2 hv => qq F2 H2 r2 e2 R2 v hv⟩
end
/-! ### repr -/
mutual
theorem py_nodict : ∀ d : D, d.py.hasDict = false
  | .non => rfl
  | .bl _ => rfl
  | .int _ => rfl
  | .str _ => rfl
  | .tup xs => pyL_nodict xs
  | .lst xs => pyL_nodict xs
  | .loc _ => rfl
  | .exc _ _ => rfl
theorem pyL_nodict : ∀ xs : List D, PyData.hasDictAll (D.pyL xs) = false
  | [] => rfl
  | x :: xs => by
    show (x.py.hasDict || PyData.hasDictAll (D.pyL xs)) = false
    rw [py_nodict x, pyL_nodict xs]
    rfl
end
theorem rp_text {K : Fg} {F : Hp} {r : List Addr} {x : Str} (h : x.length ≤ lim) : Rp K F r (.str x) (.str x.cps.toList) := by
  have e : x = ⟨x.cps.toList.toArray⟩ := by
    cases x
    simp
  have h2 : Rp K F r (.str ⟨x.cps.toList.toArray⟩) (.str x.cps.toList) := .str _ (by rw [Array.length_toList]; exact h)
  rw [← e] at h2
  exact h2
theorem snd_repr {X : L2.Cx} (hg : X.A.guards = some []) (hu : X.A.units + 200 < cLine) : CallR X (.builtin "repr") (rB X.K (pB .repr)) := by
  intro pins s σ H xs us Q I rx h
  obtain ⟨F, r, S, ds, d, R, ra, e, q⟩ := h
  cases ra with
  | nil => cases e
  | @cons v d0 vs ds0 h1 t =>
    cases t with
    | cons _ _ => cases e
    | nil =>
      have e : (if (d0.pur && d0.py.showable && decide (d0.dep ≤ 60) && decide (d0.py.shown.length ≤ lim)) = true then some (D.str d0.py.shown.cps.toList) else none) = some d := e
      by_cases hc : (d0.pur && d0.py.showable && decide (d0.dep ≤ 60) && decide (d0.py.shown.length ≤ lim)) = true
      · rw [if_pos hc] at e
        cases e
        simp only [Bool.and_eq_true, decide_eq_true_eq] at hc
        obtain ⟨⟨⟨hp, hs⟩, hd⟩, hl⟩ := hc
        have hl2 : d0.py.shown.length ≤ sizeLine := by
          rw [← lim_eq]
          exact hl
        have fin : ∀ (h' : Heap) (u tk : Nat), (∀ b o, s.heap.get? b = some o → h'.get? b = some o) → EP X pins σ Q (.str d0.py.shown u) { s with heap := h', toks := tk } := fun h' u tk hk =>
          ⟨.str d0.py.shown, H, I.kept hk, ⟨u, rfl⟩, q.now R (rp_text hl)⟩
        obtain ⟨u0, rfl, r0⟩ := rx.one
        have big : ∀ a, u0 = .ref a → wpAny (model X.prog X.w) X.A (call (.builtin "repr") [u0]) (EP X pins σ Q) X.xe s := fun a ea => by
          subst ea
          obtain ⟨as, rd⟩ := Dp.reads I d0.py v _ (h1.dp R hp) r0
          refine repr_of_reads' rd hs (PyData.noDict_hsm (py_nodict d0)) hg ?_ (fun _ _ z => z) (fun h' u tk hk => fin h' u tk hk) hl2
          rw [py_depth]
          omega
        cases d0 with
        | non =>
          cases h1.non
          cases (show u0 = Value.none from r0)
          exact PySem.P.repr_of_none (fin s.heap _ _ fun _ _ z => z)
        | bl b =>
          cases h1.bl
          cases (show u0 = Value.bool b from r0)
          refine PySem.P.repr_of_bool ?_
          have := fin s.heap s.toks (s.toks + 1) fun _ _ z => z
          cases b <;> exact this
        | int i =>
          cases h1.int
          obtain ⟨t, rfl⟩ := (show ∃ t, u0 = Value.int i t from r0)
          exact PySem.P.repr_of_int (by simpa [PyData.showable, D.py] using hs) (fin s.heap _ _ fun _ _ z => z)
        | str x =>
          obtain ⟨rfl, _⟩ := h1.str
          obtain ⟨t, rfl⟩ := (show ∃ t, u0 = Value.str _ t from r0)
          exact PySem.P.repr_of_str (fin s.heap _ _ fun _ _ z => z) hl2
        | tup ys =>
          obtain ⟨a, ws, rfl, _⟩ := h1.tup R
          exact big a r0
        | lst ys =>
          obtain ⟨a, ws, rfl, _⟩ := h1.lst R
          exact big a r0
        | loc _ => cases hp
        | exc _ _ => cases hp
      · rw [if_neg hc] at e
        cases e
end G
end S_GSort
section S_GSnd8
set_option linter.all false
set_option maxRecDepth 100000
set_option maxHeartbeats 1000000
/-! GSnd8: the checker and its soundness (expressions). -/
namespace G
open PySem PySem.Spec PyProof.Rows L2

inductive Gk where | fn (i : Nat) | con (i : Nat) | blt
  deriving DecidableEq
structure Ck where
  N : List Str
  sc : Scope
  fn : Str → Bool
  tab : List (Str × Gk)
def Ck.slot (c : Ck) (i : Nat) (x : Str) : Bool := decide (c.N[i]? = some x) && (match c.sc.names.lookup x with | some .local => true | some .cell => true | some .free => true | _ => false)
def Ck.put (c : Ck) (i : Nat) (x : Str) : Bool := decide (c.N[i]? = some x) && (match c.sc.names.lookup x with | some .local => true | some .cell => c.fn x | _ => false)
def Ck.gl (c : Ck) (x : Str) (k : Gk) : Bool := decide (c.sc.names.lookup x = some .globalImplicit) && decide (c.tab.lookup x = some k)
def relS (scope sc : Scope) : Scope := { scope with names := scope.names.map fun (n, k) => if (k == .free && sc.kind == .function && sc.names.lookup n == some .cell) then (n, .cell) else (n, k) }
def Ck.blk (c : Ck) (scope : Scope) : Ck := { c with sc := relS scope c.sc, fn := fun x => scope.names.lookup x == some .cell }
def ownOf (N : List Str) (tg : Tg) : List (Str × Nat) := (tgs tg).map fun i => ((N[i]?).getD "", i)
def recvPlain : Expr → Bool
  | .Call (.Name ..) [] [] _ => false
  | _ => true
theorem recv_base {o : Expr} {attr : Str} {env : Env} {whole : Sem Value} (h : recvPlain o = true) : attributeBase o attr env whole = whole := by
  unfold recvPlain at h
  split at h
  · cases h
  · rename_i hn
    cases o with
    | Call f args kw pos =>
      cases f with
      | Name id p2 =>
        cases args with
        | nil =>
          cases kw with
          | nil => exact absurd rfl (hn _ _ _)
          | cons _ _ => rfl
        | cons _ _ => rfl
      | _ => rfl
    | _ => rfl
/-- simple built-in functions, their names -/
def bName : Bf → Option Str
  | .len => some "len" | .int => some "int" | .list => some "list" | .tuple => some "tuple" | .all => some "all" | .any => some "any"
  | .sum => some "sum" | .max2 => some "max" | .min2 => some "min" | .abs => some "abs" | .sorted => some "sorted" | .repr => some "repr" | _ => none
mutual
def chkTg (c : Ck) : Tg → Expr → Bool
  | .s i, x => match x with
    | .Name n _ => c.put i n
    | _ => false
  | .t ts, x => match x with
    | .Tuple xs _ _ => chkTgs c ts xs
    | _ => false
def chkTgs (c : Ck) : List Tg → List Expr → Bool
  | [], [] => true
  | t :: ts, x :: xs => noStar x && chkTg c t x && chkTgs c ts xs
  | _, _ => false
end
mutual
def chkE (c : Ck) : E → Expr → Bool
  | .k d, x => match x with
    | .Constant k _ _ => kOk d k
    | _ => false
  | .v i, x => match x with
    | .Name n _ => c.slot i n
    | _ => false
  | .b i, x => match x with
    | .Name n _ => c.slot i n
    | _ => false
  | .g i, x => match x with
    | .Name n _ => c.gl n (.con i)
    | _ => false
  | .tup es, x => match x with
    | .Tuple xs _ _ => decide (xs.length ≤ 1000) && chkL c false es xs
    | _ => false
  | .lst es, x => match x with
    | .List xs _ => decide (xs.length ≤ 1000) && chkL c false es xs
    | _ => false
  | .mk es, x => match x with
    | .List xs _ => decide (xs.length ≤ 1000) && chkL c false es xs
    | _ => false
  | .bin o a b, x => match x with
    | .BinOp l o' r _ => decide (o' = opM o) && chkE c a l && chkE c b r
    | _ => false
  | .neg a, x => match x with
    | .UnaryOp .USub l _ => !a.isB && chkE c a l
    | _ => false
  | .cmp o a b, x => match x with
    | .Compare l [o'] [r] _ => decide (o' = cmM o) && !isSetX r && chkE c a l && chkE c b r
    | _ => false
  | .chn o o2 a b d, x => match x with
    | .Compare l [o', o2'] [r, s] _ => decide (o' = cmM o) && decide (o2' = cmM o2) && !isSetX s && chkE c a l && chkE c b r && chkE c d s
    | _ => false
  | .and es, x => match x with
    | .BoolOp .And xs _ => !xs.isEmpty && chkL c false es xs
    | _ => false
  | .or es, x => match x with
    | .BoolOp .Or xs _ => !xs.isEmpty && chkL c false es xs
    | _ => false
  | .not t, x => match x with
    | .UnaryOp .Not l _ => chkN c t l
    | _ => false
  | .ite t a b, x => match x with
    | .IfExp l m r _ => !a.isB && !b.isB && chkT c t l && chkE c a m && chkE c b r
    | _ => false
  | .ix a b, x => match x with
    | .Subscript l r _ => !b.isB && !isSliceX r && chkE c a l && chkE c b r
    | _ => false
  | .sl a lo hi, x => match x with
    | .Subscript l (.Slice xl xh none _) _ => chkE c a l && chkO c lo xl && chkO c hi xh
    | _ => false
  | .cal f es, x => match x with
    | .Call (.Name n _) xs [] _ => c.gl n (.fn f) && xs.all noStar && chkL c false es xs
    | _ => false
  | .ixc f e, x => match x with
    | .Call (.Attribute (.Call (.Name n _) [] [] _) at_ ap) [y] [] cp => c.gl n (.fn f) && decide (at_ = idxS) && noStar y && (ap.endLine == cp.line) && !e.isB && chkE c e y
    | _ => false
  | .blt b es, x => match x with
    | .Call (.Name n _) xs [] _ => match b with
      | .isa t => (match xs with
        | [y, .Name m _] => decide (n = "isinstance") && c.gl n .blt && decide (m = ((tyN t : String) : Str)) && c.gl m .blt && chkL c false es [y]
        | _ => false)
      | .lenset => (match xs with
        | [.Call (.Name m _) [y] [] _] => decide (n = "len") && c.gl n .blt && decide (m = "set") && c.gl m .blt && chkL c true es [y]
        | _ => false)
      | .sortset => (match xs with
        | [.Call (.Name m _) [y] [] _] => decide (n = "sorted") && c.gl n .blt && decide (m = "set") && c.gl m .blt && chkL c true es [y]
        | _ => false)
      | b => (match bName b with
        | some nm => decide (n = nm) && c.gl n .blt && !xs.isEmpty && xs.all noStar && chkL c true es xs
        | none => false)
    | _ => false
  | .mth m o es, x => match x with
    | .Call (.Attribute l at_ ap) xs [] cp => match m with
      | .index => (match xs with
        | [y] => decide (at_ = idxS) && noStar y && (ap.endLine == cp.line) && recvPlain l && chkE c o l && chkL c false es [y]
        | _ => false)
      | _ => false
    | _ => false
  | .comp tg it elt cond, x => match x with
    | .ListComp e [⟨t, i, ifs, 0⟩] sc _ => blkC c.N c.sc sc (ownOf c.N tg) && chkTg (c.blk sc) tg t && !isSetX i && chkI c true it i && !elt.isB && chkE (c.blk sc) elt e && chkCs (c.blk sc) cond ifs
    | _ => false
def chkT (c : Ck) : B → Expr → Bool
  | .tr e, x => (plainT x || (match x with | .Compare .. => true | _ => false)) && chkE c e x
  | .and bs, x => match x with
    | .BoolOp .And xs _ => !xs.isEmpty && chkTs c bs xs
    | _ => false
  | .or bs, x => match x with
    | .BoolOp .Or xs _ => !xs.isEmpty && chkTs c bs xs
    | _ => false
  | .not b, x => match x with
    | .UnaryOp .Not l _ => chkT c b l
    | _ => false
/-- under a not that is a value -/
def chkN (c : Ck) : B → Expr → Bool
  | .tr e, x => chkE c e x
  | _, _ => false
def chkTs (c : Ck) : List B → List Expr → Bool
  | [], [] => true
  | b :: bs, x :: xs => chkT c b x && chkTs c bs xs
  | _, _ => false
def chkCs (c : Ck) : List B → List Expr → Bool
  | [], [] => true
  | b :: bs, [x] => bs.isEmpty && chkT c b x
  | _, _ => false
def chkL (c : Ck) (w : Bool) : List E → List Expr → Bool
  | [], [] => true
  | e :: es, x :: xs => (w || !e.isB) && noStar x && chkE c e x && chkL c w es xs
  | _, _ => false
def chkO (c : Ck) : Option E → Option Expr → Bool
  | none, none => true
  | some e, some x => !e.isB && chkE c e x
  | _, _ => false
def chkI (c : Ck) (w : Bool) : I → Expr → Bool
  | .rng es, x => match x with
    | .Call (.Name n _) xs [] _ => decide (n = "range") && c.gl n .blt && (xs.length == 1 || xs.length == 2) && chkL c false es xs
    | _ => false
  | .e e, x => (w || !e.isB) && chkE c e x
end
end G
end S_GSnd8
section S_GSnd9
set_option linter.all false
set_option maxRecDepth 100000
set_option maxHeartbeats 2000000
/-! GSnd9: the checker's soundness, expressions. -/
namespace G
open PySem PySem.Spec PyProof.Rows L2

def W0 : L2.WX := fun _ _ _ _ => False
def GkOk (XR : XRel) (CX : CXT) (C : G.Cx) (k : Nat) (X : L2.Cx) (x : Str) : Gk → Prop
  | .fn i => ∃ fa fd ps, X.mg x = some (.ref fa) ∧ PySem.W.keepIn X.K (.ref fa) = true ∧ Binds X.K fd ps [] ∧ FnG X.prog X.w X.K X.mg X.base CX k fa fd ps (spF X.K XR C i) ∧ ∀ ss, C.cst i = some ss → ps = [] ∧ FnG X.prog X.w X.K X.mg X.base CX k fa fd ps (spC ss)
  | .con i => ∃ v u, X.mg x = some u ∧ RelV v u ∧ ∀ d F r, C.glob i = some d → Rp X.K F r v d
  | .blt => X.mg x = none ∧ x ≠ "__name__"
structure Gd (XR : XRel) (CX : CXT) (C : G.Cx) (k : Nat) (c : Ck) (X : L2.Cx) (W : L2.WX) : Prop where
  calm : X.calm = true
  gds : X.A.guards = some []
  room : Room k X.A
  N : X.N = c.N
  sc : X.env.scope = c.sc
  fn : X.fn = c.fn
  nd : c.N.Nodup
  nm : ∀ x ∈ c.N, (x == ("__debug__" : Str)) = false ∧ (x == ("__classdict__" : Str)) = false
  tk : ∀ σ, PassesAt CX X σ (WE W σ)
  t0 : ∀ (X' : L2.Cx) (σ : L2.St), X'.prog = X.prog → X'.w = X.w → PassesAt CX X' σ (WE W0 σ)
  tab : ∀ x g, c.tab.lookup x = some g → (x == ("__debug__" : Str)) = false ∧ (x != ("super" : Str)) = true ∧ GkOk XR CX C k X x g
section
variable {XR : XRel} {CX : CXT} {C : G.Cx} {k : Nat} {c : Ck} {X : L2.Cx} {W : L2.WX}
theorem Gd.hu (g : Gd XR CX C k c X W) : X.A.units + 200 < cLine := by
  have := g.room.un
  omega
theorem Gd.blk (g : Gd XR CX C k c X W) (s : Shared) (H : Hp) (scope : Scope) (Ca : Addr) (cl : List (Str × Addr)) (fp : List Addr) : Gd XR CX C k (c.blk scope) (X.blk s H scope (compEnvC scope cl Ca X.env) fp) W0 where
  calm := g.calm
  gds := g.gds
  room := g.room
  N := g.N
  sc := by
    show relabel scope X.env = relS scope c.sc
    rw [← g.sc]
    rfl
  fn := rfl
  nd := g.nd
  nm := g.nm
  tk := fun σ => g.t0 _ σ rfl rfl
  t0 := g.t0
  tab := g.tab
theorem Gd.slot (g : Gd XR CX C k c X W) {i : Nat} {x : Str} (h : c.slot i x = true) : X.N[i]? = some x ∧ Vis X.env.scope x ∧ (x == ("__debug__" : Str)) = false ∧ (x == ("__classdict__" : Str)) = false := by
  unfold Ck.slot at h
  rw [Bool.and_eq_true, decide_eq_true_eq] at h
  obtain ⟨h1, h2⟩ := h
  refine ⟨by rw [g.N]; exact h1, ?_, g.nm x (List.mem_of_getElem? h1)⟩
  rw [g.sc]
  split at h2
  · exact .inl (by assumption)
  · exact .inr (.inl (by assumption))
  · exact .inr (.inr (by assumption))
  · cases h2
theorem Gd.put (g : Gd XR CX C k c X W) {i : Nat} {x : Str} (h : c.put i x = true) : X.N[i]? = some x ∧ Loc X.env.scope x ∧ (X.fn x = true ∨ X.env.scope.names.lookup x = some .local) := by
  unfold Ck.put at h
  rw [Bool.and_eq_true, decide_eq_true_eq] at h
  obtain ⟨h1, h2⟩ := h
  refine ⟨by rw [g.N]; exact h1, ?_⟩
  rw [g.sc, g.fn]
  split at h2
  · exact ⟨.inl (by assumption), .inr (by assumption)⟩
  · exact ⟨.inr (by assumption), .inl h2⟩
  · cases h2
theorem Gd.gl (g : Gd XR CX C k c X W) {x : Str} {q : Gk} (h : c.gl x q = true) : Gl X x ∧ (x == ("__debug__" : Str)) = false ∧ (x != ("super" : Str)) = true ∧ GkOk XR CX C k X x q := by
  unfold Ck.gl at h
  rw [Bool.and_eq_true, decide_eq_true_eq, decide_eq_true_eq] at h
  obtain ⟨h1, h2⟩ := h
  refine ⟨?_, g.tab x q h2⟩
  show X.env.scope.names.lookup x = _
  rw [g.sc]
  exact h1
end

def E.fresh : E → Bool
  | .lst _ => true
  | .bin .. => true
  | .sl .. => true
  | .comp .. => true
  | .blt .list _ => true
  | .blt .sorted _ => true
  | .blt .sortset _ => true
  | _ => false
theorem fr {X : L2.Cx} {XR : XRel} {C : G.Cx} {W : L2.WX} {e : E} {x : Expr} (hb : e.isB = false) (h : PE X x (tEX X.K XR W C e)) : PE X x (tE X.K XR W C e) ∧ (e.fresh = true → PE X x (tEX X.K XR W C e)) := ⟨pe_imp h (tE.x hb), fun _ => h⟩
theorem nf {X : L2.Cx} {XR : XRel} {C : G.Cx} {W : L2.WX} {e : E} {x : Expr} (hb : e.fresh = false) (h : PE X x (tE X.K XR W C e)) : PE X x (tE X.K XR W C e) ∧ (e.fresh = true → PE X x (tEX X.K XR W C e)) := ⟨h, fun z => by rw [hb] at z; cases z⟩
section
variable {XR : XRel} {CX : CXT} {C : G.Cx} {k : Nat}
mutual
theorem sTg : ∀ (t : Tg) (x : Expr) {c : Ck} {X : L2.Cx} {W : L2.WX}, chkTg c t x = true → Gd XR CX C k c X W → PG X x (gTg X.K t)
  | .s i, x, c, X, W, h, g => by
    unfold chkTg at h
    split at h
    · obtain ⟨h1, h2, h3⟩ := g.put h
      exact g_s (g.N ▸ g.nd) h1 h2 h3
    · cases h
  | .t ts, x, c, X, W, h, g => by
    unfold chkTg at h
    split at h
    · rename_i xs _ _
      obtain ⟨h1, h2, h3⟩ := sTgs ts xs h g
      exact g_t g.calm h2 h3 h1
    · cases h
theorem sTgs : ∀ (ts : List Tg) (xs : List Expr) {c : Ck} {X : L2.Cx} {W : L2.WX}, chkTgs c ts xs = true → Gd XR CX C k c X W → PGs X xs (gTgs X.K ts) ∧ xs.all noStar = true ∧ xs.length = ts.length
  | [], [], c, X, W, h, g => ⟨gs_nil, rfl, rfl⟩
  | [], _ :: _, c, X, W, h, g => by unfold chkTgs at h; cases h
  | _ :: _, [], c, X, W, h, g => by unfold chkTgs at h; cases h
  | t :: ts, x :: xs, c, X, W, h, g => by
    unfold chkTgs at h
    simp only [Bool.and_eq_true] at h
    obtain ⟨⟨h1, h2⟩, h3⟩ := h
    obtain ⟨q1, q2, q3⟩ := sTgs ts xs h3 g
    exact ⟨gs_cons h1 (sTg t x h2 g) q1, by rw [List.all_cons, h1, q2]; rfl, by rw [List.length_cons, List.length_cons, q3]⟩
end
theorem own_ix {N : List Str} {tg : Tg} : (ownOf N tg).map (·.2) = tgs tg := by
  unfold ownOf
  rw [List.map_map]
  exact List.map_id _
theorem boot_max : bootBuiltins "max" = some (.builtin "max") := by decide +kernel
theorem boot_min : bootBuiltins "min" = some (.builtin "min") := by decide +kernel
theorem boot_sum : bootBuiltins "sum" = some (.builtin "sum") := by decide +kernel
theorem boot_all : bootBuiltins "all" = some (.builtin "all") := by decide +kernel
theorem boot_any : bootBuiltins "any" = some (.builtin "any") := by decide +kernel
theorem boot_len' : bootBuiltins "len" = some (.builtin "len") := by decide +kernel
/-- a simple built-in function -/
theorem s_blt {b : Bf} {nm n : Str} {c : Ck} {X : L2.Cx} {W : L2.WX} {es : List E} {xa : Expr} {xs : List Expr} {p pos : Pos} (g : Gd XR CX C k c X W) (hb : bName b = some nm) (hn : n = nm) (hg : Gl X n) (hm : X.mg n = none) (hs : (xa :: xs).all noStar = true) (ha : PA X (xa :: xs) (tL X.K XR W C true es)) :
    PE X (.Call (.Name n p) (xa :: xs) [] pos) (tE X.K XR W C (.blt b es)) ∧ ((E.blt b es).fresh = true → PE X (.Call (.Name n p) (xa :: xs) [] pos) (tEX X.K XR W C (.blt b es))) := by
  subst hn
  rw [List.all_cons, Bool.and_eq_true] at hs
  have he := star_cons (es := xs) (env := X.env) hs.1
  have hpl := star_any (env := X.env) (pos := pos) hs.2
  cases b with
  | len => cases hb; exact nf rfl (e_blt (pe_callB snd_len hg hm boot_len' ha (by decide) (by decide) he hpl))
  | int => cases hb; exact nf rfl (e_blt (pe_callTy snd_int hg hm boot_int ha (by decide) (by decide) he hpl))
  | list => cases hb; exact fr rfl (e_bltX (pe_callTy snd_list hg hm boot_list ha (by decide) (by decide) he hpl))
  | tuple => cases hb; exact nf rfl (e_blt (pe_callTy snd_tuple hg hm boot_tuple ha (by decide) (by decide) he hpl))
  | all => cases hb; exact nf rfl (e_blt (pe_callB (snd_all g.calm) hg hm boot_all ha (by decide) (by decide) he hpl))
  | any => cases hb; exact nf rfl (e_blt (pe_callB (snd_any g.calm) hg hm boot_any ha (by decide) (by decide) he hpl))
  | sum => cases hb; exact nf rfl (e_blt (pe_callB (snd_sum g.calm) hg hm boot_sum ha (by decide) (by decide) he hpl))
  | max2 => cases hb; exact nf rfl (e_blt (pe_callB (snd_max2 g.calm) hg hm boot_max ha (by decide) (by decide) he hpl))
  | min2 => cases hb; exact nf rfl (e_blt (pe_callB (snd_min2 g.calm) hg hm boot_min ha (by decide) (by decide) he hpl))
  | abs => cases hb; exact nf rfl (e_blt (pe_callB snd_abs hg hm PyProof.Rows.boot_abs ha (by decide) (by decide) he hpl))
  | sorted => cases hb; exact fr rfl (e_bltX (pe_callB snd_sorted hg hm boot_sorted ha (by decide) (by decide) he hpl))
  | repr => cases hb; exact nf rfl (e_blt (pe_callB (snd_repr g.gds g.hu) hg hm boot_repr ha (by decide) (by decide) he hpl))
  | _ => cases hb
end
end G
end S_GSnd9
section S_GSnd10
set_option linter.all false
set_option maxRecDepth 100000
set_option maxHeartbeats 4000000
/-! GSnd10: the checker's soundness, expressions. -/
namespace G
open PySem PySem.Spec PyProof.Rows L2
section
variable {XR : XRel} {CX : CXT} {C : G.Cx} {k : Nat}
abbrev RE (XR : XRel) (C : G.Cx) (X : L2.Cx) (W : L2.WX) (e : E) (x : Expr) : Prop := PE X x (tE X.K XR W C e) ∧ (e.fresh = true → PE X x (tEX X.K XR W C e))
theorem nb_of {b : Bool} (h : (!b) = true) : b = false := by
  cases b with
  | false => rfl
  | true => cases h
mutual
theorem sE : ∀ (e : E) (x : Expr) {c : Ck} {X : L2.Cx} {W : L2.WX}, chkE c e x = true → Gd XR CX C k c X W → RE XR C X W e x
  | .k d, x, c, X, W, h, g => by
    unfold chkE at h
    split at h
    · exact nf rfl (e_k h)
    · cases h
  | .v i, x, c, X, W, h, g => by
    unfold chkE at h
    split at h
    · obtain ⟨h1, h2, h3, h4⟩ := g.slot h
      exact nf rfl (e_v h1 h2 h3 h4)
    · cases h
  | .b i, x, c, X, W, h, g => by
    unfold chkE at h
    split at h
    · obtain ⟨h1, h2, h3, h4⟩ := g.slot h
      exact nf rfl (e_b h1 h2 h3 h4)
    · cases h
  | .g i, x, c, X, W, h, g => by
    unfold chkE at h
    split at h
    · obtain ⟨h1, h2, _, v, u, h3, h4, h5⟩ := g.gl h
      exact nf rfl (e_g h1 h3 h4 h2 h5)
    · cases h
  | .tup es, x, c, X, W, h, g => by
    unfold chkE at h
    split at h
    · rw [Bool.and_eq_true, decide_eq_true_eq] at h
      obtain ⟨q, q1, q2⟩ := sL false es _ h.2 g
      exact nf rfl (e_tup (by rw [← q2]; exact h.1) q)
    · cases h
  | .lst es, x, c, X, W, h, g => by
    unfold chkE at h
    split at h
    · rw [Bool.and_eq_true, decide_eq_true_eq] at h
      obtain ⟨q, q1, q2⟩ := sL false es _ h.2 g
      exact fr rfl (e_lst (by rw [← q2]; exact h.1) q)
    · cases h
  | .mk es, x, c, X, W, h, g => by
    unfold chkE at h
    split at h
    · rw [Bool.and_eq_true, decide_eq_true_eq] at h
      obtain ⟨q, q1, q2⟩ := sL false es _ h.2 g
      exact nf rfl (e_mk (by rw [← q2]; exact h.1) q)
    · cases h
  | .bin o a b, x, c, X, W, h, g => by
    unfold chkE at h
    split at h
    · simp only [Bool.and_eq_true, decide_eq_true_eq] at h
      obtain ⟨⟨rfl, h1⟩, h2⟩ := h
      exact fr rfl (e_bin (sE a _ h1 g).1 (sE b _ h2 g).1)
    · cases h
  | .neg a, x, c, X, W, h, g => by
    unfold chkE at h
    split at h
    · simp only [Bool.and_eq_true] at h
      exact nf rfl (e_neg (nb_of h.1) (sE a _ h.2 g).1)
    · cases h
  | .cmp o a b, x, c, X, W, h, g => by
    unfold chkE at h
    split at h
    · simp only [Bool.and_eq_true, decide_eq_true_eq] at h
      obtain ⟨⟨⟨rfl, h0⟩, h1⟩, h2⟩ := h
      exact nf rfl (e_cmp g.hu (nb_of h0) (sE a _ h1 g).1 (sE b _ h2 g).1)
    · cases h
  | .chn o o2 a b d, x, c, X, W, h, g => by
    unfold chkE at h
    split at h
    · simp only [Bool.and_eq_true, decide_eq_true_eq] at h
      obtain ⟨⟨⟨⟨⟨rfl, rfl⟩, h0⟩, h1⟩, h2⟩, h3⟩ := h
      exact nf rfl (e_chn g.hu (nb_of h0) (sE a _ h1 g).1 (sE b _ h2 g).1 (sE d _ h3 g).1)
    · cases h
  | .and es, x, c, X, W, h, g => by
    unfold chkE at h
    split at h
    · rename_i xs pos
      simp only [Bool.and_eq_true] at h
      refine nf rfl (pe_imp (sAV es xs pos (nb_of h.1) h.2 g) fun σ H Q q => ?_)
      obtain ⟨F, r, sl, S, R, so, q⟩ := q
      unfold evE at q
      exact ⟨F, r, sl, S, R, so, q⟩
    · cases h
  | .or es, x, c, X, W, h, g => by
    unfold chkE at h
    split at h
    · rename_i xs pos
      simp only [Bool.and_eq_true] at h
      refine nf rfl (pe_imp (sOV es xs pos (nb_of h.1) h.2 g) fun σ H Q q => ?_)
      obtain ⟨F, r, sl, S, R, so, q⟩ := q
      unfold evE at q
      exact ⟨F, r, sl, S, R, so, q⟩
    · cases h
  | .not t, x, c, X, W, h, g => by
    unfold chkE at h
    split at h
    · cases t with
      | tr e =>
        unfold chkN at h
        exact nf rfl (e_not (sE e _ h g).1)
      | _ => unfold chkN at h; cases h
    · cases h
  | .ite t a b, x, c, X, W, h, g => by
    unfold chkE at h
    split at h
    · simp only [Bool.and_eq_true] at h
      obtain ⟨⟨⟨⟨h1, h2⟩, h3⟩, h4⟩, h5⟩ := h
      exact nf rfl (e_ite (nb_of h1) (nb_of h2) (sT t _ h3 g) (sE a _ h4 g).1 (sE b _ h5 g).1)
    · cases h
  | .ix a b, x, c, X, W, h, g => by
    unfold chkE at h
    split at h
    · simp only [Bool.and_eq_true] at h
      obtain ⟨⟨⟨h1, h2⟩, h3⟩, h4⟩ := h
      exact nf rfl (e_ix (nb_of h1) (nb_of h2) (sE a _ h3 g).1 (sE b _ h4 g).1)
    · cases h
  | .sl a lo hi, x, c, X, W, h, g => by
    unfold chkE at h
    split at h
    · simp only [Bool.and_eq_true] at h
      obtain ⟨⟨h1, h2⟩, h3⟩ := h
      exact fr rfl (e_sl (sE a _ h1 g).1 (sO lo _ h2 g) (sO hi _ h3 g))
    · cases h
  | .cal f es, x, c, X, W, h, g => by
    unfold chkE at h
    split at h
    · rename_i n p xs pos
      simp only [Bool.and_eq_true] at h
      obtain ⟨⟨h1, h2⟩, h3⟩ := h
      obtain ⟨g1, g2, _, fa, fd, ps, g3, g4, g5, g6, _⟩ := g.gl h1
      obtain ⟨q, q1, q2⟩ := sL false es _ h3 g
      cases xs with
      | nil =>
        have e : es = [] := by cases es with | nil => rfl | cons _ _ => cases q2
        subst e
        exact nf rfl (e_cal0 g6 g.gds g.room g1 g3 g4 g5 g.tk g2)
      | cons x xs => exact nf rfl (e_cal g6 g.gds g.room g1 g3 g4 g5 g.tk g2 h2 q)
    · cases h
  | .ixc f e, x, c, X, W, h, g => by
    unfold chkE at h
    split at h
    · simp only [Bool.and_eq_true, decide_eq_true_eq] at h
      obtain ⟨⟨⟨⟨⟨h1, rfl⟩, h2⟩, h3⟩, h4⟩, h5⟩ := h
      obtain ⟨g1, g2, g2', fa, fd, ps, g3, g4, g5, _, g7⟩ := g.gl h1
      have q := (sE e _ h5 g).1
      refine nf rfl ⟨fun pins s σ H Q I hq => ?_⟩
      cases hc : C.cst f with
      | none =>
        obtain ⟨F, r, sl, S, R, so, hq⟩ := hq
        unfold evE at hq
        rw [hc] at hq
        exact hq.elim
      | some ss =>
        obtain ⟨rfl, g6⟩ := g7 ss hc
        exact (e_ixc hc g6 g.gds g.room g1 g3 g4 g5 g.tk g2 g2' h2 h3 (nb_of h4) (a_cons h2 (.inr (nb_of h4)) q a_nil)).run pins s σ H Q I hq
    · cases h
  | .blt b es, x, c, X, W, h, g => by
    unfold chkE at h
    split at h
    · rename_i n p xs pos
      split at h
      · rename_i t
        split at h
        · simp only [Bool.and_eq_true, decide_eq_true_eq] at h
          obtain ⟨⟨⟨⟨rfl, h1⟩, rfl⟩, h2⟩, h3⟩ := h
          obtain ⟨g1, _, _, g3, _⟩ := g.gl h1
          obtain ⟨g4, _, _, g6, _⟩ := g.gl h2
          cases es with
          | nil => unfold chkL at h3; cases h3
          | cons a es =>
            unfold chkL at h3
            simp only [Bool.and_eq_true, Bool.false_or] at h3
            obtain ⟨⟨⟨h4, h5⟩, h6⟩, h7⟩ := h3
            cases es with
            | nil => exact nf rfl (e_isa h5 (nb_of h4) g1 g3 g4 g6 (sE a _ h6 g).1)
            | cons _ _ => unfold chkL at h7; cases h7
        · cases h
      · split at h
        · simp only [Bool.and_eq_true, decide_eq_true_eq] at h
          obtain ⟨⟨⟨⟨rfl, h1⟩, rfl⟩, h2⟩, h3⟩ := h
          obtain ⟨g1, _, _, g3, _⟩ := g.gl h1
          obtain ⟨g4, _, _, g6, _⟩ := g.gl h2
          cases es with
          | nil => unfold chkL at h3; cases h3
          | cons a es =>
            unfold chkL at h3
            simp only [Bool.and_eq_true, Bool.true_or] at h3
            obtain ⟨⟨⟨h4, h5⟩, h6⟩, h7⟩ := h3
            cases es with
            | nil => exact nf rfl (e_lenset g.calm g1 g3 g4 g6 h5 (sE a _ h6 g).1)
            | cons _ _ => unfold chkL at h7; cases h7
        · cases h
      · split at h
        · simp only [Bool.and_eq_true, decide_eq_true_eq] at h
          obtain ⟨⟨⟨⟨rfl, h1⟩, rfl⟩, h2⟩, h3⟩ := h
          obtain ⟨g1, _, _, g3, _⟩ := g.gl h1
          obtain ⟨g4, _, _, g6, _⟩ := g.gl h2
          cases es with
          | nil => unfold chkL at h3; cases h3
          | cons a es =>
            unfold chkL at h3
            simp only [Bool.and_eq_true, Bool.true_or] at h3
            obtain ⟨⟨⟨h4, h5⟩, h6⟩, h7⟩ := h3
            cases es with
            | nil => exact fr rfl (e_sortset g.calm g1 g3 g4 g6 h5 (sE a _ h6 g).1)
            | cons _ _ => unfold chkL at h7; cases h7
        · cases h
      · split at h
        · rename_i nm hb
          simp only [Bool.and_eq_true, decide_eq_true_eq] at h
          obtain ⟨⟨⟨⟨h0, h1⟩, h2⟩, h3⟩, h4⟩ := h
          obtain ⟨g1, _, _, g3, _⟩ := g.gl h1
          obtain ⟨q, q1, q2⟩ := sL true es _ h4 g
          cases xs with
          | nil => cases h2
          | cons x xs => exact s_blt g hb h0 g1 g3 h3 q
        · cases h
    · cases h
  | .mth m o es, x, c, X, W, h, g => by
    unfold chkE at h
    split at h
    · split at h
      · split at h
        · simp only [Bool.and_eq_true, decide_eq_true_eq] at h
          obtain ⟨⟨⟨⟨⟨rfl, h1⟩, h2⟩, h3⟩, h4⟩, h5⟩ := h
          have q := (sE o _ h4 g).1
          obtain ⟨q5, q6, q7⟩ := sL false es _ h5 g
          cases es with
          | nil => cases q7
          | cons b es =>
            cases es with
            | cons _ _ => cases q7
            | nil =>
              unfold chkL at h5
              simp only [Bool.and_eq_true, Bool.false_or] at h5
              exact nf rfl (e_index h1 h2 (nb_of h5.1.1.1) (recv_base h3) q q5)
        · cases h
      · cases h
    · cases h
  | .comp tg it elt cond, x, c, X, W, h, g => by
    unfold chkE at h
    split at h
    · rename_i e t i ifs sc pos
      simp only [Bool.and_eq_true] at h
      obtain ⟨⟨⟨⟨⟨⟨h1, h2⟩, h3⟩, h4⟩, h5⟩, h6⟩, h7⟩ := h
      have ok : BlkOk X.N X.env.scope sc (ownOf c.N tg) := by
        rw [g.N, g.sc]
        exact blkOk_by h1
      refine fr rfl (pe_imp (pe_lc (own := ownOf c.N tg) (wi := tIt X.K XR W C true it) (g := gTg X.K tg) (tt := tCs X.K XR W0 C cond) (te := tE X.K XR W0 C elt) g.calm (g.N ▸ g.nd) (sI true it t i h4 g) ok (fun s H Ca cl fp => sTg tg t h2 (g.blk s H sc Ca cl fp)) (fun s H Ca cl fp => sCs cond ifs h7 (g.blk s H sc Ca cl fp)) (fun s H Ca cl fp => (sE elt e h6 (g.blk s H sc Ca cl fp)).1) (set_folded (nb_of h3))) fun σ H Q q => ?_)
      exact lc_of own_ix (nb_of h5) q
    · cases h
termination_by e => sizeOf e
theorem sT : ∀ (b : B) (x : Expr) {c : Ck} {X : L2.Cx} {W : L2.WX}, chkT c b x = true → Gd XR CX C k c X W → PT X x (tT X.K XR W C b)
  | .tr e, x, c, X, W, h, g => by
    unfold chkT at h
    rw [Bool.and_eq_true, Bool.or_eq_true] at h
    obtain ⟨h1, h2⟩ := h
    rcases h1 with h1 | h1
    · exact t_tr h1 (sE e _ h2 g).1
    · cases e with
      | cmp o a b =>
        unfold chkE at h2
        split at h2
        · simp only [Bool.and_eq_true, decide_eq_true_eq] at h2
          obtain ⟨⟨⟨rfl, h0⟩, hA⟩, hB⟩ := h2
          exact t_cmp g.hu (nb_of h0) (sE a _ hA g).1 (sE b _ hB g).1
        · cases h2
      | chn o o2 a b d =>
        unfold chkE at h2
        split at h2
        · simp only [Bool.and_eq_true, decide_eq_true_eq] at h2
          obtain ⟨⟨⟨⟨⟨rfl, rfl⟩, h0⟩, hA⟩, hB⟩, hC⟩ := h2
          exact t_chn g.hu (nb_of h0) (sE a _ hA g).1 (sE b _ hB g).1 (sE d _ hC g).1
        · cases h2
      | _ =>
        split at h1
        · unfold chkE at h2
          cases h2
        · cases h1
  | .and bs, x, c, X, W, h, g => by
    unfold chkT at h
    split at h
    · rename_i xs pos
      simp only [Bool.and_eq_true] at h
      refine pt_imp (sAT bs xs pos (nb_of h.1) h.2 g).pt fun σ H Q q => ?_
      obtain ⟨F, r, sl, S, R, so, q⟩ := q
      unfold evT at q
      exact ⟨F, r, sl, S, R, so, q⟩
    · cases h
  | .or bs, x, c, X, W, h, g => by
    unfold chkT at h
    split at h
    · rename_i xs pos
      simp only [Bool.and_eq_true] at h
      refine pt_imp (sOT bs xs pos (nb_of h.1) h.2 g).pt fun σ H Q q => ?_
      obtain ⟨F, r, sl, S, R, so, q⟩ := q
      unfold evT at q
      exact ⟨F, r, sl, S, R, so, q⟩
    · cases h
  | .not b, x, c, X, W, h, g => by
    unfold chkT at h
    split at h
    · exact t_not (sT b _ h g)
    · cases h
termination_by b => sizeOf b
theorem sAT : ∀ (bs : List B) (xs : List Expr) (pos : Pos) {c : Ck} {X : L2.Cx} {W : L2.WX}, xs.isEmpty = false → chkTs c bs xs = true → Gd XR CX C k c X W → PW X (.BoolOp .And xs pos) (tAT X.K XR W C bs)
  | [], [], pos, c, X, W, hn, h, g => by cases hn
  | [], _ :: _, pos, c, X, W, hn, h, g => by unfold chkTs at h; cases h
  | _ :: _, [], pos, c, X, W, hn, h, g => by cases hn
  | b :: bs, x :: xs, pos, c, X, W, hn, h, g => by
    unfold chkTs at h
    rw [Bool.and_eq_true] at h
    have q := sT b x h.1 g
    cases xs with
    | nil =>
      cases bs with
      | nil => exact t_and1 q
      | cons _ _ => unfold chkTs at h; cases h.2
    | cons x2 xs =>
      have q2 := sAT bs (x2 :: xs) pos rfl h.2 g
      cases bs with
      | nil => unfold chkTs at h; cases h.2
      | cons b2 bs => exact t_and q q2
termination_by bs => sizeOf bs
theorem sOT : ∀ (bs : List B) (xs : List Expr) (pos : Pos) {c : Ck} {X : L2.Cx} {W : L2.WX}, xs.isEmpty = false → chkTs c bs xs = true → Gd XR CX C k c X W → PW X (.BoolOp .Or xs pos) (tOT X.K XR W C bs)
  | [], [], pos, c, X, W, hn, h, g => by cases hn
  | [], _ :: _, pos, c, X, W, hn, h, g => by unfold chkTs at h; cases h
  | _ :: _, [], pos, c, X, W, hn, h, g => by cases hn
  | b :: bs, x :: xs, pos, c, X, W, hn, h, g => by
    unfold chkTs at h
    rw [Bool.and_eq_true] at h
    have q := sT b x h.1 g
    cases xs with
    | nil =>
      cases bs with
      | nil => exact t_or1 q
      | cons _ _ => unfold chkTs at h; cases h.2
    | cons x2 xs =>
      have q2 := sOT bs (x2 :: xs) pos rfl h.2 g
      cases bs with
      | nil => unfold chkTs at h; cases h.2
      | cons b2 bs => exact t_or q q2
termination_by bs => sizeOf bs
theorem sAV : ∀ (es : List E) (xs : List Expr) (pos : Pos) {c : Ck} {X : L2.Cx} {W : L2.WX}, xs.isEmpty = false → chkL c false es xs = true → Gd XR CX C k c X W → PE X (.BoolOp .And xs pos) (tAV X.K XR W C es)
  | [], [], pos, c, X, W, hn, h, g => by cases hn
  | [], _ :: _, pos, c, X, W, hn, h, g => by unfold chkL at h; cases h
  | _ :: _, [], pos, c, X, W, hn, h, g => by cases hn
  | b :: bs, x :: xs, pos, c, X, W, hn, h, g => by
    unfold chkL at h
    simp only [Bool.and_eq_true, Bool.false_or] at h
    have q := (sE b x h.1.2 g).1
    have qb := nb_of h.1.1.1
    cases xs with
    | nil =>
      cases bs with
      | nil => exact e_and1 qb q
      | cons _ _ => unfold chkL at h; cases h.2
    | cons x2 xs =>
      have q2 := sAV bs (x2 :: xs) pos rfl h.2 g
      cases bs with
      | nil => unfold chkL at h; cases h.2
      | cons b2 bs => exact e_and qb q q2
termination_by es => sizeOf es
theorem sOV : ∀ (es : List E) (xs : List Expr) (pos : Pos) {c : Ck} {X : L2.Cx} {W : L2.WX}, xs.isEmpty = false → chkL c false es xs = true → Gd XR CX C k c X W → PE X (.BoolOp .Or xs pos) (tOV X.K XR W C es)
  | [], [], pos, c, X, W, hn, h, g => by cases hn
  | [], _ :: _, pos, c, X, W, hn, h, g => by unfold chkL at h; cases h
  | _ :: _, [], pos, c, X, W, hn, h, g => by cases hn
  | b :: bs, x :: xs, pos, c, X, W, hn, h, g => by
    unfold chkL at h
    simp only [Bool.and_eq_true, Bool.false_or] at h
    have q := (sE b x h.1.2 g).1
    have qb := nb_of h.1.1.1
    cases xs with
    | nil =>
      cases bs with
      | nil => exact e_or1 qb q
      | cons _ _ => unfold chkL at h; cases h.2
    | cons x2 xs =>
      have q2 := sOV bs (x2 :: xs) pos rfl h.2 g
      cases bs with
      | nil => unfold chkL at h; cases h.2
      | cons b2 bs => exact e_or qb q q2
termination_by es => sizeOf es
theorem sCs : ∀ (bs : List B) (xs : List Expr) {c : Ck} {X : L2.Cx} {W : L2.WX}, chkCs c bs xs = true → Gd XR CX C k c X W → PTs X xs (tCs X.K XR W C bs)
  | [], [], c, X, W, h, g => c_nil
  | [], _ :: _, c, X, W, h, g => by unfold chkCs at h; cases h
  | _ :: _, [], c, X, W, h, g => by unfold chkCs at h; cases h
  | _ :: _, _ :: _ :: _, c, X, W, h, g => by unfold chkCs at h; cases h
  | b :: bs, [x], c, X, W, h, g => by
    unfold chkCs at h
    rw [Bool.and_eq_true] at h
    cases bs with
    | nil => exact c_one (sT b x h.2 g)
    | cons _ _ => cases h.1
termination_by bs => sizeOf bs
theorem sL : ∀ (w : Bool) (es : List E) (xs : List Expr) {c : Ck} {X : L2.Cx} {W : L2.WX}, chkL c w es xs = true → Gd XR CX C k c X W → PA X xs (tL X.K XR W C w es) ∧ xs.all noStar = true ∧ xs.length = es.length
  | w, [], [], c, X, W, h, g => ⟨a_nil, rfl, rfl⟩
  | w, [], _ :: _, c, X, W, h, g => by unfold chkL at h; cases h
  | w, _ :: _, [], c, X, W, h, g => by unfold chkL at h; cases h
  | w, e :: es, x :: xs, c, X, W, h, g => by
    unfold chkL at h
    simp only [Bool.and_eq_true, Bool.or_eq_true] at h
    obtain ⟨⟨⟨h1, h2⟩, h3⟩, h4⟩ := h
    obtain ⟨q1, q2, q3⟩ := sL w es xs h4 g
    refine ⟨a_cons h2 ?_ (sE e x h3 g).1 q1, by rw [List.all_cons, h2, q2]; rfl, by rw [List.length_cons, List.length_cons, q3]⟩
    rcases h1 with h1 | h1
    · exact .inl h1
    · exact .inr (nb_of h1)
termination_by _ es => sizeOf es
theorem sO : ∀ (o : Option E) (x : Option Expr) {c : Ck} {X : L2.Cx} {W : L2.WX}, chkO c o x = true → Gd XR CX C k c X W → PO X x (tOpt X.K XR W C o)
  | none, none, c, X, W, h, g => o_none
  | none, some _, c, X, W, h, g => by unfold chkO at h; cases h
  | some _, none, c, X, W, h, g => by unfold chkO at h; cases h
  | some e, some x, c, X, W, h, g => by
    unfold chkO at h
    rw [Bool.and_eq_true] at h
    exact o_some (nb_of h.1) (sE e x h.2 g).1
termination_by o => sizeOf o
theorem sI : ∀ (w : Bool) (i : I) (t x : Expr) {c : Ck} {X : L2.Cx} {W : L2.WX}, chkI c w i x = true → Gd XR CX C k c X W → PI X t x (tIt X.K XR W C w i)
  | w, .rng es, t, x, c, X, W, h, g => by
    unfold chkI at h
    split at h
    · rename_i n p xs pos
      simp only [Bool.and_eq_true, decide_eq_true_eq] at h
      obtain ⟨⟨⟨rfl, h1⟩, h2⟩, h3⟩ := h
      obtain ⟨g1, _, _, g3, _⟩ := g.gl h1
      obtain ⟨q1, q2, q3⟩ := sL false es _ h3 g
      cases xs with
      | nil => cases h2
      | cons x xs =>
        cases es with
        | nil => cases q3
        | cons e es =>
          rw [List.all_cons, Bool.and_eq_true] at q2
          cases xs with
          | nil =>
            cases es with
            | cons _ _ => cases q3
            | nil => exact i_rng1 q2.1 g1 g3 q1
          | cons x2 xs =>
            cases xs with
            | cons _ _ => simp at h2
            | nil =>
              cases es with
              | nil => cases q3
              | cons e2 es =>
                cases es with
                | cons _ _ => cases q3
                | nil =>
                  rw [List.all_cons, Bool.and_eq_true] at q2
                  exact i_rng2 q2.1 q2.2.1 g1 g3 q1
    · cases h
  | w, .e e, t, x, c, X, W, h, g => by
    unfold chkI at h
    rw [Bool.and_eq_true, Bool.or_eq_true] at h
    refine i_e ?_ (sE e x h.2 g).1
    rcases h.1 with h1 | h1
    · exact .inl h1
    · exact .inr (nb_of h1)
termination_by _ i => sizeOf i
end
end
end G
end S_GSnd10
section S_GSt
set_option linter.all false
set_option maxRecDepth 100000
set_option maxHeartbeats 2000000
/-! GSt: statements over the judgements of the hand layer. -/
namespace G
open PySem PySem.Spec PyProof.Rows L2

/-- the state ahead of a statement; F0, H0, r0: at the def's entry -/
structure StI (K : Fg) (F0 H0 : Hp) (r0 : List Addr) (Fm : Hp) (rm : List Addr) (F H : Hp) (r : List Addr) (S : List Cell) (sl : List Sl) (σ : L2.St) : Prop where
  R : Rel K F H r S
  so : SlOk K F H r σ sl
  e : Ext F0 H0 r0 F H r
  nw : ∀ (i : Nat) (ds : List D) (a : Addr), sl[i]? = some (.own ds) → σ[i]? = some (some (.ref a)) → H0 a = none
  fl : ∀ a o, Fm a = some o → F a = some o
  pr : Pre rm r
section
variable (K : Fg) (XR : XRel) (W : L2.WX) (F0 H0 : Hp) (r0 : List Addr)
def PostF (Fm : Hp) (rm : List Addr) (D : Ends) : Fl → Prop
  | .nx sl S => ∀ F H r σ, StI K F0 H0 r0 Fm rm F H r S sl σ → D.nx σ H
  | .ret d S => ∀ F H r, Ext F0 H0 r0 F H r → Rel K F H r S → ∀ v, Rp K F r v d → D.rt v H
  | .brk sl S => ∀ F H r σ, StI K F0 H0 r0 Fm rm F H r S sl σ → D.bk σ H
  | .cnt sl S => ∀ F H r σ, StI K F0 H0 r0 Fm rm F H r S sl σ → D.ct σ H
  | .exc c x sl S => ∀ F H r σ cls d, StI K F0 H0 r0 Fm rm F H r S sl σ → XR c x cls d F H r → W cls d σ H
  | .stk => False
def tS (C : G.Cx) (t : T) : TS := fun D σ H => ∃ Fm rm F r sl S, StI K F0 H0 r0 Fm rm F H r S sl σ ∧ PostF K XR W F0 H0 r0 Fm rm D (evS C t sl S)
def tB (C : G.Cx) (ts : List T) : TS := fun D σ H => ∃ Fm rm F r sl S, StI K F0 H0 r0 Fm rm F H r S sl σ ∧ PostF K XR W F0 H0 r0 Fm rm D (evB C ts sl S)
end
theorem ps_imp {X : L2.Cx} {st : Stmt} {t t' : TS} (h : PS X st t) (k : ∀ D σ H, t' D σ H → t D σ H) : PS X st t' := ⟨fun pins s σ H D I q => h.run pins s σ H D I (k D σ H q)⟩
theorem pss_imp {X : L2.Cx} {st : List Stmt} {t t' : TS} (h : PSs X st t) (k : ∀ D σ H, t' D σ H → t D σ H) : PSs X st t' := ⟨fun pins s σ H D I q => h.run pins s σ H D I (k D σ H q)⟩
theorem Pre.trans {a b c : List Addr} (h : Pre a b) (k : Pre b c) : Pre a c := by
  obtain ⟨t, rfl⟩ := h
  obtain ⟨u, rfl⟩ := k
  exact ⟨t ++ u, by rw [List.append_assoc]⟩
section
variable {K : Fg} {XR : XRel} {W : L2.WX} {C : G.Cx} {F0 H0 Fm F H F' H' : Hp} {r0 rm r r' : List Addr} {S S' : List Cell} {sl sl' : List Sl} {σ σ' : L2.St} {D : Ends}
theorem StI.ext (I : StI K F0 H0 r0 Fm rm F H r S sl σ) (e : Ext F H r F' H' r') (R : Rel K F' H' r' S') : StI K F0 H0 r0 Fm rm F' H' r' S' sl σ :=
  ⟨R, I.so.ext e, I.e.trans e, I.nw, fun a o h => e.f a o (I.fl a o h), I.pr.trans e.pre⟩
/-- the slots of a value set -/
theorem StI.set {i : Nat} {v : V} {d : G.D} (I : StI K F0 H0 r0 Fm rm F H r S sl σ) (h : Rp K F r v d) : StI K F0 H0 r0 Fm rm F H r S (sl.set i (.v d)) (σ.set i (some v)) := by
  refine ⟨I.R, I.so.set i h, I.e, fun j ds a h1 h2 => ?_, I.fl, I.pr⟩
  by_cases z : i = j
  · subst z
    by_cases hl : i < sl.length
    · rw [List.getElem?_set_self hl] at h1
      cases h1
    · rw [List.getElem?_eq_none (by rw [List.length_set]; omega)] at h1
      cases h1
  · rw [List.getElem?_set_ne z] at h1 h2
    exact I.nw j ds a h1 h2
theorem StI.setO {i : Nat} {p : Addr} {vs : List V} {ds : List G.D} {Hb : Hp} (I : StI K F0 H0 r0 Fm rm F H r S sl σ) (t : RpL K F r vs ds) (m : Mine F H r p vs) (n : ∀ (j : Nat) (es : List G.D), sl[j]? = some (.own es) → σ[j]? ≠ some (some (.ref p))) (n0 : H0 p = none) : StI K F0 H0 r0 Fm rm F H r S (sl.set i (.own ds)) (σ.set i (some (.ref p))) := by
  have gt : ∀ {j : Nat} {x : Sl}, (sl.set i (.own ds))[j]? = some x → (i = j ∧ x = .own ds ∧ (σ.set i (some (V.ref p)))[j]? = some (some (.ref p))) ∨ (i ≠ j ∧ sl[j]? = some x ∧ (σ.set i (some (V.ref p)))[j]? = σ[j]?) := fun {j x} h => by
    by_cases z : i = j
    · subst z
      by_cases hl : i < sl.length
      · rw [List.getElem?_set_self hl] at h
        cases h
        exact .inl ⟨rfl, rfl, List.getElem?_set_self (by rw [← I.so.len]; exact hl)⟩
      · rw [List.getElem?_eq_none (by rw [List.length_set]; omega)] at h
        cases h
    · rw [List.getElem?_set_ne z] at h
      exact .inr ⟨z, h, List.getElem?_set_ne z⟩
  refine ⟨I.R, ⟨by rw [List.length_set, List.length_set, I.so.len], fun j d h => ?_, fun j es h => ?_, fun j k es fs a h1 h2 h3 h4 => ?_⟩, I.e, fun j es a h1 h2 => ?_, I.fl, I.pr⟩
  · rcases gt h with ⟨_, q, _⟩ | ⟨_, q, e⟩
    · cases q
    · rw [e]
      exact I.so.v j d q
  · rcases gt h with ⟨_, q, e⟩ | ⟨_, q, e⟩
    · cases q
      exact ⟨p, vs, e, m.h, m.f, m.r, t⟩
    · rw [e]
      exact I.so.own j es q
  · rcases gt h1 with ⟨z1, q1, e1⟩ | ⟨z1, q1, e1⟩ <;> rcases gt h2 with ⟨z2, q2, e2⟩ | ⟨z2, q2, e2⟩
    · exact z1.symm.trans z2
    · rw [e1] at h3
      cases h3
      rw [e2] at h4
      exact absurd h4 (n k fs q2)
    · rw [e2] at h4
      cases h4
      rw [e1] at h3
      exact absurd h3 (n j es q1)
    · rw [e1] at h3
      rw [e2] at h4
      exact I.so.ap j k es fs a q1 q2 h3 h4
  · rcases gt h1 with ⟨z1, q1, e1⟩ | ⟨z1, q1, e1⟩
    · rw [e1] at h2
      cases h2
      exact n0
    · rw [e1] at h2
      exact I.nw j es a q1 h2
/-- an own list frozen -/
theorem StI.frz {i : Nat} {xs : List G.D} (I : StI K F0 H0 r0 Fm rm F H r S sl σ) (h : sl[i]? = some (.own xs)) : ∃ F', StI K F0 H0 r0 Fm rm F' H r S (sl.set i (.v (.lst xs))) σ := by
  obtain ⟨p, vs, e1, e2, e3, e4, e5⟩ := I.so.own i xs h
  have m : Mine F H r p vs := ⟨e2, e3, e4⟩
  have n0 := I.nw i xs p h e1
  have up := m.up
  have gt : ∀ {j : Nat} {x : Sl}, (sl.set i (.v (.lst xs)))[j]? = some x → (i = j ∧ x = .v (.lst xs)) ∨ (i ≠ j ∧ sl[j]? = some x) := fun {j x} h => by
    by_cases z : i = j
    · subst z
      by_cases hl : i < sl.length
      · rw [List.getElem?_set_self hl] at h
        cases h
        exact .inl ⟨rfl, rfl⟩
      · rw [List.getElem?_eq_none (by rw [List.length_set]; omega)] at h
        cases h
    · rw [List.getElem?_set_ne z] at h
      exact .inr ⟨z, h⟩
  refine ⟨upd F p (.lst vs), I.R.frz m, ⟨by rw [List.length_set, I.so.len], fun j d h => ?_, fun j es hj => ?_, fun j k es fs a h1 h2 h3 h4 => ?_⟩, I.e.frz m n0, fun j es a h1 h2 => ?_, fun a o h => up _ _ (I.fl a o h), I.pr⟩
  · rcases gt h with ⟨rfl, q⟩ | ⟨_, q⟩
    · cases q
      exact ⟨_, e1, .lst (SqL.of upd_same) (e5.up up (Pre.refl _))⟩
    · obtain ⟨x, g1, g2⟩ := I.so.v j d q
      exact ⟨x, g1, g2.up up (Pre.refl _)⟩
  · rcases gt hj with ⟨rfl, q⟩ | ⟨z, q⟩
    · cases q
    · obtain ⟨a, ys, g1, g2, g3, g4, g5⟩ := I.so.own j es q
      have ne : a ≠ p := fun y => z (I.so.ap i j xs es p h q e1 (by rw [← y]; exact g1))
      exact ⟨a, ys, g1, g2, by rw [upd_ne ne]; exact g3, g4, g5.up up (Pre.refl _)⟩
  · rcases gt h1 with ⟨_, q1⟩ | ⟨_, q1⟩ <;> rcases gt h2 with ⟨_, q2⟩ | ⟨_, q2⟩ <;> first | cases q1 | cases q2 | exact I.so.ap j k es fs a q1 q2 h3 h4
  · rcases gt h1 with ⟨_, q1⟩ | ⟨_, q1⟩
    · cases q1
    · exact I.nw j es a q1 h2
/-- from a statement to its expression -/
theorem PostF.ofE {α : Type} {m : Rs α} {f : α → List Cell → Fl} (I : StI K F0 H0 r0 Fm rm F H r S sl σ) (h : PostF K XR W F0 H0 r0 Fm rm D (m.fl sl f)) : PostE K XR W F H r σ m fun a S' F' H' r' => Ext F H r F' H' r' ∧ StI K F0 H0 r0 Fm rm F' H' r' S' sl σ ∧ PostF K XR W F0 H0 r0 Fm rm D (f a S') := by
  cases m with
  | ok a S' => exact fun F' H' r' e R => ⟨e, I.ext e R, h⟩
  | exc c x S' => exact fun F' H' r' cls d e R z => h F' H' r' σ cls d (I.ext e R) z
  | stk => exact h
section
variable {a : E} {es : List E} {b : B}
theorem tE.st {f : G.D → List Cell → Fl} {G : V → Hp → Prop} (h : PostF K XR W F0 H0 r0 Fm rm D ((evE C a sl S).fl sl f)) (I : StI K F0 H0 r0 Fm rm F H r S sl σ)
    (k : ∀ x d F' H' r' S', Ext F H r F' H' r' → StI K F0 H0 r0 Fm rm F' H' r' S' sl σ → RpX K a.isB F' H' r' x d → PostF K XR W F0 H0 r0 Fm rm D (f d S') → G x H') : tE K XR W C a σ H G :=
  ⟨F, r, sl, S, I.R, I.so, PostE.imp (PostF.ofE I h) fun d S1 F1 H1 r1 e1 R1 ⟨e1', I1, h1⟩ v hv => k v d F1 H1 r1 S1 e1 I1 hv h1⟩
theorem tEX.st {f : G.D → List Cell → Fl} {G : V → Hp → Prop} (h : PostF K XR W F0 H0 r0 Fm rm D ((evE C a sl S).fl sl f)) (I : StI K F0 H0 r0 Fm rm F H r S sl σ)
    (k : ∀ ds F' H' r' S' p xs, Ext F H r F' H' r' → StI K F0 H0 r0 Fm rm F' H' r' S' sl σ → RpL K F' r' xs ds → Mine F' H' r' p xs → H p = none → PostF K XR W F0 H0 r0 Fm rm D (f (.lst ds) S') → G (.ref p) H')
    (k2 : ∀ d S', (∀ ds, d ≠ .lst ds) → PostF K XR W F0 H0 r0 Fm rm D (f d S') → False) : tEX K XR W C a σ H G :=
  ⟨F, r, sl, S, I.R, I.so, PostE.imp (PostF.ofE I h) fun d S1 F1 H1 r1 e1 R1 ⟨e1', I1, h1⟩ => by
    cases d with
    | lst ds => exact fun p xs t m n => k ds F1 H1 r1 S1 p xs e1 I1 t m n h1
    | _ => exact (k2 _ _ (by intro ds z; cases z) h1).elim⟩
theorem tT.st {f : Bool → List Cell → Fl} {G : Bool → Hp → Prop} (h : PostF K XR W F0 H0 r0 Fm rm D ((evT C b sl S).fl sl f)) (I : StI K F0 H0 r0 Fm rm F H r S sl σ)
    (k : ∀ t F' H' r' S', Ext F H r F' H' r' → StI K F0 H0 r0 Fm rm F' H' r' S' sl σ → PostF K XR W F0 H0 r0 Fm rm D (f t S') → G t H') : tT K XR W C b σ H G :=
  ⟨F, r, sl, S, I.R, I.so, PostE.imp (PostF.ofE I h) fun d S1 F1 H1 r1 e1 R1 ⟨e1', I1, h1⟩ => k d F1 H1 r1 S1 e1 I1 h1⟩
theorem tL.st {w : Bool} {f : List G.D → List Cell → Fl} {G : List V → Hp → Prop} (h : PostF K XR W F0 H0 r0 Fm rm D ((evL C es sl S).fl sl f)) (I : StI K F0 H0 r0 Fm rm F H r S sl σ)
    (k : ∀ xs ds F' H' r' S', Ext F H r F' H' r' → StI K F0 H0 r0 Fm rm F' H' r' S' sl σ → RpXL K w F' H' r' xs ds → PostF K XR W F0 H0 r0 Fm rm D (f ds S') → G xs H') : tL K XR W C w es σ H G :=
  ⟨F, r, sl, S, I.R, I.so, PostE.imp (PostF.ofE I h) fun d S1 F1 H1 r1 e1 R1 ⟨e1', I1, h1⟩ v hv => k v d F1 H1 r1 S1 e1 I1 hv h1⟩
end
end

/-! ### plain statements -/
def isCompX : Expr → Bool
  | .ListComp .. => true
  | .SetComp .. => true
  | .DictComp .. => true
  | _ => false
theorem sw_none {e : Expr} {t : Option Expr} {l : Nat} {env : Env} (h : isCompX e = false) : swapsWith e t l env = pure false := by
  cases e <;> first | rfl | cases h
theorem sw_false {elt : Expr} {gs : List Comprehension} {scope : Scope} {pos py : Pos} {y : Str} {l : Nat} {env : Env}
    (h : (env.scope.names.lookup y == some .local && py.line == pos.line && !(scope.names.any fun (n, k) => n == y && (k == .local || k == .cell))) = false) : swapsWith (.ListComp elt gs scope pos) (some (.Name y py)) l env = pure false := by
  unfold swapsWith
  show (pure (env.blockKind == .function && env.scope.names.lookup y == some .local && py.line == pos.line && !(scope.names.any fun (n, k) => n == y && (k == .local || k == .cell))) : Sem Bool) = _
  have e : (env.blockKind == .function && env.scope.names.lookup y == some .local && py.line == pos.line && !(scope.names.any fun (n, k) => n == y && (k == .local || k == .cell))) = false := by
    cases hb : env.blockKind == .function
    · simp
    · simpa using h
  rw [e]
theorem Rs.fl_bind {α : Type} {m : Rs α} {sl : List Sl} {f : α → List Cell → Fl} : m.fl sl f = m.fl sl f := rfl
mutual
theorem tgSet_own : ∀ {tg : Tg} {d : G.D} {s s' : List Sl} {i : Nat} {ds : List G.D}, tgSet tg d s = some s' → s'[i]? = some (.own ds) → s[i]? = some (.own ds) ∧ i ∉ tgs tg
  | .s j, d, s, s', i, ds, e, h => by
    have e : some (s.set j (.v d)) = some s' := e
    cases e
    by_cases z : j = i
    · subst z
      by_cases hl : j < s.length
      · rw [List.getElem?_set_self hl] at h
        cases h
      · rw [List.getElem?_eq_none (by rw [List.length_set]; omega)] at h
        cases h
    · rw [List.getElem?_set_ne z] at h
      exact ⟨h, fun m => z (List.mem_singleton.mp m).symm⟩
  | .t ts, d, s, s', i, ds, e, h => by
    cases d with
    | tup es => exact tgSetL_own (ts := ts) e h
    | _ => cases e
theorem tgSetL_own : ∀ {ts : List Tg} {es : List G.D} {s s' : List Sl} {i : Nat} {ds : List G.D}, tgSetL ts es s = some s' → s'[i]? = some (.own ds) → s[i]? = some (.own ds) ∧ i ∉ tgsL ts
  | [], [], _, _, i, ds, e, h => by
    cases e
    exact ⟨h, by unfold tgsL; simp⟩
  | [], _ :: _, _, _, _, _, e, _ => by cases e
  | _ :: _, [], _, _, _, _, e, _ => by cases e
  | tg :: ts, d :: es, s, s', i, ds, e, h => by
    have e : (tgSet tg d s).bind (fun sl => tgSetL ts es sl) = some s' := e
    cases e1 : tgSet tg d s with
    | none => rw [e1] at e; cases e
    | some s1 =>
      rw [e1] at e
      obtain ⟨q1, n1⟩ := tgSetL_own (ts := ts) e h
      obtain ⟨q2, n2⟩ := tgSet_own e1 q1
      refine ⟨q2, fun m => ?_⟩
      rcases List.mem_append.mp m with m | m
      · exact n2 m
      · exact n1 m
end
theorem StI.tg {K : Fg} {F0 H0 Fm F H : Hp} {r0 rm r : List Addr} {S : List Cell} {sl sl' : List Sl} {σ σ' : L2.St} {tg : Tg} {d : G.D} (I : StI K F0 H0 r0 Fm rm F H r S sl σ) (e : tgSet tg d sl = some sl') (so : SlOk K F H r σ' sl') (ag : ∀ i, i ∉ tgs tg → σ'[i]? = σ[i]?) : StI K F0 H0 r0 Fm rm F H r S sl' σ' := by
  refine ⟨I.R, so, I.e, fun i ds a h1 h2 => ?_, I.fl, I.pr⟩
  obtain ⟨q1, q2⟩ := tgSet_own e h1
  rw [ag i q2] at h2
  exact I.nw i ds a q1 h2
section
variable {XR : XRel} {CX : CXT} {C : G.Cx} {k : Nat} {c : Ck} {X : L2.Cx} {W : L2.WX} {F0 H0 : Hp} {r0 : List Addr} {pos : Pos} {a b : E} {xa xb tgx : Expr} {i : Nat} {x : Str} {st : Stmt} {sts sts2 : List Stmt} {ts ts2 : List T} {cb : B} {tg : Tg}
theorem s_set (hb : a.isB = false) (h : PS X st (tAsg (tE X.K XR W C a) (gName i))) : PS X st (tS X.K XR W F0 H0 r0 C (.set i a)) := by
  refine ps_imp h fun D σ H ⟨Fm, rm, F, r, sl, S, I, q⟩ => ?_
  unfold evS at q
  refine tE.st q I fun x d F' H' r' S' e I' rx q' => ?_
  rw [hb] at rx
  exact q' F' H' r' _ (I'.set rx)
theorem s_setO (h : PS X st (tAsg (tEX X.K XR W C a) (gName i))) : PS X st (tS X.K XR W F0 H0 r0 C (.setO i a)) := by
  refine ps_imp h fun D σ H ⟨Fm, rm, F, r, sl, S, I, q⟩ => ?_
  unfold evS at q
  refine tEX.st q I (fun ds F' H' r' S' p xs e I' t m n q' => ?_) fun d S' hd q' => ?_
  · refine q' F' H' r' _ (I'.setO (Hb := H) t m (fun j es h1 h2 => ?_) (I.e.free n))
    obtain ⟨a, ys, g1, g2, _⟩ := I.so.own j es h1
    rw [g1] at h2
    cases h2
    rw [n] at g2
    cases g2
  · cases d with
    | lst ds => exact hd ds rfl
    | _ => exact q'
theorem s_unp (hb : a.isB = false) (h : PS X st (tAsg (tE X.K XR W C a) (gTg X.K tg))) : PS X st (tS X.K XR W F0 H0 r0 C (.unp tg a)) := by
  refine ps_imp h fun D σ H ⟨Fm, rm, F, r, sl, S, I, q⟩ => ?_
  unfold evS at q
  refine tE.st q I fun x d F' H' r' S' e I' rx q' => ?_
  rw [hb] at rx
  cases ht : tgSet tg d sl with
  | none => rw [ht] at q'; exact q'.elim
  | some sl' =>
    rw [ht] at q'
    exact ⟨F', r', S', sl, d, sl', I'.R, I'.so, rx, ht, fun σ' so ag => q' F' H' r' σ' (I'.tg ht so ag)⟩
theorem s_exp (h : PS X st (tDrop (tE X.K XR W C a))) : PS X st (tS X.K XR W F0 H0 r0 C (.exp a)) := by
  refine ps_imp h fun D σ H ⟨Fm, rm, F, r, sl, S, I, q⟩ => ?_
  unfold evS at q
  exact tE.st q I fun x d F' H' r' S' e I' rx q' => q' F' H' r' σ I'
theorem s_ret (hb : a.isB = false) (h : PE X xa (tE X.K XR W C a)) : PS X (.Return (some xa) pos) (tS X.K XR W F0 H0 r0 C (.ret a)) := by
  refine ps_imp (ps_ret h) fun D σ H ⟨Fm, rm, F, r, sl, S, I, q⟩ => ?_
  unfold evS at q
  refine tE.st q I fun x d F' H' r' S' e I' rx q' => ?_
  rw [hb] at rx
  exact q' F' H' r' I'.e I'.R x rx
theorem s_ret0 : PS X (.Return none pos) (tS X.K XR W F0 H0 r0 C .ret0) := by
  refine ps_imp ps_retN fun D σ H ⟨Fm, rm, F, r, sl, S, I, q⟩ => ?_
  unfold evS at q
  exact q F H r I.e I.R _ .non
theorem s_brk : PS X (.Break pos) (tS X.K XR W F0 H0 r0 C .brk) := by
  refine ps_imp ps_break fun D σ H ⟨Fm, rm, F, r, sl, S, I, q⟩ => ?_
  unfold evS at q
  exact q F H r σ I
theorem s_cnt : PS X (.Continue pos) (tS X.K XR W F0 H0 r0 C .cnt) := by
  refine ps_imp ps_continue fun D σ H ⟨Fm, rm, F, r, sl, S, I, q⟩ => ?_
  unfold evS at q
  exact q F H r σ I
theorem s_pas : PS X (.Pass pos) (tS X.K XR W F0 H0 r0 C .pas) := by
  refine ps_imp ps_pass fun D σ H ⟨Fm, rm, F, r, sl, S, I, q⟩ => ?_
  unfold evS at q
  exact q F H r σ I
theorem s_if (hc : PT X xa (tT X.K XR W C cb)) (h1 : PSs X sts (tB X.K XR W F0 H0 r0 C ts)) (h2 : PSs X sts2 (tB X.K XR W F0 H0 r0 C ts2)) : PS X (.If xa sts sts2 pos) (tS X.K XR W F0 H0 r0 C (.ife cb ts ts2)) := by
  refine ps_imp (ps_if hc h1 h2) fun D σ H ⟨Fm, rm, F, r, sl, S, I, q⟩ => ?_
  unfold evS at q
  refine tT.st q I fun t F' H' r' S' e I' q' => ?_
  cases t with
  | true => exact ⟨Fm, rm, F', r', sl, S', I', q'⟩
  | false => exact ⟨Fm, rm, F', r', sl, S', I', q'⟩
/-! ### blocks -/
theorem b_nil : PSs X [] (tB X.K XR W F0 H0 r0 C []) := by
  refine pss_imp pss_nil fun D σ H ⟨Fm, rm, F, r, sl, S, I, q⟩ => ?_
  unfold evB at q
  exact q F H r σ I
theorem b_cons {t : T} (h1 : PS X st (tS X.K XR W F0 H0 r0 C t)) (h2 : PSs X sts (tB X.K XR W F0 H0 r0 C ts)) : PSs X (st :: sts) (tB X.K XR W F0 H0 r0 C (t :: ts)) := by
  refine pss_imp (pss_cons h1 h2) fun D σ H ⟨Fm, rm, F, r, sl, S, I, q⟩ => ?_
  unfold evB at q
  refine ⟨Fm, rm, F, r, sl, S, I, ?_⟩
  cases he : evS C t sl S with
  | nx sl' S' =>
    rw [he] at q
    exact fun F' H' r' σ' I' => ⟨Fm, rm, F', r', sl', S', I', q⟩
  | _ =>
    rw [he] at q
    exact q
theorem b_frz (h : PSs X sts (tB X.K XR W F0 H0 r0 C ts)) : PSs X sts (tB X.K XR W F0 H0 r0 C (.frz i :: ts)) := by
  refine pss_imp h fun D σ H ⟨Fm, rm, F, r, sl, S, I, q⟩ => ?_
  unfold evB evS at q
  cases hs : sl[i]? with
  | none => rw [hs] at q; exact q.elim
  | some y =>
    rw [hs] at q
    cases y with
    | nil => exact q.elim
    | v d => exact ⟨Fm, rm, F, r, sl, S, I, q⟩
    | own xs =>
      obtain ⟨F', I'⟩ := I.frz hs
      exact ⟨Fm, rm, F', r, _, S, I', q⟩
/-! ### loops -/
theorem s_while (hp : PassesOwn (model X.prog X.w) X.A X.env X.xe) (hc : PT X xa (tT X.K XR W C cb)) (hb : PSs X sts (tB X.K XR W F0 H0 r0 C ts)) : PS X (.While xa sts [] pos) (tS X.K XR W F0 H0 r0 C (.whl cb ts)) := by
  refine ps_imp (ps_while hp hc hb) fun D σ H ⟨Fm, rm, F, r, sl, S, I, q⟩ => ?_
  unfold evS at q
  refine ⟨fun n σ H => ∃ F r sl S, StI X.K F0 H0 r0 Fm rm F H r S sl σ ∧ PostF X.K XR W F0 H0 r0 Fm rm D (whlL (fun sl S => evT C cb sl S) (fun sl S => evB C ts sl S) n sl S), ⟨_, F, r, sl, S, I, q⟩, ?_⟩
  rintro n σ H ⟨F, r, sl, S, I, q⟩
  cases n with
  | zero => exact q.elim
  | succ n =>
    unfold whlL at q
    refine tT.st q I fun t F' H' r' S' e I' q' => ?_
    cases t with
    | false => exact q' F' H' r' σ I'
    | true =>
      rw [if_pos rfl] at q' ⊢
      refine ⟨fun σ H => ∃ F r sl S, StI X.K F0 H0 r0 Fm rm F H r S sl σ ∧ PostF X.K XR W F0 H0 r0 Fm rm D (whlL (fun sl S => evT C cb sl S) (fun sl S => evB C ts sl S) n sl S), fun σ' H' p => ⟨n, Nat.lt_succ_self n, p⟩, Fm, rm, F', r', sl, S', I', ?_⟩
      cases he : evB C ts sl S' with
      | nx sl' S2 =>
        rw [he] at q'
        exact fun F2 H2 r2 σ2 I2 => ⟨F2, r2, sl', S2, I2, q'⟩
      | cnt sl' S2 =>
        rw [he] at q'
        exact fun F2 H2 r2 σ2 I2 => ⟨F2, r2, sl', S2, I2, q'⟩
      | _ =>
        rw [he] at q'
        exact q'
theorem s_for {it : I} (hp : PassesOwn (model X.prog X.w) X.A X.env X.xe) (hc : X.calm = true) (hi : PI X tgx xa (tIt X.K XR W C false it)) (hg : PG X tgx (gTg X.K tg)) (hb : PSs X sts (tB X.K XR W F0 H0 r0 C ts)) (hs : isSetX xa = false) :
    PS X (.For tgx xa sts [] pos) (tS X.K XR W F0 H0 r0 C (.for_ tg it ts)) := by
  refine ps_imp (ps_for hp hc hi hg hb (set_folded hs)) fun D σ H ⟨Fm, rm, F, r, sl, S, I, q⟩ => ?_
  unfold evS at q
  generalize hf : (fun d sl S => match tgSet tg d sl with
    | some sl => evB C ts sl S
    | none => .stk : G.D → List Sl → List Cell → Fl) = f at q
  refine ⟨F, r, sl, S, I.R, I.so, PostE.imp (PostF.ofE I q) fun ds S1 F1 H1 r1 e1 R1 ⟨e1', I1, h1⟩ J wk => ?_⟩
  refine ⟨fun i m σ H => m = ds.length - i ∧ i ≤ ds.length ∧ ∃ F2 r2 sl2 S2, StI X.K F0 H0 r0 Fm rm F2 H r2 S2 sl2 σ ∧ UpW F1 r1 F2 H r2 ∧ PostF X.K XR W F0 H0 r0 Fm rm D (forL f (ds.drop i) sl2 S2),
    ⟨ds.length, by simp, Nat.zero_le _, F1, r1, sl, S1, I1, ⟨fun _ _ h => h, Pre.refl _⟩, h1⟩, ?_⟩
  rintro i m σ2 H2 ⟨rfl, hi, F2, r2, sl2, S2, I2, u2, h2⟩
  by_cases hlt : i < ds.length
  · have hd : ds.drop i = ds[i] :: ds.drop (i + 1) := List.drop_eq_getElem_cons hlt
    rw [hd] at h2
    unfold forL at h2
    refine .inr ⟨wk.go i F2 H2 r2 S2 u2 I2.R hlt, fun σ H => i + 1 ≤ ds.length ∧ ∃ F2 r2 sl2 S2, StI X.K F0 H0 r0 Fm rm F2 H r2 S2 sl2 σ ∧ UpW F1 r1 F2 H r2 ∧ PostF X.K XR W F0 H0 r0 Fm rm D (forL f (ds.drop (i + 1)) sl2 S2),
      fun σ' H' p => ⟨ds.length - (i + 1), by omega, rfl, p⟩, fun x H' hy => ?_⟩
    obtain ⟨F3, e3, R3, rx⟩ := wk.yl i ds[i] F2 H2 r2 S2 x H' u2 I2.R (List.getElem?_eq_getElem hlt) hy
    have I3 := I2.ext e3 R3
    have hfd : f ds[i] sl2 S2 = match tgSet tg ds[i] sl2 with
      | some sl => evB C ts sl S2
      | none => .stk := by rw [← hf]
    cases ht : tgSet tg ds[i] sl2 with
    | none =>
      rw [hfd, ht] at h2
      exact h2.elim
    | some sl3 =>
      rw [hfd, ht] at h2
      dsimp only at h2
      refine ⟨F3, r2, S2, sl2, ds[i], sl3, R3, I3.so, rx, ht, fun σ3 so3 ag => ?_⟩
      have I4 := I3.tg ht so3 ag
      have I5 : StI X.K F0 H0 r0 F3 r2 F3 H' r2 S2 sl3 σ3 := ⟨I4.R, I4.so, I4.e, I4.nw, fun _ _ h => h, Pre.refl _⟩
      have fin : ∀ {F H : Hp} {r : List Addr} {S : List Cell} {sl : List Sl} {σ : L2.St}, StI X.K F0 H0 r0 F3 r2 F H r S sl σ → StI X.K F0 H0 r0 Fm rm F H r S sl σ ∧ UpW F1 r1 F H r := fun {F H r S sl σ} J =>
        ⟨⟨J.R, J.so, J.e, J.nw, fun a o h => J.fl a o (I4.fl a o h), I4.pr.trans J.pr⟩, fun a o h => J.fl a o (e3.f a o (u2.1 a o h)), u2.2.trans J.pr⟩
      refine ⟨F3, r2, F3, r2, sl3, S2, I5, ?_⟩
      cases he : evB C ts sl3 S2 with
      | nx sl' S' =>
        rw [he] at h2
        exact fun F' H' r' σ' J => ⟨hlt, F', r', sl', S', (fin J).1, (fin J).2, h2⟩
      | cnt sl' S' =>
        rw [he] at h2
        exact fun F' H' r' σ' J => ⟨hlt, F', r', sl', S', (fin J).1, (fin J).2, h2⟩
      | brk sl' S' =>
        rw [he] at h2
        exact fun F' H' r' σ' J => h2 F' H' r' σ' (fin J).1
      | ret d S' =>
        rw [he] at h2
        exact h2
      | exc c x sl' S' =>
        rw [he] at h2
        exact fun F' H' r' σ' cls d J => h2 F' H' r' σ' cls d (fin J).1
      | stk =>
        rw [he] at h2
        exact h2
  · have e : i = ds.length := by omega
    subst e
    refine .inl ⟨wk.st F2 H2 r2 S2 u2 I2.R, ?_⟩
    rw [List.drop_length] at h2
    unfold forL at h2
    exact h2 F2 H2 r2 σ2 I2
end
end G
end S_GSt
section S_GSt2
set_option linter.all false
set_option maxRecDepth 100000
set_option maxHeartbeats 2000000
/-! GSt2: statements that change a list; the checker of statements. -/
namespace G
open PySem PySem.Spec PyProof.Rows L2

section
variable {K : Fg} {F0 H0 Fm F H F' H' : Hp} {r0 rm r r' : List Addr} {S S' : List Cell} {sl sl' : List Sl} {σ σ' : L2.St}
/-- an own list changed -/
theorem StI.putO {i : Nat} {p : Addr} {vs : List V} {xs ys : List G.D} (I : StI K F0 H0 r0 Fm rm F H r S sl σ) (h : sl[i]? = some (.own xs)) (hp : σ[i]? = some (some (.ref p))) (t : RpL K F r vs ys) : StI K F0 H0 r0 Fm rm F (upd H p (.lst vs)) r S (sl.set i (.own ys)) σ := by
  obtain ⟨p', us, e1, e2, e3, e4, e5⟩ := I.so.own i xs h
  rw [hp] at e1
  cases e1
  have gt : ∀ {j : Nat} {x : Sl}, (sl.set i (.own ys))[j]? = some x → (i = j ∧ x = .own ys) ∨ (i ≠ j ∧ sl[j]? = some x) := fun {j x} h => by
    by_cases z : i = j
    · subst z
      by_cases hl : i < sl.length
      · rw [List.getElem?_set_self hl] at h
        cases h
        exact .inl ⟨rfl, rfl⟩
      · rw [List.getElem?_eq_none (by rw [List.length_set]; omega)] at h
        cases h
    · rw [List.getElem?_set_ne z] at h
      exact .inr ⟨z, h⟩
  have ow : ∀ {j : Nat} {ds : List G.D}, (sl.set i (.own ys))[j]? = some (.own ds) → ∃ es, sl[j]? = some (.own es) := fun {j ds} hj => by
    rcases gt hj with ⟨rfl, _⟩ | ⟨_, q⟩
    · exact ⟨xs, h⟩
    · exact ⟨ds, q⟩
  refine ⟨I.R.put e3 e4, ⟨by rw [List.length_set, I.so.len], fun j d hj => ?_, fun j ds hj => ?_, fun j k ds es a h1 h2 h3 h4 => ?_⟩, I.e.own (I.nw i xs p h hp), fun j ds a h1 h2 => ?_, I.fl, I.pr⟩
  · rcases gt hj with ⟨_, q⟩ | ⟨_, q⟩
    · cases q
    · exact I.so.v j d q
  · rcases gt hj with ⟨rfl, q⟩ | ⟨z, q⟩
    · cases q
      exact ⟨p, vs, hp, upd_same, e3, e4, t⟩
    · obtain ⟨a, ws, g1, g2, g3, g4, g5⟩ := I.so.own j ds q
      have ne : a ≠ p := fun y => z (I.so.ap i j xs ds p h q hp (by rw [← y]; exact g1))
      exact ⟨a, ws, g1, by rw [upd_ne ne]; exact g2, g3, g4, g5⟩
  · obtain ⟨es1, q1⟩ := ow h1
    obtain ⟨es2, q2⟩ := ow h2
    exact I.so.ap j k es1 es2 a q1 q2 h3 h4
  · obtain ⟨es1, q1⟩ := ow h1
    exact I.nw j es1 a q1 h2
/-- a cell changed -/
theorem StI.putC {n : Nat} {p : Addr} {vs : List V} {ys : List G.D} (I : StI K F0 H0 r0 Fm rm F H r S sl σ) (hp : r[n]? = some p) (t : RpL K F r vs ys) : StI K F0 H0 r0 Fm rm F (upd H p (.lst vs)) r (S.set n (.lst ys)) sl σ := by
  have nf := I.R.nf n p hp
  refine ⟨⟨fun a o h => ?_, by rw [List.length_set, I.R.len], I.R.inj, I.R.nf, fun i a c h1 h2 => ?_⟩, ⟨I.so.len, I.so.v, fun j ds h => ?_, I.so.ap⟩, ?_, I.nw, I.fl, I.pr⟩
  · rw [upd_ne fun z => by rw [z, nf] at h; cases h]
    exact I.R.sub a o h
  · by_cases z : n = i
    · subst z
      rw [hp] at h1
      cases h1
      by_cases hl : n < S.length
      · rw [List.getElem?_set_self hl] at h2
        cases h2
        exact ⟨vs, upd_same, t⟩
      · rw [List.getElem?_eq_none (by rw [List.length_set]; omega)] at h2
        cases h2
    · rw [List.getElem?_set_ne z] at h2
      have ne : a ≠ p := fun y => z (I.R.inj n i p hp (by rw [← y]; exact h1))
      have k := I.R.cell i a c h1 h2
      cases c with
      | lst ds =>
        obtain ⟨xs, g1, g2⟩ := k
        exact ⟨xs, by rw [upd_ne ne]; exact g1, g2⟩
      | dead =>
        obtain ⟨o, g1⟩ := k
        exact ⟨o, by rw [upd_ne ne]; exact g1⟩
  · obtain ⟨a, ws, g1, g2, g3, g4, g5⟩ := I.so.own j ds h
    have ne : a ≠ p := fun y => g4 (by rw [y]; exact mem_r hp)
    exact ⟨a, ws, g1, by rw [upd_ne ne]; exact g2, g3, g4, g5⟩
  · obtain ⟨t', rt, nt⟩ := I.e.p
    have old : ∀ o, H0 p = some o → p ∈ r0 := fun o ho => by
      have m := mem_r hp
      rw [rt] at m
      rcases List.mem_append.mp m with m | m
      · exact m
      · rw [nt p m] at ho
        cases ho
    refine ⟨I.e.f, I.e.fn, fun a o h hr => ?_, fun a o h => ?_, I.e.p⟩
    · rw [upd_ne fun z => hr (by rw [z]; rw [z] at h; exact old o h)]
      exact I.e.h a o h hr
    · by_cases z : a = p
      · subst z
        exact ⟨_, upd_same⟩
      · rw [upd_ne z]
        exact I.e.t a o h
end
/-- where a list stands that may be changed -/
structure AtL (K : Fg) (F H : Hp) (r : List Addr) (S : List Cell) (sl : List Sl) (σ : L2.St) (i : Nat) (p : Addr) (vs : List V) (xs : List D) : Prop where
  h : H p = some (.lst vs)
  t : RpL K F r vs xs
  w : (sl[i]? = some (.own xs) ∧ σ[i]? = some (some (.ref p))) ∨ (∃ n, sl[i]? = some (.v (.loc n)) ∧ r[n]? = some p ∧ S[n]? = some (.lst xs) ∧ σ[i]? = some (some (.ref p)))
section
variable {K : Fg} {XR : XRel} {W : L2.WX} {F0 H0 Fm F H F' H' : Hp} {r0 rm r r' : List Addr} {S S' : List Cell} {sl sl' : List Sl} {σ σ' : L2.St} {i : Nat} {C : G.Cx} {D : Ends}
theorem lst_at (I : StI K F0 H0 r0 Fm rm F H r S sl σ) (h : lstAt (.b i) sl S = true) : ∃ p vs xs, AtL K F H r S sl σ i p vs xs := by
  unfold lstAt at h
  cases hs : sl[i]? with
  | none => simp only [hs] at h; cases h
  | some y =>
    simp only [hs] at h
    cases y with
    | nil => cases h
    | own xs =>
      obtain ⟨p, vs, e1, e2, e3, e4, e5⟩ := I.so.own i xs hs
      exact ⟨p, vs, xs, e2, e5, .inl ⟨hs, e1⟩⟩
    | v d =>
      cases d with
      | loc n =>
        simp only at h
        cases hc : S[n]? with
        | none => simp only [hc] at h; cases h
        | some c =>
          simp only [hc] at h
          cases c with
          | dead => cases h
          | lst xs =>
            obtain ⟨x, e1, e2⟩ := I.so.v i _ hs
            cases e2 with
            | @loc _ p q =>
              obtain ⟨vs, g1, g2⟩ := I.R.cell n p _ q hc
              exact ⟨p, vs, xs, g1, g2, .inr ⟨n, hs, q, hc, e1⟩⟩
      | _ => cases h
/-- what a change comes to -/
theorem chg_at {f : List G.D → Option (List G.D)} (I : StI K F0 H0 r0 Fm rm F H r S sl σ) (q : PostF K XR W F0 H0 r0 Fm rm D (chg (.b i) f C sl S)) : ∃ p vs xs ys, AtL K F H r S sl σ i p vs xs ∧ f xs = some ys ∧ ∀ us, RpL K F r us ys → D.nx σ (upd H p (.lst us)) := by
  unfold chg at q
  cases hs : sl[i]? with
  | none => simp only [hs] at q; exact q.elim
  | some y =>
    simp only [hs] at q
    cases y with
    | nil => exact q.elim
    | own xs =>
      obtain ⟨p, vs, e1, e2, e3, e4, e5⟩ := I.so.own i xs hs
      simp only at q
      cases hf : f xs with
      | none => simp only [hf] at q; exact q.elim
      | some ys =>
        simp only [hf] at q
        exact ⟨p, vs, xs, ys, ⟨e2, e5, .inl ⟨hs, e1⟩⟩, hf, fun us t => q _ _ _ _ (I.putO hs e1 t)⟩
    | v d =>
      cases d with
      | loc n =>
        simp only at q
        cases hc : S[n]? with
        | none => simp only [hc] at q; exact q.elim
        | some c =>
          simp only [hc] at q
          cases c with
          | dead => exact q.elim
          | lst xs =>
            obtain ⟨x, e1, e2⟩ := I.so.v i _ hs
            cases e2 with
            | @loc _ p qr =>
              obtain ⟨vs, g1, g2⟩ := I.R.cell n p _ qr hc
              simp only at q
              cases hf : f xs with
              | none => simp only [hf] at q; exact q.elim
              | some ys =>
                simp only [hf] at q
                exact ⟨p, vs, xs, ys, ⟨g1, g2, .inr ⟨n, hs, qr, hc, e1⟩⟩, hf, fun us t => q _ _ _ _ (I.putC qr t)⟩
      | _ => exact q.elim
theorem AtL.s {p p' : Addr} {vs vs' : List V} {xs xs' : List G.D} {F' H' : Hp} {r' : List Addr} {S' : List Cell} (a : AtL K F H r S sl σ i p vs xs) (b : AtL K F' H' r' S' sl σ i p' vs' xs') : p' = p := by
  have e1 : σ[i]? = some (some (.ref p)) := by rcases a.w with ⟨_, e⟩ | ⟨_, _, _, _, e⟩ <;> exact e
  have e2 : σ[i]? = some (some (.ref p')) := by rcases b.w with ⟨_, e⟩ | ⟨_, _, _, _, e⟩ <;> exact e
  rw [e1] at e2
  cases e2
  rfl
theorem AtL.slt {p : Addr} {vs : List V} {xs : List G.D} (a : AtL K F H r S sl σ i p vs xs) : σ[i]? = some (some (.ref p)) := by rcases a.w with ⟨_, e⟩ | ⟨_, _, _, _, e⟩ <;> exact e
end
def appS : Str := "append"
def extS : Str := "extend"
section
variable {XR : XRel} {C : G.Cx} {X : L2.Cx} {W : L2.WX} {F0 H0 : Hp} {r0 : List Addr} {p pos ap cp p2 : Pos} {a b : E} {xa xb : Expr} {i : Nat} {x : Str}
theorem sole {t v : Expr} {l : Nat} {env : Env} : swapsWithSole [t] v l env = swapsWith v (some t) l env := rfl
theorem s_app (hN : X.N[i]? = some x) (hv : Vis X.env.scope x) (hd : (x == ("__debug__" : Str)) = false) (hcd : (x == ("__classdict__" : Str)) = false) (hy : noStar xa = true) (hl : (ap.endLine == cp.line) = true) (hb : a.isB = false) (ha : PE X xa (tE X.K XR W C a)) :
    PS X (.Expr (.Call (.Attribute (.Name x p) appS ap) [xa] [] cp) pos) (tS X.K XR W F0 H0 r0 C (.app (.b i) a)) := by
  have ho : PE X (.Name x p) (tVar i) := pe_var hN hv hd hcd
  have hA : PA X [xa] (tCons (tE X.K XR W C a) tNil) := pa_cons ha pa_nil (star_cons hy)
  refine ps_imp (ps_expr (pe_bm PySem.F.plainAttrs_list PySem.F.slot_list_append PySem.F.type_list_append mt_append ho hA rfl (few_ok (by rw [List.all_cons, hy]; rfl) (by show 1 < 30; decide)) hl (star_cons hy) rfl) rfl) fun D σ H ⟨Fm, rm, F, r, sl, S, I, q⟩ => ?_
  unfold evS at q
  by_cases hat : lstAt (.b i) sl S = true
  · rw [if_pos hat] at q
    obtain ⟨p1, vs1, xs1, A1⟩ := lst_at I hat
    refine ⟨.ref p1, A1.slt, .inl ⟨rfl, vs1, SqL.of A1.h⟩, tE.st q I fun y d F' H' r' S' e I' ry q' => ?_⟩
    rw [hb] at ry
    by_cases hp : d.pur = true
    · rw [if_pos hp] at q'
      obtain ⟨p2, vs, xs, ys, A2, hf, fin⟩ := chg_at I' q'
      have e := A1.s A2
      subst e
      by_cases hn : xs.length < lim
      · rw [if_pos hn] at hf
        cases hf
        exact ⟨p2, vs, y, rfl, rfl, A2.h, by rw [A2.t.len, ← lim_eq]; exact hn, fin _ (A2.t.app (.one ry hp))⟩
      · rw [if_neg hn] at hf
        cases hf
    · rw [if_neg hp] at q'
      exact q'.elim
  · rw [if_neg hat] at q
    exact q.elim
theorem s_ext (hN : X.N[i]? = some x) (hv : Vis X.env.scope x) (hd : (x == ("__debug__" : Str)) = false) (hcd : (x == ("__classdict__" : Str)) = false) (hy : noStar xa = true) (hl : (ap.endLine == cp.line) = true) (ha : PE X xa (tEX X.K XR W C a)) :
    PS X (.Expr (.Call (.Attribute (.Name x p) extS ap) [xa] [] cp) pos) (tS X.K XR W F0 H0 r0 C (.ext (.b i) a)) := by
  have ho : PE X (.Name x p) (tVar i) := pe_var hN hv hd hcd
  have hA : PA X [xa] (tCons (tEX X.K XR W C a) tNil) := pa_cons ha pa_nil (star_cons hy)
  refine ps_imp (ps_expr (pe_bm PySem.F.plainAttrs_list PySem.F.slot_list_extend PySem.F.type_list_extend mt_extend ho hA rfl (few_ok (by rw [List.all_cons, hy]; rfl) (by show 1 < 30; decide)) hl (star_cons hy) rfl) rfl) fun D σ H ⟨Fm, rm, F, r, sl, S, I, q⟩ => ?_
  unfold evS at q
  by_cases hat : lstAt (.b i) sl S = true
  · rw [if_pos hat] at q
    obtain ⟨p1, vs1, xs1, A1⟩ := lst_at I hat
    refine ⟨.ref p1, A1.slt, .inl ⟨rfl, vs1, SqL.of A1.h⟩, tEX.st q I (fun ds F' H' r' S' p us e I' t m n q' => ?_) fun d S' hd q' => ?_⟩
    · obtain ⟨p2, vs, xs, ys, A2, hf, fin⟩ := chg_at I' q'
      have e := A1.s A2
      subst e
      by_cases hn : xs.length + ds.length ≤ lim
      · rw [if_pos hn] at hf
        cases hf
        exact ⟨p2, p, vs, us, rfl, rfl, A2.h, m.h, by rw [A2.t.len, t.len, ← lim_eq]; exact hn, fin _ (A2.t.app t)⟩
      · rw [if_neg hn] at hf
        cases hf
    · cases d with
      | lst ds => exact hd ds rfl
      | _ => exact q'
  · rw [if_neg hat] at q
    exact q.elim
theorem s_sub (hN : X.N[i]? = some x) (hv : Vis X.env.scope x) (hd : (x == ("__debug__" : Str)) = false) (hcd : (x == ("__classdict__" : Str)) = false) (hb : a.isB = false) (hc : b.isB = false) (hs : isCompX xa = false) (hsl : isSliceX xb = false) (hb : a.isB = false) (ha : PE X xa (tE X.K XR W C a)) (hi : PE X xb (tE X.K XR W C b)) :
    PS X (.Assign [.Subscript (.Name x p) xb p2] xa pos) (tS X.K XR W F0 H0 r0 C (.sub (.b i) b a)) := by
  have ho : PE X (.Name x p) (tVar i) := pe_var hN hv hd hcd
  have hg : PG X (.Subscript (.Name x p) xb p2) (gSub (tVar i) (tE X.K XR W C b) rSetL) := pg_sub ho hi set_list (fun v => by cases xb <;> first | rfl | cases hsl)
  refine ps_imp (ps_asg ha hg (by rw [sole]; exact sw_none hs) (by cases xa <;> rfl) rfl) fun D σ H ⟨Fm, rm, F, r, sl, S, I, q⟩ => ?_
  unfold evS at q
  refine tE.st q I fun y d F' H' r' S' e I' ry q' => ?_
  rw [hb] at ry
  by_cases hat : lstAt (.b i) sl S' = true
  · rw [if_pos hat] at q'
    obtain ⟨p1, vs1, xs1, A1⟩ := lst_at I' hat
    refine ⟨.ref p1, A1.slt, tE.st q' I' fun j dj F2 H2 r2 S2 e2 I2 rj q2 => ?_⟩
    cases dj with
    | int j' =>
      have ej : j = .int j' := by
        rcases rj.b with g | g
        exact Rp.toInt g
      subst ej
      by_cases hp : d.pur = true
      · simp only [hp, if_true] at q2
        obtain ⟨p2, vs, xs, ys, A2, hf, fin⟩ := chg_at I2 q2
        have e := A1.s A2
        subst e
        cases hk : ixN xs.length j' with
        | none => rw [hk] at hf; cases hf
        | some k =>
          rw [hk] at hf
          cases hf
          exact ⟨p2, vs, j', k, rfl, rfl, A2.h, by rw [A2.t.len]; exact hk, fin _ (A2.t.set (ry.up e2.f e2.pre) hp k)⟩
      · simp only [hp, if_false] at q2
        exact q2.elim
    | _ => exact q2.elim
  · rw [if_neg hat] at q'
    exact q'.elim
def ipA (o : Op2) : TIp := fun x y H Q => ∃ i j z, x = .int i ∧ y = .int j ∧ pAug o (.int i) (.int j) = some (.int z) ∧ Q (.int z) H
theorem ip_aug (o : Op2) : PIp X (opM o) (ipA o) := by
  intro pins s σ H x y v u Q I r1 r2 h
  obtain ⟨i, j, z, e1, e2, hz, q⟩ := h
  subst e1; subst e2
  obtain ⟨t, rfl⟩ := r1
  obtain ⟨t', rfl⟩ := r2
  cases o with
  | add =>
    cases hz
    exact iadd_int ⟨.int _, H, I.tok _, ⟨_, rfl⟩, q⟩
  | sub =>
    cases hz
    exact isub_int ⟨.int _, H, I.tok _, ⟨_, rfl⟩, q⟩
  | mul =>
    have hz : (if (smallI i || smallI j) = true then some (D.int (i * j)) else none) = some (.int z) := hz
    by_cases hs : (smallI i || smallI j) = true
    · rw [if_pos hs] at hz
      cases hz
      refine imul_int ⟨.int _, H, I.tok _, ⟨_, rfl⟩, q⟩ ?_
      rw [Bool.or_eq_true] at hs
      rcases hs with hs | hs
      · simp only [smallI, Bool.and_eq_true, decide_eq_true_eq] at hs
        exact .of_left (intBits_le_64 hs.1 hs.2)
      · simp only [smallI, Bool.and_eq_true, decide_eq_true_eq] at hs
        exact .of_right (intBits_le_64 hs.1 hs.2)
    · rw [if_neg hs] at hz
      cases hz
  | _ => cases hz
theorem s_aug {o : Op2} (hN : X.N.Nodup) (hi : X.N[i]? = some x) (hx : Loc X.env.scope x) (hf : X.fn x = true ∨ X.env.scope.names.lookup x = some .local) (hb : a.isB = false) (ha : PE X xa (tE X.K XR W C a)) : PS X (.AugAssign (.Name x p) (opM o) xa pos) (tS X.K XR W F0 H0 r0 C (.aug i o a)) := by
  refine ps_imp (ps_aug hN hi hx ha (ip_aug o) hf) fun D σ H ⟨Fm, rm, F, r, sl, S, I, q⟩ => ?_
  unfold evS at q
  cases hs : sl[i]? with
  | none => rw [hs] at q; exact q.elim
  | some y =>
    rw [hs] at q
    cases y with
    | nil => exact q.elim
    | own _ => exact q.elim
    | v d =>
      obtain ⟨v, e1, e2⟩ := I.so.v i d hs
      refine ⟨v, e1, tE.st q I fun y d2 F' H' r' S' e I' ry q' => ?_⟩
      rw [hb] at ry
      cases hz : pAug o d d2 with
      | none => rw [hz] at q'; exact q'.elim
      | some z =>
        rw [hz] at q'
        have key : ∃ i j k, d = .int i ∧ d2 = .int j ∧ z = .int k := by
          unfold pAug at hz
          split at hz
          · cases hz
            exact ⟨_, _, _, rfl, rfl, rfl⟩
          · cases hz
            exact ⟨_, _, _, rfl, rfl, rfl⟩
          · split at hz
            · cases hz
              exact ⟨_, _, _, rfl, rfl, rfl⟩
            · cases hz
          · cases hz
        obtain ⟨i1, j1, k1, rfl, rfl, rfl⟩ := key
        cases Rp.toInt e2
        have ry : Rp X.K F' r' y (.int j1) := ry
        cases Rp.toInt ry
        exact ⟨i1, j1, k1, rfl, rfl, hz, q' F' H' r' _ (I'.set (.int k1))⟩
end
end G
end S_GSt2
section S_GSt3
set_option linter.all false
set_option maxRecDepth 100000
set_option maxHeartbeats 4000000
/-! GSt3: the checker of statements and its soundness. -/
namespace G
open PySem PySem.Spec PyProof.Rows L2

def isTupX : Expr → Bool
  | .Tuple .. => true
  | _ => false
mutual
def chkS (c : Ck) : T → Stmt → Bool
  | .set i e, s => match s with
    | .Assign [.Name x _] v _ => c.put i x && !e.isB && chkE c e v
    | _ => false
  | .setO i e, s => match s with
    | .Assign [.Name x _] v _ => c.put i x && e.fresh && chkE c e v
    | _ => false
  | .unp tg e, s => match s with
    | .Assign [t] v _ => isTupX t && chkTg c tg t && !isTupX v && !e.isB && chkE c e v
    | _ => false
  | .frz _, _ => false
  | .app o e, s => match o with
    | .b i => (match s with
      | .Expr (.Call (.Attribute (.Name x _) at_ ap) [y] [] cp) _ => decide (at_ = appS) && c.slot i x && noStar y && (ap.endLine == cp.line) && !e.isB && chkE c e y
      | _ => false)
    | _ => false
  | .ext o e, s => match o with
    | .b i => (match s with
      | .Expr (.Call (.Attribute (.Name x _) at_ ap) [y] [] cp) _ => decide (at_ = extS) && c.slot i x && noStar y && (ap.endLine == cp.line) && e.fresh && chkE c e y
      | _ => false)
    | _ => false
  | .sub o j e, s => match o with
    | .b i => (match s with
      | .Assign [.Subscript (.Name x _) y _] v _ => c.slot i x && !isCompX v && !isSliceX y && !e.isB && !j.isB && chkE c e v && chkE c j y
      | _ => false)
    | _ => false
  | .aug i o e, s => match s with
    | .AugAssign (.Name x _) op v _ => c.put i x && decide (op = opM o) && !e.isB && chkE c e v
    | _ => false
  | .exp e, s => match s with
    | .Expr v _ => !isCompX v && chkE c e v
    | _ => false
  | .ife b ts us, s => match s with
    | .If t xs ys _ => chkT c b t && chkB c ts xs && chkB c us ys
    | _ => false
  | .for_ tg it ts, s => match s with
    | .For t i xs [] _ => chkTg c tg t && chkI c false it i && !isSetX i && chkB c ts xs
    | _ => false
  | .whl b ts, s => match s with
    | .While t xs [] _ => chkT c b t && chkB c ts xs
    | _ => false
  | .ret e, s => match s with
    | .Return (some v) _ => !e.isB && chkE c e v
    | _ => false
  | .ret0, s => match s with
    | .Return none _ => true
    | _ => false
  | .cnt, s => match s with
    | .Continue _ => true
    | _ => false
  | .brk, s => match s with
    | .Break _ => true
    | _ => false
  | .pas, s => match s with
    | .Pass _ => true
    | _ => false
def chkB (c : Ck) : List T → List Stmt → Bool
  | [], ss => ss.isEmpty
  | t :: ts, ss => match t with
    | .frz _ => chkB c ts ss
    | _ => match ss with
      | s :: ss => chkS c t s && chkB c ts ss
      | [] => false
end
section
variable {XR : XRel} {CX : CXT} {C : G.Cx} {k : Nat} {c : Ck} {X : L2.Cx} {W : L2.WX} {F0 H0 : Hp} {r0 : List Addr}
theorem ps_weak {st : Stmt} {te te' : TE} {g : TG} (h : PS X st (tAsg te g)) (k : ∀ σ H Q, te' σ H Q → te σ H Q) : PS X st (tAsg te' g) := ps_imp h fun D σ H q => k _ _ _ q
theorem s_asg {e : E} {v : Expr} {i : Nat} {x : Str} {py pos : Pos} (g : Gd XR CX C k c X W) (hp : c.put i x = true) (h : chkE c e v = true) :
    (e.isB = false → PS X (.Assign [.Name x py] v pos) (tAsg (tE X.K XR W C e) (gName i))) ∧ (e.fresh = true → PS X (.Assign [.Name x py] v pos) (tAsg (tEX X.K XR W C e) (gName i))) := by
  obtain ⟨h1, h2, h3⟩ := g.put hp
  have nd : X.N.Nodup := g.N ▸ g.nd
  obtain ⟨q1, q2⟩ := sE (XR := XR) (CX := CX) (C := C) (k := k) e v h g
  by_cases hc : isCompX v = false
  · exact ⟨fun _ => ps_set nd h1 h2 q1 (sw_none hc) h3, fun z => ps_set nd h1 h2 (q2 z) (sw_none hc) h3⟩
  · cases v with
    | ListComp elt gs scope vp =>
      cases hsw : (X.env.scope.names.lookup x == some .local && py.line == vp.line && !(scope.names.any fun (n, k) => n == x && (k == .local || k == .cell))) with
      | false => exact ⟨fun _ => ps_set nd h1 h2 q1 (sw_false hsw) h3, fun z => ps_set nd h1 h2 (q2 z) (sw_false hsw) h3⟩
      | true =>
        simp only [Bool.and_eq_true, beq_iff_eq] at hsw
        obtain ⟨⟨w1, w2⟩, w3⟩ := hsw
        cases e with
        | comp tg it el cond =>
          unfold chkE at h
          split at h
          · rename_i e' t i' ifs sc pos' heq
            cases heq
            simp only [Bool.and_eq_true] at h
            obtain ⟨⟨⟨⟨⟨⟨u1, u2⟩, u3⟩, u4⟩, u5⟩, u6⟩, u7⟩ := h
            have ok : BlkOk X.N X.env.scope scope (ownOf c.N tg) := by
              rw [g.N, g.sc]
              exact blkOk_by u1
            have kf : X.env.scope.kind = .function ∨ X.env.scope.kind ≠ .function := Decidable.em _
            have main : PS X (.Assign [.Name x py] (.ListComp elt [⟨t, i', ifs, 0⟩] scope vp) pos) (tAsg (tEX X.K XR W C (.comp tg it el cond)) (gName i)) := by
              refine ⟨fun pins s σ H D I q => ?_⟩
              have hk : X.env.scope.kind = .function := I.ok.kind
              have hsw := sw_true (elt := elt) (gs := [⟨t, i', ifs, 0⟩]) (scope := scope) (pos := vp) (py := py) (y := x) (l := pos.line) (env := X.env) hk w1 (by simpa using w2) (by simpa using w3)
              exact (ps_weak (ps_setLc (own := ownOf c.N tg) (wi := tIt X.K XR W C true it) (g := gTg X.K tg) (tt := tCs X.K XR W0 C cond) (te := tE X.K XR W0 C el) g.calm nd h1 w1 hsw (sI true it t i' u4 g) ok (fun s H Ca cl fp => sTg tg t u2 (g.blk s H scope Ca cl fp)) (fun s H Ca cl fp => sCs cond ifs u7 (g.blk s H scope Ca cl fp)) (fun s H Ca cl fp => (sE el elt u6 (g.blk s H scope Ca cl fp)).1) (set_folded (nb_of u3))) fun σ H Q q => lc_of own_ix (nb_of u5) q).run pins s σ H D I q
            exact ⟨fun _ => ps_weak main (tE.x rfl), fun _ => main⟩
          · cases h
        | _ => unfold chkE at h; cases h
    | SetComp _ _ _ _ => cases e <;> (unfold chkE at h; first | cases h | (split at h <;> cases h))
    | DictComp _ _ _ _ _ => cases e <;> (unfold chkE at h; first | cases h | (split at h <;> cases h))
    | _ => exact absurd rfl hc
mutual
theorem sS : ∀ (t : T) (s : Stmt), chkS c t s = true → Gd XR CX C k c X W → PassesOwn (model X.prog X.w) X.A X.env X.xe → PS X s (tS X.K XR W F0 H0 r0 C t)
  | .set i e, s, h, g, po => by
    unfold chkS at h
    split at h
    · simp only [Bool.and_eq_true] at h
      exact s_set (nb_of h.1.2) ((s_asg g h.1.1 h.2).1 (nb_of h.1.2))
    · cases h
  | .setO i e, s, h, g, po => by
    unfold chkS at h
    split at h
    · simp only [Bool.and_eq_true] at h
      exact s_setO ((s_asg g h.1.1 h.2).2 h.1.2)
    · cases h
  | .unp tg e, s, h, g, po => by
    unfold chkS at h
    split at h
    · rename_i t v pos
      simp only [Bool.and_eq_true] at h
      obtain ⟨⟨⟨⟨h1, h2⟩, h3⟩, h4⟩, h5⟩ := h
      have h3 := nb_of h3
      refine s_unp (nb_of h4) (ps_asg (sE e v h5 g).1 (sTg tg t h2 g) ?_ ?_ ?_)
      · rw [sole]
        cases t with
        | Tuple _ _ _ => cases v <;> rfl
        | _ => cases h1
      · cases v <;> first | (cases t <;> rfl) | cases h3
      · cases t with
        | Tuple _ _ _ => rfl
        | _ => cases h1
    · cases h
  | .frz _, s, h, g, po => by unfold chkS at h; cases h
  | .app o e, s, h, g, po => by
    unfold chkS at h
    split at h
    · split at h
      · simp only [Bool.and_eq_true, decide_eq_true_eq] at h
        obtain ⟨⟨⟨⟨⟨rfl, h1⟩, h2⟩, h3⟩, h4⟩, h5⟩ := h
        obtain ⟨g1, g2, g3, g4⟩ := g.slot h1
        exact s_app g1 g2 g3 g4 h2 h3 (nb_of h4) (sE e _ h5 g).1
      · cases h
    · cases h
  | .ext o e, s, h, g, po => by
    unfold chkS at h
    split at h
    · split at h
      · simp only [Bool.and_eq_true, decide_eq_true_eq] at h
        obtain ⟨⟨⟨⟨⟨rfl, h1⟩, h2⟩, h3⟩, h4⟩, h5⟩ := h
        obtain ⟨g1, g2, g3, g4⟩ := g.slot h1
        exact s_ext g1 g2 g3 g4 h2 h3 ((sE e _ h5 g).2 h4)
      · cases h
    · cases h
  | .sub o j e, s, h, g, po => by
    unfold chkS at h
    split at h
    · split at h
      · simp only [Bool.and_eq_true] at h
        obtain ⟨⟨⟨⟨⟨⟨h1, h2⟩, h3⟩, h4⟩, h5⟩, h6⟩, h7⟩ := h
        obtain ⟨g1, g2, g3, g4⟩ := g.slot h1
        exact s_sub g1 g2 g3 g4 (nb_of h4) (nb_of h5) (nb_of h2) (nb_of h3) (nb_of h4) (sE e _ h6 g).1 (sE j _ h7 g).1
      · cases h
    · cases h
  | .aug i o e, s, h, g, po => by
    unfold chkS at h
    split at h
    · simp only [Bool.and_eq_true, decide_eq_true_eq] at h
      obtain ⟨⟨⟨h1, rfl⟩, h3⟩, h4⟩ := h
      obtain ⟨g1, g2, g3⟩ := g.put h1
      exact s_aug (g.N ▸ g.nd) g1 g2 g3 (nb_of h3) (sE e _ h4 g).1
    · cases h
  | .exp e, s, h, g, po => by
    unfold chkS at h
    split at h
    · simp only [Bool.and_eq_true] at h
      exact s_exp (ps_expr (sE e _ h.2 g).1 (sw_none (nb_of h.1)))
    · cases h
  | .ife b ts us, s, h, g, po => by
    unfold chkS at h
    split at h
    · simp only [Bool.and_eq_true] at h
      exact s_if (sT b _ h.1.1 g) (sB ts _ h.1.2 g po) (sB us _ h.2 g po)
    · cases h
  | .for_ tg it ts, s, h, g, po => by
    unfold chkS at h
    split at h
    · simp only [Bool.and_eq_true] at h
      obtain ⟨⟨⟨h1, h2⟩, h3⟩, h4⟩ := h
      exact s_for po g.calm (sI false it _ _ h2 g) (sTg tg _ h1 g) (sB ts _ h4 g po) (nb_of h3)
    · cases h
  | .whl b ts, s, h, g, po => by
    unfold chkS at h
    split at h
    · simp only [Bool.and_eq_true] at h
      exact s_while po (sT b _ h.1 g) (sB ts _ h.2 g po)
    · cases h
  | .ret e, s, h, g, po => by
    unfold chkS at h
    split at h
    · simp only [Bool.and_eq_true] at h
      exact s_ret (nb_of h.1) (sE e _ h.2 g).1
    · cases h
  | .ret0, s, h, g, po => by
    unfold chkS at h
    split at h
    · exact s_ret0
    · cases h
  | .cnt, s, h, g, po => by
    unfold chkS at h
    split at h
    · exact s_cnt
    · cases h
  | .brk, s, h, g, po => by
    unfold chkS at h
    split at h
    · exact s_brk
    · cases h
  | .pas, s, h, g, po => by
    unfold chkS at h
    split at h
    · exact s_pas
    · cases h
termination_by t => sizeOf t
theorem sB : ∀ (ts : List T) (ss : List Stmt), chkB c ts ss = true → Gd XR CX C k c X W → PassesOwn (model X.prog X.w) X.A X.env X.xe → PSs X ss (tB X.K XR W F0 H0 r0 C ts)
  | [], ss, h, g, po => by
    unfold chkB at h
    cases ss with
    | nil => exact b_nil
    | cons _ _ => cases h
  | t :: ts, ss, h, g, po => by
    unfold chkB at h
    split at h
    · exact b_frz (sB ts ss h g po)
    · split at h
      · rw [Bool.and_eq_true] at h
        exact b_cons (sS t _ h.1 g po) (sB ts _ h.2 g po)
      · cases h
termination_by ts => sizeOf ts
end
end
end G
end S_GSt3
section S_GFn
set_option linter.all false
set_option maxRecDepth 100000
set_option maxHeartbeats 2000000
/-! GFn: defs. -/
namespace G
open PySem PySem.Spec PyProof.Rows L2

section
variable {P : Program} {w : World} {K : Fg} {mg : Str → Option Value} {base : Heap} {CX : CXT}
/-- a def's promise from its body's -/
theorem fnG_of {n : Nat} {x qual : Str} {st : Stmt} {fa : Addr} {fd : FuncData} {N ps : List Str} {sp : Sp} (Fu : Fun K x qual st fa fd) (sc : FnScope N ps (defScope st)) (ln : ∀ vs H Q E, sp vs H Q E → vs.length = ps.length)
    (body : ∀ (cdv : Value) (A : Around) (out : List Env) (s : Shared) (H : Hp) (vs : List V) (Q : VK) (E : XK), A.guards = some [] → Room n (A.deeper (envOfC qual (defScope st) s.heap.objs.size fa cdv)) → sp vs H Q E →
      ∃ t, PSs (cxOf CX P w K mg base N qual (defScope st) fa cdv A out s H E) (defBody st) t ∧ t ⟨fun _ H' => Q .non H', Q, fun _ _ => False, fun _ _ => False⟩ (start N vs) H) : FnG P w K mg base CX (n + 1) fa fd ps sp := by
  obtain ⟨_, _, _, _, _, _, cdv, _, _, rfl, look, code⟩ := Fu.ex
  constructor
  · exact ln
  · intro A out s H args us vs Q E gd room e0 bnd rel prom
    have same : vs.length = ps.length := ln _ _ _ _ prom
    have inK : K.In s.heap := e0.mod.kin.keeps (fun b o z => (e0.bs b o z).1)
    have noL : s.heap.NoLimit := e0.mod.nolimit.keeps (fun b o z => (e0.bs b o z).1)
    have kinds : ∀ y ∈ ps.zip us, (defScope st).names.lookup y.1 = some .local ∨
        ((defScope st).names.lookup y.1 = some .cell ∧ ((cellsFrom (s.heap.objs.size + 1) (defScope st).names []).lookup y.1).isSome = true) := by
      rintro ⟨nm, u⟩ mem
      have here := sc.par nm (List.of_mem_zip mem).1
      exact here.imp id (fun z => ⟨z, PySem.W.cellsFrom_some _ _ _ (.inl z)⟩)
    apply codeAny_call_function room.depth (inK _ _ look) rfl sc.co sc.gen rfl (PySem.W.codeRec_of inK code)
    apply bnd
    apply wpAny_newFunctionEnv_cells sc.kind kinds
    rintro env rfl s1 inCall
    constructor
    · exact noL.keeps inCall.toInCall.keep
    · apply codeAny_func
      obtain ⟨t, hPS, ht⟩ := body cdv A out s H vs Q E gd (room.deeper _) prom
      have I0 := inv_start (CX := CX) (P := P) (w := w) (E := E) sc room.hd e0 same rel inCall
      apply wpAny_mono (hPS.run [] s1 _ H _ I0 ht)
      · intro fl s' res
        cases fl
        · obtain ⟨_, H', J, q⟩ := res
          exact ⟨.non, H', J.os, J.bare, J.base, J.hok, rfl, q⟩
        · exact res.elim fun _ z => z.elim fun _ z => z.2.elim
        · exact res.elim fun _ z => z.elim fun _ z => z.2.elim
        · obtain ⟨v, _, H', J, rv, q⟩ := res
          exact ⟨v, H', J.os, J.bare, J.base, J.hok, rv, q⟩
      · exact fun _ _ z => z
end
end G
end S_GFn
section S_GEnd
set_option linter.all false
set_option maxRecDepth 100000
set_option maxHeartbeats 2000000
/-! GEnd: the law's call. -/
namespace G
open PySem PySem.Spec PyProof.Rows L2

section
variable {P : Program} {w : World} {K : Fg} {mg mb : Str → Option Value} {CX : CXT} {n : Nat} {fa a : Addr} {fd : FuncData} {x : Str} {sp : Sp} {s : Shared} {us : List Value} {ns : List Int}
/-- what is wanted behind the law's call -/
def Told (s : Shared) : Result → Shared → Prop := fun r t => r = .ok (.ret (.bool true)) ∧ OldK s.heap t.heap ∧ t.os = s.os ∧ AllBare t.gens
/-- the state where nothing but the script may be tracked -/
structure Ent (K : Fg) (P : Program) (w : World) (s : Shared) (a : Addr) (us : List Value) (ns : List Int) (H : Hp) : Prop where
  only : Only H
  lst : SqL K H a (ns.map V.int)
  hok : HOk P w H s.heap
  one : ∀ b, H b ≠ none → b = a
  out : H a ≠ none → K.lookup a = none
theorem ent_call {H : Hp} (KX : K.In s.heap) (g : s.heap.Ns mainGlobals mg) (b : s.heap.Ns builtinsNs mb) (bb : ∀ x : Str, x ≠ "__name__" → mb x = bootBuiltins x) (nl : s.heap.NoLimit) (hg : s.gens = #[])
    (ha : s.heap.get? a = some ⟨.type "list", none, .seq us.toArray, #[]⟩) (room : Room n callerA) (F : ∀ base : Heap, K.In base → base.Ns mainGlobals mg → FnG P w K mg base CX n fa fd [x] sp) (bind : ∀ (s : Shared) (u : Value), BindsTo s fd ⟨[u], []⟩ [(x, u)])
    (prom : sp [.ref a] H (fun v _ => v = .bl true) fun _ _ _ => False) (noX : ∀ e t, CX [] H s (fun _ _ _ => False) e t → False) (E : Ent K P w s a us ns H) : codeAny (model P w) callerA (.call (.ref fa) ⟨[.ref a], []⟩) (Told s) s := by
  have free : ∀ {c : Addr} {o : Obj}, s.heap.get? c = some o → (c = a → False) → H c = none := by
    intro c o _ ne
    cases z : H c with
    | none => rfl
    | some u => exact (ne (E.one c (by simp [z]))).elim
  have kept : ∀ {c : Addr} {o : Obj}, s.heap.get? c = some o → H c = none → (hidT s.heap H).get? c = some o := fun z1 z2 => hidT_get z1 z2
  have nosp : ∀ {c : Addr} {m : Str → Option Value}, s.heap.Ns c m → (hidT s.heap H).Ns c m := by
    rintro c m ⟨o, es, ep, z1, z2, z3⟩
    refine ⟨o, es, ep, kept z1 (free z1 ?_), z2, z3⟩
    rintro rfl
    rw [ha] at z1
    obtain rfl := Option.some.inj z1
    exact Data.noConfusion z2
  have inB : K.In (hidT s.heap H) := by
    intro c o z
    cases q : H c with
    | none => exact kept (KX c o z) q
    | some u =>
      obtain rfl := E.one c (by simp [q])
      have := E.out (by simp [q])
      rw [z] at this
      cases this
  have md : Mod K mg (hidT s.heap H) := by
    obtain ⟨mc, c1, c2⟩ := nl
    exact ⟨inB, nosp g, ⟨mb, nosp b, bb⟩, ⟨mc, nosp c1, c2⟩⟩
  have e0 : Env0 P w K mg (hidT s.heap H) callerA [] s H := by
    refine ⟨rfl, md, fun _ _ z => of_hidT z, ?_, trivial, ?_, E.hok, .of_eq hg⟩
    · exact Nat.le_of_eq (hidT_size _ _)
    · rintro _ ⟨⟩
  have called := (F _ inB (nosp g)).run callerA [] s H ⟨[.ref a], []⟩ [.ref a] [.ref a] _ _ rfl room e0 (bind s (.ref a)) (.cons rfl .nil) prom
  refine codeAny_mono called ?_
  intro r t res
  rcases r with e | fl
  · exact (noX e t res).elim
  · cases fl with
    | ret u =>
      obtain ⟨v, H', z1, z2, z3, z4, z5, z6⟩ := res
      subst z6
      cases z5
      refine ⟨rfl, OldK.of_keep ?_, z1, z2⟩
      intro c o here
      rcases E.only c with q | ⟨ob, ys, q⟩
      · exact z3.keep c o here q (fun m => nomatch m) (fun m => nomatch m)
      · have old := (E.hok c _ q).1
        rw [here] at old
        cases old
        exact (z4 c _ (z3.frzs c _ _ q)).1
    | _ => exact res.elim
theorem law_callG (KX : K.In s.heap) (g : s.heap.Ns mainGlobals mg) (b : s.heap.Ns builtinsNs mb) (bb : ∀ x : Str, x ≠ "__name__" → mb x = bootBuiltins x) (nl : s.heap.NoLimit) (hg : s.gens = #[])
    (ha : s.heap.get? a = some ⟨.type "list", none, .seq us.toArray, #[]⟩) (hi : IntsAre us ns) (hl : ns.length ≤ sizeLine) (room : Room n callerA) (F : ∀ base : Heap, K.In base → base.Ns mainGlobals mg → FnG P w K mg base CX n fa fd [x] sp) (bind : ∀ (s : Shared) (u : Value), BindsTo s fd ⟨[u], []⟩ [(x, u)])
    (prom : ∀ H : Hp, Only H → SqL K H a (ns.map V.int) → sp [.ref a] H (fun v _ => v = .bl true) fun _ _ _ => False) (noX : ∀ H e t, CX [] H s (fun _ _ _ => False) e t → False) : codeAny (model P w) callerA (.call (.ref fa) ⟨[.ref a], []⟩) (Told s) s := by
  have rel := vals_ints hi
  have same := hi.length
  have main : ∀ H, Ent K P w s a us ns H → codeAny (model P w) callerA (.call (.ref fa) ⟨[.ref a], []⟩) (Told s) s := fun H E => ent_call KX g b bb nl hg ha room F bind (prom H E.only E.lst) (fun e t => noX H e t) E
  cases q : K.lookup a with
  | none =>
    apply main fun c => if c = a then some (.frz ⟨.type "list", none, .seq us.toArray, #[]⟩ (.lst (ns.map V.int))) else none
    have at_ : ∀ {c u}, (if c = a then some (HO.frz ⟨.type "list", none, .seq us.toArray, #[]⟩ (.lst (ns.map V.int))) else none) = some u → c = a ∧ u = .frz ⟨.type "list", none, .seq us.toArray, #[]⟩ (.lst (ns.map V.int)) := by
      intro c u z
      split at z
      · next h => exact ⟨h, (Option.some.inj z).symm⟩
      · cases z
    constructor
    · intro c
      by_cases h : c = a
      · exact .inr ⟨_, _, if_pos h⟩
      · exact .inl (if_neg h)
    · exact .inl (.inr ⟨_, if_pos rfl⟩)
    · intro c u z
      obtain ⟨rfl, rfl⟩ := at_ z
      refine ⟨ha, ?_, us, _, rel, ha⟩
      rw [List.length_map]
      exact hl
    · intro c z
      by_cases h : c = a
      · exact h
      · exact (z (if_neg h)).elim
    · exact fun _ => q
  | some o =>
    have z := KX a o q
    rw [ha] at z
    obtain rfl := Option.some.inj z
    apply main fun _ => none
    refine ⟨fun _ => .inl rfl, .inr ⟨_, us.toArray, _, q, rfl, rfl, rfl, ?_, ?_⟩, fun _ _ y => (nomatch y), fun _ y => (y rfl).elim, fun y => (y rfl).elim⟩
    · rw [List.size_toArray, same]
      exact hl
    · simpa using rel
end
/-- the goal that the head leaves -/
theorem walk_ofG {l : PySem.W.OpenLaw} {m n : Nat} {q : Program} {loose : List Str} {XP : (Str → Option Value) → Heap → Prop} {YP : World → Heap → Prop} {d : DefRec} {K : Params → Fg} {CX : World → CXT} {sp : World → Sp} {x : Str}
    (most : l.most = some m) (small : m ≤ sizeLine) (nod : d.params.defaults = []) (room : Room n callerA) (hY : ∀ (w : World) (h : Heap), YP w h → (K w.params).In h)
    (F : ∀ (w : World) (mg : Str → Option Value) (fa : Addr) (h : Heap), (K w.params).In h → h.Ns mainGlobals mg → mg d.name = some (.ref fa) →
      ∃ fd : FuncData, (∀ (s : Shared) (u : Value), BindsTo s fd ⟨[u], []⟩ [(x, u)]) ∧ ∀ base : Heap, (K w.params).In base → base.Ns mainGlobals mg → FnG l.prog w (K w.params) mg base (CX w) n fa fd [x] (sp w))
    (prom : ∀ (w : World) (H : Hp) (a : Addr) (ns : List Int), ns.length ≤ m → Only H → SqL (K w.params) H a (ns.map V.int) → sp w [.ref a] H (fun v _ => v = .bl true) fun _ _ _ => False)
    (noX : ∀ (w : World) (H : Hp) (s : Shared) (e : Value) (t : Shared), CX w [] H s (fun _ _ _ => False) e t → False) : PySem.W.WalkO q loose XP YP l.row.toRowW d [] (fun f vs => PySem.call f vs) := by
  apply Att.attach_call most nod
  intro w s0 s1 mg mb fa o pm cd doc a us ns G Y ho hd hcd hmg hobj hints hlen hg
  have inK := hY w _ Y
  obtain ⟨fd, bind, FG⟩ := F w mg fa _ inK G.T.g hmg
  exact law_callG inK G.T.g G.T.b G.T.builtins G.T.nolimit hg hobj hints (Nat.le_trans hlen small) room FG bind (fun H h1 h2 => prom w H a ns hlen h1 h2) (fun H e t => noX w H s1 e t)
end G
end S_GEnd
section S_GMod
set_option linter.all false
set_option maxRecDepth 100000
set_option maxHeartbeats 2000000
/-! GMod: all the defs of a text. -/
namespace G
open PySem PySem.Spec PyProof.Rows L2

/-! ### the checks of a def -/
def kindB : ScopeKind → Bool
  | .function => true
  | _ => false
def scOk (N ps : List Str) (sc : Scope) : Bool := kindB sc.kind && !sc.isCoroutine && !sc.isGenerator && decide N.Nodup && decide (N.take ps.length = ps) &&
  ps.all (fun x => decide (sc.names.lookup x = some .local) || decide (sc.names.lookup x = some .cell)) && sc.names.all (fun y => decide (y.2 ≠ .free))
theorem sc_ok {N ps : List Str} {sc : Scope} (h : scOk N ps sc = true) : FnScope N ps sc := by
  unfold scOk at h
  simp only [Bool.and_eq_true, List.all_eq_true, decide_eq_true_eq, Bool.or_eq_true] at h
  obtain ⟨⟨⟨⟨⟨⟨h1, h2⟩, h3⟩, h4⟩, h5⟩, h6⟩, h7⟩ := h
  refine ⟨?_, by simpa using h2, by simpa using h3, h4, h5, h6, h7⟩
  unfold kindB at h1
  split at h1
  · assumption
  · cases h1
def nmOk (N : List Str) : Bool := N.all fun x => !(x == ("__debug__" : Str)) && !(x == ("__classdict__" : Str))
def ckOf (N : List Str) (sc : Scope) (tab : List (Str × Gk)) : Ck := ⟨N, sc, fun _ => true, tab⟩
def strsX : List (List Nat) → List Expr → Bool
  | [], [] => true
  | s :: ss, .Constant (.str x) _ _ :: xs => decide (x = toS s) && strsX ss xs
  | _, _ => false
/-- the body returns these texts -/
def cstB (ss : List (List Nat)) : List Stmt → Bool
  | [.Return (some (.Tuple xs _ _)) _] => decide (xs.length ≤ 1000) && strsX ss xs
  | _ => false
def cstOk (o : Option (List (List Nat))) (ps : List Str) (b : List Stmt) : Bool := match o with
  | none => true
  | some ss => ps.isEmpty && cstB ss b
def chkD (tab : List (Str × Gk)) (N ps : List Str) (f : Fn) (o : Option (List (List Nat))) (st : Stmt) : Bool :=
  scOk N ps (defScope st) && nmOk N && decide (f.arity = ps.length) && decide (f.slots = N.length) && chkB (ckOf N (defScope st) tab) f.body (defBody st) && cstOk o ps (defBody st)

theorem a_strs {X : L2.Cx} : ∀ {ss : List (List Nat)} {xs : List Expr}, strsX ss xs = true → PA X xs (fun σ H Q => Q (strV ss) H)
  | [], [], _ => pa_nil
  | s :: ss, x :: xs, h => by
    cases x with
    | Constant k j p =>
      cases k with
      | str y =>
        have h : (decide (y = toS s) && strsX ss xs) = true := h
        rw [Bool.and_eq_true, decide_eq_true_eq] at h
        obtain ⟨rfl, h2⟩ := h
        exact pa_imp (pa_cons pe_str (a_strs h2)) fun σ H Q q => q
      | _ => cases h
    | _ => cases h
  | [], _ :: _, h => by cases h
  | _ :: _, [], h => by cases h
theorem strs_len : ∀ {ss : List (List Nat)} {xs : List Expr}, strsX ss xs = true → ss.length = xs.length
  | [], [], _ => rfl
  | s :: ss, x :: xs, h => by
    cases x with
    | Constant k j p =>
      cases k with
      | str y =>
        have h : (decide (y = toS s) && strsX ss xs) = true := h
        rw [Bool.and_eq_true] at h
        rw [List.length_cons, List.length_cons, strs_len h.2]
      | _ => cases h
    | _ => cases h
  | [], _ :: _, h => by cases h
  | _ :: _, [], h => by cases h
theorem Pass0 {X : L2.Cx} (σ : L2.St) : PassesAt (L2.CX X.prog X.w) X σ (WE W0 σ) := passAt takes0 σ

theorem RpXL.len {K : Fg} {w : Bool} {F H : Hp} {r : List Addr} : ∀ {vs : List V} {ds : List D}, RpXL K w F H r vs ds → vs.length = ds.length
  | _, _, .nil => rfl
  | _, _, .cons _ t => congrArg (· + 1) (RpXL.len t)
theorem RpXL.at {K : Fg} {F H : Hp} {r : List Addr} : ∀ {vs : List V} {ds : List D}, RpXL K false F H r vs ds → ∀ (j : Nat) (d : D), ds[j]? = some d → ∃ v, vs[j]? = some v ∧ Rp K F r v d
  | _, _, .nil, _, _, h => by simp at h
  | _, _, .cons h1 t, 0, d, h => by
    simp at h
    subst h
    exact ⟨_, rfl, h1⟩
  | _, _, .cons h1 t, j + 1, d, h => RpXL.at t j d (by simpa using h)
section
variable {P : Program} {w : World} {K : Fg} {mg : Str → Option Value} {XR : XRel} {fns : Nat → Option Fn} {glob : Nat → Option D} {cst : Nat → Option (List (List Nat))} {wf : Nat} {tab : List (Str × Gk)}
def Cn (fns : Nat → Option Fn) (glob : Nat → Option D) (cst : Nat → Option (List (List Nat))) (wf n : Nat) : G.Cx := ⟨evF fns glob cst wf n, glob, wf, if n = 0 then fun _ => none else cst⟩
/-- what is known of a def -/
def DefF (K : Fg) (mg : Str → Option Value) (x : Str) (ps : List Str) (st : Stmt) : Prop := ∃ fa fd qual, mg x = some (.ref fa) ∧ Fun K x qual st fa fd ∧ Binds K fd ps []
/-- what is known of a module's name -/
def NameF (K : Fg) (mg : Str → Option Value) (fns : Nat → Option Fn) (glob : Nat → Option D) (cst : Nat → Option (List (List Nat))) (tab : List (Str × Gk)) (x : Str) : Gk → Prop
  | .fn i => ∃ N ps f st, fns i = some f ∧ DefF K mg x ps st ∧ chkD tab N ps f (cst i) st = true
  | .con i => ∃ v u, mg x = some u ∧ RelV v u ∧ ∀ d F r, glob i = some d → Rp K F r v d
  | .blt => mg x = none ∧ x ≠ "__name__"
def tabOk (tab : List (Str × Gk)) : Bool := tab.all fun p => !(p.1 == ("__debug__" : Str)) && (p.1 != ("super" : Str))
theorem lookup_mem {α β : Type} [BEq α] [LawfulBEq α] {x : α} {y : β} : ∀ {l : List (α × β)}, l.lookup x = some y → (x, y) ∈ l
  | (a, b) :: l, h => by
    rw [List.lookup_cons] at h
    cases e : x == a with
    | true =>
      rw [e] at h
      cases h
      rw [eq_of_beq e]
      exact List.mem_cons_self
    | false =>
      rw [e] at h
      exact List.mem_cons_of_mem _ (lookup_mem h)
/-- one def, its callees being right -/
theorem text_step (ht : tabOk tab = true) (hF : ∀ x g, (x, g) ∈ tab → NameF K mg fns glob cst tab x g) (n : Nat) (base : Heap)
    (ih : ∀ (x : Str) (i : Nat), (x, Gk.fn i) ∈ tab → ∃ fa fd ps, mg x = some (.ref fa) ∧ PySem.W.keepIn K (.ref fa) = true ∧ Binds K fd ps [] ∧
      FnG P w K mg base (L2.CX P w) n fa fd ps (spF K XR (Cn fns glob cst wf n) i) ∧ ∀ ss, (Cn fns glob cst wf n).cst i = some ss → ps = [] ∧ FnG P w K mg base (L2.CX P w) n fa fd ps (spC ss))
    {x : Str} {i : Nat} {N ps : List Str} {f : Fn} {st : Stmt} {fa : Addr} {fd : FuncData} {qual : Str} (e1 : fns i = some f) (g2 : Fun K x qual st fa fd) (e2 : chkD tab N ps f (cst i) st = true) :
    FnG P w K mg base (L2.CX P w) (n + 1) fa fd ps (spF K XR (Cn fns glob cst wf (n + 1)) i) ∧ ∀ ss, (Cn fns glob cst wf (n + 1)).cst i = some ss → ps = [] ∧ FnG P w K mg base (L2.CX P w) (n + 1) fa fd ps (spC ss) := by
  unfold chkD at e2
  simp only [Bool.and_eq_true, decide_eq_true_eq] at e2
  obtain ⟨⟨⟨⟨⟨k1, k2⟩, k3⟩, k4⟩, k5⟩, k6⟩ := e2
  have sc := sc_ok k1
  refine ⟨?_, fun ss h => ?_⟩
  · refine fnG_of g2 sc (fun vs H Q E h => ?_) fun cdv A out s H vs Q E gd room prom => ?_
    · obtain ⟨F, r, S, ds, R, t, h⟩ := h
      have h : PostE K XR _ F H r [] (match fns i with | none => Rs.stk | some fn => if ds.length = fn.arity then (evB (Cn fns glob cst wf n) fn.body (slots0 fn ds) S).out else .stk) _ := h
      rw [e1] at h
      by_cases hl : ds.length = f.arity
      · rw [t.len, hl, k3]
      · dsimp only at h
        rw [if_neg hl] at h
        exact h.elim
    · obtain ⟨F, r, S, ds, R, t, h⟩ := prom
      have h : PostE K XR (fun c d _ H => E c d H) F H r [] (match fns i with | none => Rs.stk | some fn => if ds.length = fn.arity then (evB (Cn fns glob cst wf n) fn.body (slots0 fn ds) S).out else .stk) _ := h
      rw [e1] at h
      dsimp only at h
      by_cases hl : ds.length = f.arity
      · rw [if_pos hl] at h
        have gd' : (A.deeper (envOfC qual (defScope st) s.heap.objs.size fa cdv)).guards = some [] := gd
        have G0 : Gd XR (L2.CX P w) (Cn fns glob cst wf n) n (ckOf N (defScope st) tab) (cxOf (L2.CX P w) P w K mg base N qual (defScope st) fa cdv A out s H E) (fun c d _ H => E c d H) := by
          refine ⟨rfl, gd', room, rfl, rfl, rfl, sc.nd, fun x hx => ?_, fun σ => passAt (takes_of rfl rfl rfl rfl) σ, fun X' σ h1 h2 => ?_, fun x g hx => ?_⟩
          · have z := List.all_eq_true.mp k2 x hx
            simpa using z
          · have h1 : X'.prog = P := h1
            have h2 : X'.w = w := h2
            rw [← h1, ← h2]
            exact Pass0 σ
          · have mem := lookup_mem hx
            have z := List.all_eq_true.mp ht _ mem
            simp only [Bool.and_eq_true] at z
            refine ⟨by simpa using z.1, z.2, ?_⟩
            cases g with
            | fn j => exact ih x j mem
            | con j => exact hF x _ mem
            | blt => exact hF x _ mem
        refine ⟨_, sB (F0 := F) (H0 := H) (r0 := r) f.body _ k5 G0 (passes_of rfl), F, r, F, r, slots0 f ds, S, ⟨R, ?_, .refl, fun j es a h1 h2 => ?_, fun _ _ h => h, Pre.refl _⟩, ?_⟩
        · -- the slots at the entry
          have lenV : vs.length = ds.length := t.len
          have hpn : ps.length ≤ N.length := by
            have := congrArg List.length sc.pre
            rw [List.length_take] at this
            omega
          have atv : ∀ (j : Nat) (y : Sl), (slots0 f ds)[j]? = some y → y ≠ .nil → ∃ d, ds[j]? = some d ∧ y = .v d := fun j y hy hn => by
            unfold slots0 at hy
            by_cases hj : j < ds.length
            · rw [List.getElem?_append_left (by rw [List.length_map]; exact hj), List.getElem?_map, List.getElem?_eq_getElem hj] at hy
              cases hy
              exact ⟨_, List.getElem?_eq_getElem hj, rfl⟩
            · rw [List.getElem?_append_right (by rw [List.length_map]; omega), List.getElem?_replicate] at hy
              split at hy
              · cases hy
                exact absurd rfl hn
              · cases hy
          refine ⟨?_, fun j d hj => ?_, fun j es hj => ?_, fun i j es fs a h1 h2 h3 h4 => ?_⟩
          · unfold slots0 L2.start
            rw [List.length_append, List.length_append, List.length_map, List.length_map, List.length_replicate, List.length_replicate, k4, lenV]
          · obtain ⟨d', e1, e2⟩ := atv j _ hj (by intro z; cases z)
            cases e2
            obtain ⟨v, e3, e4⟩ := t.at j d e1
            refine ⟨v, ?_, e4⟩
            obtain ⟨hjl, _⟩ := List.getElem?_eq_some_iff.mp e3
            unfold L2.start
            rw [List.getElem?_append_left (by rw [List.length_map]; exact hjl), List.getElem?_map, e3]
            rfl
          · obtain ⟨d', _, e2⟩ := atv j _ hj (by intro z; cases z)
            cases e2
          · obtain ⟨d', _, e2⟩ := atv i _ h1 (by intro z; cases z)
            cases e2
        · unfold slots0 at h1
          by_cases hj : j < ds.length
          · rw [List.getElem?_append_left (by rw [List.length_map]; exact hj), List.getElem?_map, List.getElem?_eq_getElem hj] at h1
            cases h1
          · rw [List.getElem?_append_right (by rw [List.length_map]; omega), List.getElem?_replicate] at h1
            split at h1 <;> cases h1
        · -- the body's end
          cases hb : evB (Cn fns glob cst wf n) f.body (slots0 f ds) S with
          | nx sl S' =>
            rw [hb] at h
            exact fun F' H' r' σ' J => h F' H' r' J.e J.R _ .non
          | ret d S' =>
            rw [hb] at h
            exact fun F' H' r' e R' v hv => h F' H' r' e R' v hv
          | exc c x sl S' =>
            rw [hb] at h
            exact fun F' H' r' σ' cls d J z => h F' H' r' cls d J.e J.R z
          | brk _ _ => rw [hb] at h; exact h.elim
          | cnt _ _ => rw [hb] at h; exact h.elim
          | stk => rw [hb] at h; exact h.elim
      · rw [if_neg hl] at h
        exact h.elim
  · have h : cst i = some ss := h
    rw [h] at k6
    have k7 : (ps.isEmpty && cstB ss (defBody st)) = true := k6
    rw [Bool.and_eq_true, List.isEmpty_iff] at k7
    obtain ⟨rfl, k7⟩ := k7
    refine ⟨rfl, fnG_of g2 sc (fun vs H Q E h => ?_) fun cdv A out s H vs Q E gd room prom => ?_⟩
    · rw [h.1]
      rfl
    · unfold cstB at k7
      split at k7
      · rename_i xs k p pos heq
        rw [Bool.and_eq_true, decide_eq_true_eq] at k7
        rw [heq]
        refine ⟨_, pss_one (ps_ret (pe_tupF (a_strs k7.2))), ?_⟩
        refine ⟨?_, prom.2⟩
        unfold strV
        rw [List.length_map, strs_len k7.2, ← lim_eq]
        unfold lim
        omega
      · cases k7
/-- THE RULE for a text -/
theorem text_ok (ht : tabOk tab = true) (hF : ∀ x g, (x, g) ∈ tab → NameF K mg fns glob cst tab x g) (n : Nat) : ∀ (base : Heap) (x : Str) (i : Nat), (x, Gk.fn i) ∈ tab → ∃ fa fd ps, mg x = some (.ref fa) ∧ PySem.W.keepIn K (.ref fa) = true ∧ Binds K fd ps [] ∧
    FnG P w K mg base (L2.CX P w) n fa fd ps (spF K XR (Cn fns glob cst wf n) i) ∧ ∀ ss, (Cn fns glob cst wf n).cst i = some ss → ps = [] ∧ FnG P w K mg base (L2.CX P w) n fa fd ps (spC ss) := by
  induction n with
  | zero =>
    intro base x i hm
    obtain ⟨N, ps, f, st, e1, ⟨fa, fd, qual, g1, g2, g3⟩, e2⟩ := hF x _ hm
    refine ⟨fa, fd, ps, g1, g2.kp, g3, ⟨fun vs H Q E h => ?_, fun A out s H args us vs Q E gd room e0 bnd rel prom => ?_⟩, fun ss h => ?_⟩
    · obtain ⟨F, r, S, ds, R, t, h⟩ := h
      exact h.elim
    · obtain ⟨F, r, S, ds, R, t, h⟩ := prom
      exact h.elim
    · cases h
  | succ n ih =>
    intro base x i hm
    obtain ⟨N, ps, f, st, e1, ⟨fa, fd, qual, g1, g2, g3⟩, e2⟩ := hF x _ hm
    have z := text_step (P := P) (w := w) (XR := XR) (wf := wf) ht hF n base (ih base) e1 g2 e2
    exact ⟨fa, fd, ps, g1, g2.kp, g3, z⟩
end
end G
end S_GMod
section S_GHead
set_option linter.all false
set_option maxRecDepth 100000
set_option maxHeartbeats 2000000
/-! GHead: the head by facts: defs, constants that are data. -/
namespace G
open PySem PySem.Spec PyProof.Rows L2

theorem fun_of {K : Fg} {x qual : Str} {st : Stmt} {f : Addr} {fd : FuncData} (F : FunD K x qual (defArgs st) (defBody st) (defScope st) [] [] f fd) : L2.Fun K x qual st f fd := by
  obtain ⟨⟨oc, od, dV, kV, doc, pm, an, cdv, ct, osl, e, l, c, h, _⟩, k⟩ := F
  rcases h with ⟨_, rfl⟩ | ⟨h, _⟩
  · exact ⟨⟨oc, od, kV, doc, pm, an, cdv, ct, osl, e, l, c⟩, k⟩
  · exact absurd rfl h
/-! ### constants -/
mutual
/-- the value is this datum -/
def dB (K : Fg) : Value → D → Bool
  | .none, .non => true
  | .bool a, .bl b => a == b
  | .int i _, .int j => decide (i = j)
  | .str x _, .str s => decide (x = ⟨s.toArray⟩) && decide (s.length ≤ lim)
  | .ref a, .tup ds => (match K.lookup a with
    | some ⟨.type c, _, .seq its _, _⟩ => decide (c = "tuple") && (decide (its.size ≤ sizeLine) && dBL K its.toList ds)
    | _ => false)
  | .ref a, .lst ds => (match K.lookup a with
    | some ⟨.type c, none, .seq its _, _⟩ => decide (c = "list") && (decide (its.size ≤ sizeLine) && dBL K its.toList ds)
    | _ => false)
  | _, _ => false
def dBL (K : Fg) : List Value → List D → Bool
  | [], [] => true
  | u :: us, d :: ds => dB K u d && (d.pur && dBL K us ds)
  | _, _ => false
end
theorem sq_tup {K : Fg} {a : Addr} {its : Array Value} {c : String} {xs : List V} {od n osl} (q : K.lookup a = some ⟨.type c, od, .seq its n, osl⟩) (h1 : c = "tuple") (h2 : its.size ≤ sizeLine) (h3 : Vals xs its.toList) (H : Hp) : SqT K H a xs :=
  .inr ⟨_, its, n, q, congrArg Value.type h1, rfl, h2, h3⟩
theorem sq_lst {K : Fg} {a : Addr} {its : Array Value} {c : String} {xs : List V} {n osl} (q : K.lookup a = some ⟨.type c, none, .seq its n, osl⟩) (h1 : c = "list") (h2 : its.size ≤ sizeLine) (h3 : Vals xs its.toList) (H : Hp) : SqL K H a xs :=
  .inr ⟨_, its, n, q, congrArg Value.type h1, rfl, rfl, h2, h3⟩
mutual
theorem dB_ok {K : Fg} : ∀ (d : D) (u : Value), dB K u d = true → ∃ v, RelV v u ∧ ∀ F r, Rp K F r v d
  | .non, u, h => by
    cases u with
    | none => exact ⟨.non, rfl, fun F r => .non⟩
    | _ => simp [dB] at h
  | .bl b, u, h => by
    cases u with
    | bool a =>
      simp [dB] at h
      subst h
      exact ⟨.bl a, rfl, fun F r => .bl a⟩
    | _ => simp [dB] at h
  | .int j, u, h => by
    cases u with
    | int i t =>
      simp [dB] at h
      subst h
      exact ⟨.int i, ⟨t, rfl⟩, fun F r => .int i⟩
    | _ => simp [dB] at h
  | .str s, u, h => by
    cases u with
    | str x t =>
      simp only [dB, Bool.and_eq_true, decide_eq_true_eq] at h
      obtain ⟨rfl, h2⟩ := h
      exact ⟨.str ⟨s.toArray⟩, ⟨t, rfl⟩, fun F r => .str s h2⟩
    | _ => simp [dB] at h
  | .tup ds, u, h => by
    cases u with
    | ref a =>
      have h : (match K.lookup a with
        | some ⟨.type c, _, .seq its _, _⟩ => decide (c = "tuple") && (decide (its.size ≤ sizeLine) && dBL K its.toList ds)
        | _ => false) = true := by simpa only [dB] using h
      split at h
      · rename_i c _ its n _ q
        simp only [Bool.and_eq_true, decide_eq_true_eq] at h
        obtain ⟨h1, h2, h3⟩ := h
        obtain ⟨xs, x1, x2⟩ := dBL_ok ds its.toList h3
        exact ⟨.ref a, rfl, fun F r => .tup (sq_tup q h1 h2 x1 F) (x2 F r)⟩
      · cases h
    | _ => simp [dB] at h
  | .lst ds, u, h => by
    cases u with
    | ref a =>
      have h : (match K.lookup a with
        | some ⟨.type c, none, .seq its _, _⟩ => decide (c = "list") && (decide (its.size ≤ sizeLine) && dBL K its.toList ds)
        | _ => false) = true := by simpa only [dB] using h
      split at h
      · rename_i c its n _ q
        simp only [Bool.and_eq_true, decide_eq_true_eq] at h
        obtain ⟨h1, h2, h3⟩ := h
        obtain ⟨xs, x1, x2⟩ := dBL_ok ds its.toList h3
        exact ⟨.ref a, rfl, fun F r => .lst (sq_lst q h1 h2 x1 F) (x2 F r)⟩
      · cases h
    | _ => simp [dB] at h
  | .loc _, u, h => by cases u <;> simp [dB] at h
  | .exc _ _, u, h => by cases u <;> simp [dB] at h
theorem dBL_ok {K : Fg} : ∀ (ds : List D) (us : List Value), dBL K us ds = true → ∃ xs, Vals xs us ∧ ∀ F r, RpL K F r xs ds
  | [], [], _ => ⟨[], .nil, fun _ _ => .nil⟩
  | [], _ :: _, h => by simp [dBL] at h
  | _ :: _, [], h => by simp [dBL] at h
  | d :: ds, u :: us, h => by
    simp only [dBL, Bool.and_eq_true] at h
    obtain ⟨h1, h2, h3⟩ := h
    obtain ⟨v, v1, v2⟩ := dB_ok d u h1
    obtain ⟨xs, x1, x2⟩ := dBL_ok ds us h3
    exact ⟨v :: xs, .cons v1 x1, fun F r => .cons (v2 F r) h2 (x2 F r)⟩
end
/-! ### the hook -/
def gB (K : Fg) (p : Str × D) : Bool := match PySem.W.nsIn K mainGlobals p.1 with
  | some (some u) => dB K u p.2
  | _ => false
abbrev AlX : Type := Bool × He.AlD
def obsX (fa : List He.Fa) (fn : List He.DefD) (cs : List (Str × D)) (K : Fg) : AlX := (cs.all (gB K), He.obsD fa fn K)
def valX (fn : List He.DefD) : AlX := (true, He.valD fn)
def SaysX (fa : List He.Fa) (fn : List He.DefD) (cs : List (Str × D)) (K : Fg) : Prop := obsX fa fn cs K = valX fn
def obsXG (n : Nat) (fa : List He.Fa) (fn : List He.DefD) (cs : List (Str × D)) (g : Addr → Option Obj) : AlX := obsX fa fn cs (He.frG g (He.asD g n))
def hookX (n : Nat) (fa : List He.Fa) (fn : List He.DefD) (cs : List (Str × D)) : PySem.W.Hook where
  α := AlX
  obs := fun s => obsXG n fa fn cs s.heap.get?
  val := fun _ => valX fn
  says := fun _ h => ∃ K : Fg, K.In h ∧ SaysX fa fn cs K
  of := fun _ _ e => ⟨_, He.frG_in, e⟩
  keeps := fun _ _ _ ⟨K, hK, c⟩ k => ⟨K, PySem.W.Frag.In.keeps hK k, c⟩
theorem obsXG_eq {n : Nat} {fa : List He.Fa} {fn : List He.DefD} {cs : List (Str × D)} {g : Addr → Option Obj} {s : Shared} (h : ∀ a, g a = s.heap.get? a) : obsXG n fa fn cs g = (hookX n fa fn cs).obs s := by
  have e : g = s.heap.get? := funext h
  rw [e] <;> rfl
section
variable {fa : List He.Fa} {fn : List He.DefD} {cs : List (Str × D)} {K : Fg}
theorem SaysX.d (c : SaysX fa fn cs K) : He.SaysD fa fn K := congrArg (fun z : AlX => z.2) c
theorem SaysX.con (c : SaysX fa fn cs K) {x : Str} {d : D} (hm : (x, d) ∈ cs) : gB K (x, d) = true := by
  have c1 : cs.all (gB K) = true := congrArg (fun z : AlX => z.1) c
  exact List.all_eq_true.mp c1 _ hm
end
section
variable {P : Program} {w : World} {K : Fg} {mg : Str → Option Value} {h : Heap} {fns : Nat → Option Fn} {glob : Nat → Option D} {cst : Nat → Option (List (List Nat))} {tab : List (Str × Gk)}
theorem con_of (X : K.In h) (G : h.Ns mainGlobals mg) {x : Str} {d : D} {i : Nat} (c : gB K (x, d) = true) (hi : glob i = some d) : NameF K mg fns glob cst tab x (.con i) := by
  unfold gB at c
  split at c
  · rename_i u q
    obtain ⟨v, v1, v2⟩ := dB_ok d u c
    refine ⟨v, u, PySem.W.mg_of X G q, v1, fun d' F r e => ?_⟩
    rw [hi] at e
    cases e
    exact v2 F r
  · cases c
theorem fn_of' (X : K.In h) (G : h.Ns mainGlobals mg) {x : Str} {st : Stmt} {i : Nat} {N ps : List Str} {f : Fn} {a : Addr} {fd : FuncData} (g : (He.Fa.glo x).ok K = true) (F : FunD K x x (defArgs st) (defBody st) (defScope st) [] [] (He.fAd K (x, none)) fd) (hf : fns i = some f) (k : chkD tab N ps f (cst i) st = true)
    (b : ∀ (kV doc pm : Value) (an : Option Addr) (cdv ct : Value) (us : List Value), us.length = ps.length → bindArgs (PySem.W.fnOf x x (defArgs st) (defBody st) (defScope st) .none kV doc pm an cdv ct) ⟨us, []⟩ = pure (ps.zip us)) : NameF K mg fns glob cst tab x (.fn i) :=
  ⟨N, ps, f, st, hf, ⟨_, fd, x, He.glo_ok X G g, fun_of F, F.bindsN b⟩, k⟩
end
/-- the goal that the head leaves, over facts -/
theorem walk_ofX {l : PySem.W.OpenLaw} {m n : Nat} {q : Program} {loose : List Str} {XP : (Str → Option Value) → Heap → Prop} {YP : World → Heap → Prop} {d : DefRec} {CX : World → CXT} {x : Str}
    (most : l.most = some m) (small : m ≤ sizeLine) (nod : d.params.defaults = []) (room : Room n callerA)
    (F : ∀ (w : World) (mg : Str → Option Value) (fa : Addr) (h : Heap), YP w h → h.Ns mainGlobals mg → mg d.name = some (.ref fa) →
      ∃ (K : Fg) (fd : FuncData) (sp : Sp), K.In h ∧ (∀ (s : Shared) (u : Value), BindsTo s fd ⟨[u], []⟩ [(x, u)]) ∧
        (∀ (H : Hp) (a : Addr) (ns : List Int), ns.length ≤ m → Only H → SqL K H a (ns.map V.int) → sp [.ref a] H (fun v _ => v = .bl true) fun _ _ _ => False) ∧
        ∀ base : Heap, K.In base → base.Ns mainGlobals mg → FnG l.prog w K mg base (CX w) n fa fd [x] sp)
    (noX : ∀ (w : World) (H : Hp) (s : Shared) (e : Value) (t : Shared), CX w [] H s (fun _ _ _ => False) e t → False) : PySem.W.WalkO q loose XP YP l.row.toRowW d [] (fun f vs => PySem.call f vs) := by
  apply Att.attach_call most nod
  intro w s0 s1 mg mb fa o pm cd doc a us ns G Y ho hd hcd hmg hobj hints hlen hg
  obtain ⟨K, fd, sp, inK, bind, prom, FG⟩ := F w mg fa _ Y G.T.g hmg
  exact law_callG inK G.T.g G.T.b G.T.builtins G.T.nolimit hg hobj hints (Nat.le_trans hlen small) room FG bind (fun H h1 h2 => prom H a ns hlen h1 h2) (fun H e t => noX w H s1 e t)
end G
namespace G
open PySem PySem.Spec PyProof.Rows L2
theorem ints_rp {K : Fg} {F : Hp} {r : List Addr} : ∀ ns : List Int, RpL K F r (ns.map V.int) (ns.map D.int)
  | [] => .nil
  | n :: ns => .cons (.int n) rfl (ints_rp ns)
/-- the law's promise from the evaluator's word -/
theorem prom_of {K : Fg} {XR : XRel} {C : G.Cx} {i : Nat} {H : Hp} {a : Addr} {ns : List Int} {S' : List Cell} (hS : SqL K H a (ns.map V.int)) (e : C.call i [.lst (ns.map .int)] [] = .ok (.bl true) S') : spF K XR C i [.ref a] H (fun v _ => v = .bl true) fun _ _ _ => False := by
  refine ⟨H, [], [], [.lst (ns.map .int)], ⟨fun _ _ h => h, rfl, fun i j a h => ?_, fun i a h => ?_, fun i a c h => ?_⟩, .cons (.lst hS (ints_rp ns)) .nil, ?_⟩
  · simp at h
  · simp at h
  · simp at h
  · rw [e]
    intro F' H' r' _ _ v hv
    cases hv
    rfl
theorem noX_cx {P : Program} {w : World} {H : Hp} {s : Shared} {e : Value} {t : Shared} (h : L2.CX P w [] H s (fun _ _ _ => False) e t) : False := by
  obtain ⟨_, _, _, _, _, _, _, _, _, _, _, _, z⟩ := h
  exact z
end G
end S_GHead
section S_GM
set_option linter.all false
/-! GM: the evaluator, step by step (for simp). -/
namespace G
def Fl.nxt : Fl → (List Sl → List Cell → Fl) → Fl
  | .nx sl S, f => f sl S
  | .ret d S, _ => .ret d S
  | .brk sl S, _ => .brk sl S
  | .cnt sl S, _ => .cnt sl S
  | .exc c x sl S, _ => .exc c x sl S
  | .stk, _ => .stk
section
variable {α β : Type} {S : List Cell} {sl : List Sl} {C : Cx}
@[simp] theorem nxt_nx {f} : (Fl.nx sl S).nxt f = f sl S := (rfl)
@[simp] theorem nxt_ret {d f} : (Fl.ret d S).nxt f = .ret d S := (rfl)
@[simp] theorem nxt_brk {f} : (Fl.brk sl S).nxt f = .brk sl S := (rfl)
@[simp] theorem nxt_cnt {f} : (Fl.cnt sl S).nxt f = .cnt sl S := (rfl)
@[simp] theorem nxt_stk {f} : (Fl.stk).nxt f = .stk := (rfl)
@[simp] theorem nxt_ite {c : Prop} [Decidable c] {x y : Fl} {f} : (if c then x else y).nxt f = if c then x.nxt f else y.nxt f := by split <;> rfl
@[simp] theorem out_nx : (Fl.nx sl S).out = .ok .non S := (rfl)
@[simp] theorem out_ret {d} : (Fl.ret d S).out = .ok d S := (rfl)
@[simp] theorem out_ite {c : Prop} [Decidable c] {x y : Fl} : (if c then x else y).out = if c then x.out else y.out := by split <;> rfl
@[simp] theorem bind_ok {a : α} {f : α → List Cell → Rs β} : (Rs.ok a S).bind f = f a S := (rfl)
@[simp] theorem bind_stk {f : α → List Cell → Rs β} : (Rs.stk).bind f = .stk := (rfl)
@[simp] theorem bind_ite {c : Prop} [Decidable c] {x y : Rs α} {f : α → List Cell → Rs β} : (if c then x else y).bind f = if c then x.bind f else y.bind f := by split <;> rfl
@[simp] theorem of_some {a : α} : Rs.of S (some a) = .ok a S := (rfl)
@[simp] theorem of_none : Rs.of S (none : Option α) = .stk := (rfl)
@[simp] theorem of_ite {c : Prop} [Decidable c] {x y : Option α} : Rs.of S (if c then x else y) = if c then Rs.of S x else Rs.of S y := by split <;> rfl
@[simp] theorem fl_ok {a : α} {f : α → List Cell → Fl} : (Rs.ok a S).fl sl f = f a S := (rfl)
@[simp] theorem fl_stk {f : α → List Cell → Fl} : (Rs.stk).fl sl f = .stk := (rfl)
@[simp] theorem fl_ite {c : Prop} [Decidable c] {x y : Rs α} {f : α → List Cell → Fl} : (if c then x else y).fl sl f = if c then x.fl sl f else y.fl sl f := by split <;> rfl
/-- a value in a slot -/
def slV : Option Sl → List Cell → Rs D
  | some (.v d), S => .ok d S
  | _, _ => .stk
def slB : Option Sl → List Cell → Rs D
  | some (.v d), S => .ok d S
  | some (.own xs), S => .ok (.lst xs) S
  | _, _ => .stk
@[simp] theorem slV_v {d} : slV (some (.v d)) S = .ok d S := (rfl)
@[simp] theorem slB_v {d} : slB (some (.v d)) S = .ok d S := (rfl)
@[simp] theorem slB_own {xs} : slB (some (.own xs)) S = .ok (.lst xs) S := (rfl)
@[simp] theorem evE_k {d} : evE C (.k d) sl S = .ok d S := (rfl)
@[simp] theorem evE_v {i} : evE C (.v i) sl S = slV sl[i]? S := by unfold evE slV; split <;> rename_i h <;> simp [h]
@[simp] theorem evE_b {i} : evE C (.b i) sl S = slB sl[i]? S := by
  show (match sl[i]? with | some (.v d) => _ | some (.own xs) => _ | _ => _) = _
  cases sl[i]? with
  | none => rfl
  | some x => cases x <;> rfl
@[simp] theorem evE_g {n} : evE C (.g n) sl S = .of S (C.glob n) := (rfl)
@[simp] theorem evE_tup {es} : evE C (.tup es) sl S = (evL C es sl S).bind fun ds S => if ds.all D.pur then .ok (.tup ds) S else .stk := (rfl)
@[simp] theorem evE_lst {es} : evE C (.lst es) sl S = (evL C es sl S).bind fun ds S => if ds.all D.pur then .ok (.lst ds) S else .stk := (rfl)
@[simp] theorem evE_mk {es} : evE C (.mk es) sl S = (evL C es sl S).bind fun ds S => if ds.all D.pur then .ok (.loc S.length) (S ++ [.lst ds]) else .stk := (rfl)
@[simp] theorem evE_bin {o a b} : evE C (.bin o a b) sl S = (evE C a sl S).bind fun x S => (evE C b sl S).bind fun y S => .of S (pBin o (dr S x) (dr S y)) := (rfl)
def pNeg : D → Option D
  | .int i => some (.int (-i))
  | _ => none
@[simp] theorem pNeg_int {i} : pNeg (.int i) = some (.int (-i)) := (rfl)
@[simp] theorem evE_neg {a} : evE C (.neg a) sl S = (evE C a sl S).bind fun x S => .of S (pNeg x) := by
  show (evE C a sl S).bind _ = (evE C a sl S).bind _
  congr 1
  funext x S
  cases x <;> rfl
@[simp] theorem evE_cmp {o a b} : evE C (.cmp o a b) sl S = (evE C a sl S).bind fun x S => (evE C b sl S).bind fun y S => .of S ((pCmp o (dr S x) (dr S y)).map .bl) := (rfl)
@[simp] theorem evE_chn {o o' a b c} : evE C (.chn o o' a b c) sl S = (evE C a sl S).bind fun x S => (evE C b sl S).bind fun y S => (Rs.of S (pCmp o (dr S x) (dr S y))).bind fun t S => if t then (evE C c sl S).bind fun z S => .of S ((pCmp o' (dr S y) (dr S z)).map .bl) else .ok (.bl false) S := by
  show (evE C a sl S).bind _ = (evE C a sl S).bind _
  congr 1
  funext x S
  congr 1
  funext y S
  cases pCmp o (dr S x) (dr S y) with
  | none => rfl
  | some t => cases t <;> rfl
@[simp] theorem evE_and {es} : evE C (.and es) sl S = evAnd C es sl S := (rfl)
@[simp] theorem evE_or {es} : evE C (.or es) sl S = evOr C es sl S := (rfl)
@[simp] theorem evE_not {a} : evE C (.not a) sl S = (evT C a sl S).bind fun b S => .ok (.bl (!b)) S := (rfl)
@[simp] theorem evE_ite {c a b} : evE C (.ite c a b) sl S = (evT C c sl S).bind fun t S => if t then evE C a sl S else evE C b sl S := (rfl)
@[simp] theorem evE_ix {a i} : evE C (.ix a i) sl S = (evE C a sl S).bind fun x S => (evE C i sl S).bind fun y S => .of S (pIx (dr S x) y) := (rfl)
@[simp] theorem evE_sl {a lo hi} : evE C (.sl a lo hi) sl S = (evE C a sl S).bind fun x S => (evO C lo sl S).bind fun l S => (evO C hi sl S).bind fun h S => .of S (pSl (dr S x) l h) := (rfl)
@[simp] theorem evE_cal {f es} : evE C (.cal f es) sl S = (evL C es sl S).bind fun ds S => C.call f ds S := (rfl)
@[simp] theorem evE_blt {f es} : evE C (.blt f es) sl S = (evL C es sl S).bind fun ds S => .of S (pB f (ds.map (dr S))) := (rfl)
@[simp] theorem evE_mth {m o es} : evE C (.mth m o es) sl S = (evE C o sl S).bind fun x S => if recvOk m x then (evL C es sl S).bind fun ds S => .of S (pM m x ds) else .stk := (rfl)
def ixcR (S : List Cell) (m : Rs D) : Option (List (List Nat)) → Rs D
  | some ss => m.bind fun y S => .of S (placeC ss y)
  | none => .stk
@[simp] theorem evE_ixc {f e} : evE C (.ixc f e) sl S = ixcR S (evE C e sl S) (C.cst f) := by
  show (match C.cst f with | some ss => _ | none => _) = _
  cases C.cst f <;> rfl
@[simp] theorem ixcR_some {m ss} : ixcR S m (some ss) = m.bind fun y S => .of S (placeC ss y) := (rfl)
/-- one turn of a comprehension -/
def turn (C : Cx) (tg : Tg) (elt : E) (cond : List B) (sl : List Sl) (d : D) (S : List Cell) : Rs (Option D) := match tgSet tg d sl with
  | none => .stk
  | some sl' => (evCs C cond sl' S).bind fun t S => if t then (evE C elt sl' S).bind fun y S => if y.pur then .ok (some y) S else .stk else .ok none S
@[simp] theorem evE_comp {tg it elt cond} : evE C (.comp tg it elt cond) sl S = (evI C it sl S).bind fun ds S => (compL (turn C tg elt cond sl) ds S []).bind fun ys S => .ok (.lst ys) S := (rfl)
@[simp] theorem evT_tr {e} : evT C (.tr e) sl S = (evE C e sl S).bind fun d S => .of S (truthy (dr S d)) := (rfl)
@[simp] theorem evT_and {es} : evT C (.and es) sl S = evAndT C es sl S := (rfl)
@[simp] theorem evT_or {es} : evT C (.or es) sl S = evOrT C es sl S := (rfl)
@[simp] theorem evT_not {a} : evT C (.not a) sl S = (evT C a sl S).bind fun b S => .ok (!b) S := (rfl)
@[simp] theorem evAnd_one {e} : evAnd C [e] sl S = (evE C e sl S).bind fun d S => .ok d S := (rfl)
@[simp] theorem evAnd_two {e e2 es} : evAnd C (e :: e2 :: es) sl S = (evE C e sl S).bind fun d S => (Rs.of S (truthy (dr S d))).bind fun t S => if t then evAnd C (e2 :: es) sl S else .ok d S := by
  rw [evAnd]
  congr 1
  funext d S
  cases truthy (dr S d) with
  | none => rfl
  | some t => cases t <;> rfl
@[simp] theorem evOr_one {e} : evOr C [e] sl S = (evE C e sl S).bind fun d S => .ok d S := (rfl)
@[simp] theorem evOr_two {e e2 es} : evOr C (e :: e2 :: es) sl S = (evE C e sl S).bind fun d S => (Rs.of S (truthy (dr S d))).bind fun t S => if t then .ok d S else evOr C (e2 :: es) sl S := by
  rw [evOr]
  congr 1
  funext d S
  cases truthy (dr S d) with
  | none => rfl
  | some t => cases t <;> rfl
@[simp] theorem evAndT_nil : evAndT C [] sl S = .ok true S := (rfl)
@[simp] theorem evAndT_cons {e es} : evAndT C (e :: es) sl S = (evT C e sl S).bind fun b S => if b then evAndT C es sl S else .ok false S := (rfl)
@[simp] theorem evOrT_nil : evOrT C [] sl S = .ok false S := (rfl)
@[simp] theorem evOrT_cons {e es} : evOrT C (e :: es) sl S = (evT C e sl S).bind fun b S => if b then .ok true S else evOrT C es sl S := (rfl)
@[simp] theorem evCs_nil : evCs C [] sl S = .ok true S := (rfl)
@[simp] theorem evCs_cons {e es} : evCs C (e :: es) sl S = evT C e sl S := (rfl)
@[simp] theorem evL_nil : evL C [] sl S = .ok [] S := (rfl)
@[simp] theorem evL_cons {e es} : evL C (e :: es) sl S = (evE C e sl S).bind fun d S => (evL C es sl S).bind fun ds S => .ok (d :: ds) S := (rfl)
@[simp] theorem evO_none : evO C none sl S = .ok none S := (rfl)
def toI : D → Option (Option Int)
  | .int i => some (some i)
  | _ => none
@[simp] theorem toI_int {i} : toI (.int i) = some (some i) := (rfl)
@[simp] theorem evO_some {e} : evO C (some e) sl S = (evE C e sl S).bind fun d S => .of S (toI d) := by
  show (evE C e sl S).bind _ = (evE C e sl S).bind _
  congr 1
  funext x S
  cases x <;> rfl
@[simp] theorem evI_rng {es} : evI C (.rng es) sl S = (evL C es sl S).bind fun ds S => .of S (pRng ds) := (rfl)
@[simp] theorem evI_e {e} : evI C (.e e) sl S = (evE C e sl S).bind fun d S => .of S (items d) := (rfl)
/-! statements -/
@[simp] theorem evB_nil : evB C [] sl S = .nx sl S := (rfl)
@[simp] theorem evB_cons {t ts} : evB C (t :: ts) sl S = (evS C t sl S).nxt fun sl S => evB C ts sl S := by
  rw [evB]
  cases evS C t sl S <;> rfl
@[simp] theorem evS_set {i e} : evS C (.set i e) sl S = (evE C e sl S).fl sl fun d S => .nx (sl.set i (.v d)) S := (rfl)
def flO (sl : List Sl) (i : Nat) : D → List Cell → Fl
  | .lst xs, S => .nx (sl.set i (.own xs)) S
  | _, _ => .stk
@[simp] theorem flO_lst {i xs} : flO sl i (.lst xs) S = .nx (sl.set i (.own xs)) S := (rfl)
@[simp] theorem evS_setO {i e} : evS C (.setO i e) sl S = (evE C e sl S).fl sl (flO sl i) := by
  show (evE C e sl S).fl sl _ = _
  congr 1
  funext d S
  cases d <;> rfl
def flOf (S : List Cell) : Option (List Sl) → Fl
  | some sl => .nx sl S
  | none => .stk
@[simp] theorem flOf_some : flOf S (some sl) = .nx sl S := (rfl)
@[simp] theorem evS_unp {tg e} : evS C (.unp tg e) sl S = (evE C e sl S).fl sl fun d S => flOf S (tgSet tg d sl) := by
  show (evE C e sl S).fl sl _ = (evE C e sl S).fl sl _
  congr 1
def frzS (sl : List Sl) (i : Nat) (S : List Cell) : Option Sl → Fl
  | some (.own xs) => .nx (sl.set i (.v (.lst xs))) S
  | some (.v _) => .nx sl S
  | _ => .stk
@[simp] theorem frzS_own {i xs} : frzS sl i S (some (.own xs)) = .nx (sl.set i (.v (.lst xs))) S := (rfl)
@[simp] theorem frzS_v {i d} : frzS sl i S (some (.v d)) = .nx sl S := (rfl)
@[simp] theorem evS_frz {i} : evS C (.frz i) sl S = frzS sl i S sl[i]? := by
  show (match sl[i]? with | some (.own xs) => _ | some (.v _) => _ | _ => _) = _
  cases sl[i]? with
  | none => rfl
  | some x => cases x <;> rfl
@[simp] theorem evS_app {o e} : evS C (.app o e) sl S = if lstAt o sl S then (evE C e sl S).fl sl fun d S => if d.pur then chg o (fun xs => if xs.length < lim then some (xs ++ [d]) else none) C sl S else .stk else .stk := (rfl)
def extF (o : E) (C : Cx) (sl : List Sl) : D → List Cell → Fl
  | .lst ys, S => chg o (fun xs => if xs.length + ys.length ≤ lim then some (xs ++ ys) else none) C sl S
  | _, _ => .stk
@[simp] theorem extF_lst {o ys} : extF o C sl (.lst ys) S = chg o (fun xs => if xs.length + ys.length ≤ lim then some (xs ++ ys) else none) C sl S := (rfl)
@[simp] theorem evS_ext {o e} : evS C (.ext o e) sl S = if lstAt o sl S then (evE C e sl S).fl sl (extF o C sl) else .stk := by
  show (if lstAt o sl S then (evE C e sl S).fl sl _ else .stk) = _
  congr 1
  congr 1
  funext d S
  cases d <;> rfl
def subF (o : E) (C : Cx) (sl : List Sl) (d : D) : D → List Cell → Fl
  | .int j, S => if d.pur then chg o (fun xs => (ixN xs.length j).map fun k => xs.set k d) C sl S else .stk
  | _, _ => .stk
@[simp] theorem subF_int {o d j} : subF o C sl d (.int j) S = if d.pur then chg o (fun xs => (ixN xs.length j).map fun k => xs.set k d) C sl S else .stk := (rfl)
@[simp] theorem evS_sub {o i e} : evS C (.sub o i e) sl S = (evE C e sl S).fl sl fun d S => if lstAt o sl S then (evE C i sl S).fl sl (subF o C sl d) else .stk := by
  show (evE C e sl S).fl sl _ = _
  congr 1
  funext d S
  congr 1
  congr 1
  funext j S
  cases j <;> rfl
def augF (o : Op2) (i : Nat) (m : Rs D) (sl : List Sl) : Option Sl → Fl
  | some (.v x) => m.fl sl fun y S => flOf S ((pAug o x y).map fun z => sl.set i (.v z))
  | _ => .stk
@[simp] theorem augF_v {o i m x} : augF o i m sl (some (.v x)) = m.fl sl fun y S => flOf S ((pAug o x y).map fun z => sl.set i (.v z)) := (rfl)
@[simp] theorem evS_aug {i o e} : evS C (.aug i o e) sl S = augF o i (evE C e sl S) sl sl[i]? := by
  show (match sl[i]? with | some (.v x) => _ | _ => _) = _
  cases sl[i]? with
  | none => rfl
  | some x =>
    cases x with
    | v x =>
      show (evE C e sl S).fl sl _ = (evE C e sl S).fl sl _
      congr 1
      funext y S
      cases pAug o x y <;> rfl
    | _ => rfl
@[simp] theorem evS_exp {e} : evS C (.exp e) sl S = (evE C e sl S).fl sl fun _ S => .nx sl S := (rfl)
@[simp] theorem evS_ife {c a b} : evS C (.ife c a b) sl S = (evT C c sl S).fl sl fun t S => if t then evB C a sl S else evB C b sl S := (rfl)
/-- one turn of a for -/
def turnS (C : Cx) (tg : Tg) (b : List T) (d : D) (sl : List Sl) (S : List Cell) : Fl := match tgSet tg d sl with
  | some sl => evB C b sl S
  | none => .stk
@[simp] theorem evS_for {tg it b} : evS C (.for_ tg it b) sl S = (evI C it sl S).fl sl fun ds S => forL (turnS C tg b) ds sl S := (rfl)
@[simp] theorem evS_whl {c b} : evS C (.whl c b) sl S = whlL (fun sl S => evT C c sl S) (fun sl S => evB C b sl S) C.wf sl S := (rfl)
@[simp] theorem evS_ret {e} : evS C (.ret e) sl S = (evE C e sl S).fl sl fun d S => .ret d S := (rfl)
@[simp] theorem evS_ret0 : evS C .ret0 sl S = .ret .non S := (rfl)
@[simp] theorem evS_cnt : evS C .cnt sl S = .cnt sl S := (rfl)
@[simp] theorem evS_brk : evS C .brk sl S = .brk sl S := (rfl)
@[simp] theorem evS_pas : evS C .pas sl S = .nx sl S := (rfl)
/-! values -/
@[simp] theorem dr_non : dr S .non = .non := (rfl)
@[simp] theorem dr_bl {b} : dr S (.bl b) = .bl b := (rfl)
@[simp] theorem dr_int {b} : dr S (.int b) = .int b := (rfl)
@[simp] theorem dr_str {b} : dr S (.str b) = .str b := (rfl)
@[simp] theorem dr_tup {b} : dr S (.tup b) = .tup b := (rfl)
@[simp] theorem dr_lst {b} : dr S (.lst b) = .lst b := (rfl)
theorem dr_pur {d : D} (h : d.pur = true) : dr S d = d := by
  cases d <;> first | rfl | cases h
@[simp] theorem tgSet_s {i d} : tgSet (.s i) d sl = some (sl.set i (.v d)) := (rfl)
@[simp] theorem tgSet_t {ts ds} : tgSet (.t ts) (.tup ds) sl = tgSetL ts ds sl := (rfl)
@[simp] theorem tgSetL_nil : tgSetL [] [] sl = some sl := (rfl)
@[simp] theorem tgSetL_cons {t ts d ds} : tgSetL (t :: ts) (d :: ds) sl = (tgSet t d sl).bind fun sl => tgSetL ts ds sl := (rfl)
end
end G
end S_GM
section S_GM2
set_option linter.all false
/-! GM2: values, for simp; lists that a comprehension makes. -/
namespace G
section
variable {S : List Cell} {sl : List Sl} {C : Cx}
@[simp] theorem isT_non {t} : isT t .non = some false := by cases t <;> rfl
@[simp] theorem isT_bl {t b} : isT t (.bl b) = some (match t with | .int => true | .bool => true | _ => false) := by cases t <;> rfl
@[simp] theorem isT_int {t b} : isT t (.int b) = some (match t with | .int => true | _ => false) := by cases t <;> rfl
@[simp] theorem isT_str {t b} : isT t (.str b) = some (match t with | .str => true | _ => false) := by cases t <;> rfl
@[simp] theorem isT_tup {t b} : isT t (.tup b) = some (match t with | .tup => true | _ => false) := by cases t <;> rfl
@[simp] theorem isT_lst {t b} : isT t (.lst b) = some (match t with | .lst => true | _ => false) := by cases t <;> rfl
@[simp] theorem pB_isa {t d} : pB (.isa t) [d] = (isT t d).map .bl := (rfl)
@[simp] theorem pB_len_tup {xs} : pB .len [.tup xs] = some (.int xs.length) := (rfl)
@[simp] theorem pB_len_lst {xs} : pB .len [.lst xs] = some (.int xs.length) := (rfl)
@[simp] theorem pB_len_str {xs} : pB .len [.str xs] = some (.int xs.length) := (rfl)
@[simp] theorem pB_int_int {i} : pB .int [.int i] = some (.int i) := (rfl)
@[simp] theorem pB_list_tup {xs} : pB .list [.tup xs] = some (.lst xs) := (rfl)
@[simp] theorem pB_list_lst {xs} : pB .list [.lst xs] = some (.lst xs) := (rfl)
@[simp] theorem pB_tuple_tup {xs} : pB .tuple [.tup xs] = some (.tup xs) := (rfl)
@[simp] theorem pB_tuple_lst {xs} : pB .tuple [.lst xs] = some (.tup xs) := (rfl)
@[simp] theorem pB_max {i j} : pB .max2 [.int i, .int j] = some (.int (if j > i then j else i)) := (rfl)
@[simp] theorem pB_min {i j} : pB .min2 [.int i, .int j] = some (.int (if j < i then j else i)) := (rfl)
theorem asBls_map {α} (p : α → Bool) : ∀ xs : List α, asBls (xs.map fun x => .bl (p x)) = some (xs.map p)
  | [] => rfl
  | x :: xs => by
    show (asBls (xs.map fun x => .bl (p x))).map (p x :: ·) = _
    rw [asBls_map p xs]
    rfl
theorem asInts_map {α} (p : α → Int) : ∀ xs : List α, asInts (xs.map fun x => .int (p x)) = some (xs.map p)
  | [] => rfl
  | x :: xs => by
    show (asInts (xs.map fun x => .int (p x))).map (p x :: ·) = _
    rw [asInts_map p xs]
    rfl
theorem asStrs_map {α} (p : α → List Nat) : ∀ xs : List α, asStrs (xs.map fun x => .str (p x)) = some (xs.map p)
  | [] => rfl
  | x :: xs => by
    show (asStrs (xs.map fun x => .str (p x))).map (p x :: ·) = _
    rw [asStrs_map p xs]
    rfl
@[simp] theorem pB_all {α} {p : α → Bool} {xs : List α} : pB .all [.lst (xs.map fun x => .bl (p x))] = some (.bl (xs.all p)) := by
  show (asBls _).map _ = _
  rw [asBls_map]
  simp [List.all_map, Function.comp_def]
@[simp] theorem tru_non : truthy .non = some false := (rfl)
@[simp] theorem tru_bl {b} : truthy (.bl b) = some b := (rfl)
@[simp] theorem tru_int {i} : truthy (.int i) = some (i != 0) := (rfl)
@[simp] theorem cmp_lt {i j} : pCmp .lt (.int i) (.int j) = some (decide (i < j)) := (rfl)
@[simp] theorem cmp_le {i j} : pCmp .le (.int i) (.int j) = some (decide (i ≤ j)) := (rfl)
@[simp] theorem cmp_gt {i j} : pCmp .gt (.int i) (.int j) = some (decide (j < i)) := (rfl)
@[simp] theorem cmp_ge {i j} : pCmp .ge (.int i) (.int j) = some (decide (j ≤ i)) := (rfl)
@[simp] theorem cmp_eq_int {i j} : pCmp .eq (.int i) (.int j) = some (i == j) := (rfl)
@[simp] theorem cmp_ne_int {i j} : pCmp .ne (.int i) (.int j) = some (!(i == j)) := (rfl)
@[simp] theorem cmp_eq_str {i j} : pCmp .eq (.str i) (.str j) = some (i == j) := (rfl)
@[simp] theorem cmp_ne_str {i j} : pCmp .ne (.str i) (.str j) = some (!(i == j)) := (rfl)
@[simp] theorem cmp_eq_bl {i j} : pCmp .eq (.bl i) (.bl j) = some (i == j) := (rfl)
@[simp] theorem cmp_isn {a} : pCmp .isn a .non = some a.isNon := by cases a <;> rfl
@[simp] theorem cmp_isnot {a} : pCmp .isnot a .non = some (!a.isNon) := by cases a <;> rfl
@[simp] theorem isNon_non : D.isNon .non = true := (rfl)
@[simp] theorem isNon_bl {b} : D.isNon (.bl b) = false := (rfl)
@[simp] theorem isNon_int {b} : D.isNon (.int b) = false := (rfl)
@[simp] theorem isNon_str {b} : D.isNon (.str b) = false := (rfl)
@[simp] theorem isNon_tup {b} : D.isNon (.tup b) = false := (rfl)
@[simp] theorem isNon_lst {b} : D.isNon (.lst b) = false := (rfl)
@[simp] theorem pur_non : D.pur .non = true := by simp only [D.pur]
@[simp] theorem pur_bl {b} : D.pur (.bl b) = true := by simp only [D.pur]
@[simp] theorem pur_int {b} : D.pur (.int b) = true := by simp only [D.pur]
@[simp] theorem pur_str {b} : D.pur (.str b) = true := by simp only [D.pur]
@[simp] theorem pur_tup {b} : D.pur (.tup b) = true := by simp only [D.pur]
@[simp] theorem pur_lst {b} : D.pur (.lst b) = true := by simp only [D.pur]
theorem cmp_eq_d {a b : D} (ha : a.pur = true) (hb : b.pur = true) (h : b.dep ≤ 60) : pCmp .eq a b = some (D.eqv a b) := by
  show (if D.eqOk a b then _ else _) = _
  rw [if_pos (by simp [D.eqOk, ha, hb, h])]
theorem cmp_ne_d {a b : D} (ha : a.pur = true) (hb : b.pur = true) (h : b.dep ≤ 60) : pCmp .ne a b = some (!D.eqv a b) := by
  show (if D.eqOk a b then _ else _) = _
  rw [if_pos (by simp [D.eqOk, ha, hb, h])]
theorem cmp_in_tup {a : D} {ys : List D} (ha : a.pur = true) (h : D.depL ys ≤ 60) : pCmp .isin a (.tup ys) = some (ys.any fun y => D.eqv y a) := by
  show pIn a (.tup ys) = _
  unfold pIn
  dsimp only
  rw [if_pos (by simp [ha, h])]
theorem cmp_in_lst {a : D} {ys : List D} (ha : a.pur = true) (h : a.dep ≤ 60) : pCmp .isin a (.lst ys) = some (ys.any fun y => D.eqv y a) := by
  show pIn a (.lst ys) = _
  unfold pIn
  dsimp only
  rw [if_pos (by simp [ha, h])]
theorem cmp_notin {a b : D} : pCmp .notin a b = (pCmp .isin a b).map (!·) := by
  cases a <;> cases b <;> rfl
@[simp] theorem cmp_in_sign {c y} : pCmp .isin (.str [c]) (.str y) = some (y.contains c) := (rfl)
@[simp] theorem dep_non : D.dep .non = 0 := by simp only [D.dep]
@[simp] theorem dep_bl {b} : D.dep (.bl b) = 0 := by simp only [D.dep]
@[simp] theorem dep_int {b} : D.dep (.int b) = 0 := by simp only [D.dep]
@[simp] theorem dep_str {b} : D.dep (.str b) = 0 := by simp only [D.dep]
@[simp] theorem dep_tup {b} : D.dep (.tup b) = D.depL b + 1 := by simp only [D.dep]
@[simp] theorem dep_lst {b} : D.dep (.lst b) = D.depL b + 1 := by simp only [D.dep]
@[simp] theorem depL_nil : D.depL [] = 0 := by simp only [D.depL]
@[simp] theorem depL_cons {x xs} : D.depL (x :: xs) = max x.dep (D.depL xs) := by simp only [D.depL]
@[simp] theorem eqv_int {i j} : D.eqv (.int i) (.int j) = (i == j) := (rfl)
@[simp] theorem eqv_str {i j} : D.eqv (.str i) (.str j) = (i == j) := (rfl)
@[simp] theorem eqv_tup {i j} : D.eqv (.tup i) (.tup j) = D.eqvL i j := (rfl)
@[simp] theorem eqv_lst {i j} : D.eqv (.lst i) (.lst j) = D.eqvL i j := (rfl)
@[simp] theorem eqvL_nil : D.eqvL [] [] = true := (rfl)
@[simp] theorem eqvL_nc {x xs} : D.eqvL [] (x :: xs) = false := (rfl)
@[simp] theorem eqvL_cn {x xs} : D.eqvL (x :: xs) [] = false := (rfl)
@[simp] theorem eqvL_cc {x xs y ys} : D.eqvL (x :: xs) (y :: ys) = (D.eqv x y && D.eqvL xs ys) := (rfl)
@[simp] theorem eqv_str_l {s d} : D.eqv (.str s) d = match d with | .str t => s == t | _ => false := by cases d <;> rfl
theorem eqv_tup_l {s d} : D.eqv (.tup s) d = match d with | .tup t => D.eqvL s t | _ => false := by cases d <;> rfl
@[simp] theorem add_int {i j} : pBin .add (.int i) (.int j) = some (.int (i + j)) := (rfl)
@[simp] theorem sub_int {i j} : pBin .sub (.int i) (.int j) = some (.int (i - j)) := (rfl)
theorem add_tup {x y : List D} (h : x.length + y.length ≤ lim) : pBin .add (.tup x) (.tup y) = some (.tup (x ++ y)) := by
  show (if _ then _ else _) = _
  rw [if_pos h]
theorem add_lst {x y : List D} (h : x.length + y.length ≤ lim) : pBin .add (.lst x) (.lst y) = some (.lst (x ++ y)) := by
  show (if _ then _ else _) = _
  rw [if_pos h]
theorem add_str {x y : List Nat} (h : x.length + y.length ≤ lim) : pBin .add (.str x) (.str y) = some (.str (x ++ y)) := by
  show (if _ then _ else _) = _
  rw [if_pos h]
theorem mul_small {i j : Int} (h : smallI i = true ∨ smallI j = true) : pBin .mul (.int i) (.int j) = some (.int (i * j)) := by
  show (if _ then _ else _) = _
  rw [if_pos (by simpa using h)]
theorem mod_pos {i j : Int} (h : 0 < j) : pBin .mod (.int i) (.int j) = some (.int (i % j)) := by
  show (if _ then _ else _) = _
  rw [if_pos h]
theorem fdiv_pos {i j : Int} (h : 0 < j) (h2 : j < 2 ^ 63) : pBin .fdiv (.int i) (.int j) = some (.int (i / j)) := by
  show (if _ then _ else _) = _
  rw [if_pos ⟨h, by omega⟩]
@[simp] theorem ix_tup {xs i} : pIx (.tup xs) (.int i) = atI xs i := (rfl)
@[simp] theorem ix_lst {xs i} : pIx (.lst xs) (.int i) = atI xs i := (rfl)
@[simp] theorem ix_str {xs i} : pIx (.str xs) (.int i) = (atI xs i).map fun c => .str [c] := (rfl)
theorem atI_nat {α} {xs : List α} {i : Nat} : atI xs (i : Int) = xs[i]? := by
  unfold atI ixN
  have h0 : (0 : Int) ≤ (i : Int) := by omega
  rw [if_pos h0]
  by_cases h : i < xs.length
  · rw [if_pos (by omega)]
    simp
  · rw [if_neg (by omega), List.getElem?_eq_none (by omega)]
    rfl
@[simp] theorem atI_0 {α} {xs : List α} : atI xs 0 = xs[0]? := atI_nat (i := 0)
@[simp] theorem atI_1 {α} {xs : List α} : atI xs 1 = xs[1]? := atI_nat (i := 1)
@[simp] theorem atI_2 {α} {xs : List α} : atI xs 2 = xs[2]? := atI_nat (i := 2)
@[simp] theorem atI_3 {α} {xs : List α} : atI xs 3 = xs[3]? := atI_nat (i := 3)
@[simp] theorem atI_4 {α} {xs : List α} : atI xs 4 = xs[4]? := atI_nat (i := 4)
theorem atI_m1 {α} {xs : List α} {x : α} : atI (xs ++ [x]) (-1) = some x := by
  unfold atI ixN
  rw [if_neg (by omega), List.length_append, List.length_singleton, if_pos (by omega)]
  have : ((-1 : Int) + ((xs.length + 1 : Nat) : Int)).toNat = xs.length := by omega
  show (xs ++ [x])[((-1 : Int) + ((xs.length + 1 : Nat) : Int)).toNat]? = some x
  rw [this]
  simp
@[simp] theorem items_lst {xs} : items (.lst xs) = some xs := (rfl)
@[simp] theorem items_tup {xs} : items (.tup xs) = some xs := (rfl)
@[simp] theorem items_str {xs} : items (.str xs) = some (xs.map fun c => .str [c]) := (rfl)
theorem cut_from {α} {xs : List α} {k : Nat} : cut xs (some (k : Int)) none = xs.drop k := by
  unfold cut sIx
  dsimp only
  rw [if_neg (by omega)]
  show List.take (xs.length - min k xs.length) (xs.drop (min k xs.length)) = xs.drop k
  by_cases h : k ≤ xs.length
  · rw [Nat.min_eq_left h, List.take_of_length_le (by rw [List.length_drop]; omega)]
  · rw [Nat.min_eq_right (by omega), List.drop_length, List.take_nil, List.drop_eq_nil_of_le (by omega)]
theorem cut_to {α} {xs : List α} {k : Nat} : cut xs none (some (k : Int)) = xs.take k := by
  unfold cut sIx
  dsimp only
  rw [if_neg (by omega), List.drop_zero, Nat.sub_zero, Int.toNat_natCast]
  by_cases h : k ≤ xs.length
  · rw [Nat.min_eq_left h]
  · rw [Nat.min_eq_right (by omega), List.take_length, List.take_of_length_le (by omega)]
/-! comprehensions -/
theorem compL_map {f : D → List Cell → Rs (Option D)} {g : D → D} : ∀ {ds acc : List D}, (∀ d ∈ ds, f d S = .ok (some (g d)) S) → acc.length + ds.length ≤ lim → compL f ds S acc = .ok (acc ++ ds.map g) S
  | [], acc, _, _ => by simp [compL]
  | d :: ds, acc, h, hl => by
    rw [List.length_cons] at hl
    unfold compL
    rw [h d List.mem_cons_self]
    dsimp only
    rw [if_pos (by omega), compL_map (fun e he => h e (List.mem_cons_of_mem _ he)) (by rw [List.length_append, List.length_singleton]; omega)]
    simp
theorem compL_filter {f : D → List Cell → Rs (Option D)} {g : D → D} {p : D → Bool} : ∀ {ds acc : List D}, (∀ d ∈ ds, f d S = .ok (if p d then some (g d) else none) S) → acc.length + ds.length ≤ lim → compL f ds S acc = .ok (acc ++ (ds.filter p).map g) S
  | [], acc, _, _ => by simp [compL]
  | d :: ds, acc, h, hl => by
    rw [List.length_cons] at hl
    unfold compL
    rw [h d List.mem_cons_self]
    cases hp : p d with
    | true =>
      simp only [if_true]
      rw [if_pos (by omega), compL_filter (fun e he => h e (List.mem_cons_of_mem _ he)) (by rw [List.length_append, List.length_singleton]; omega)]
      simp [hp]
    | false =>
      simp only [Bool.false_eq_true, if_false]
      rw [compL_filter (fun e he => h e (List.mem_cons_of_mem _ he)) (by omega)]
      simp [hp]
theorem compA {f : D → List Cell → Rs (Option D)} (g : D → D) {ds : List D} (hl : ds.length ≤ lim) (h : ∀ d ∈ ds, f d S = .ok (some (g d)) S) : compL f ds S [] = .ok (ds.map g) S := by
  rw [compL_map h (by simpa using hl)]
  rfl
theorem compF {f : D → List Cell → Rs (Option D)} (p : D → Bool) (g : D → D) {ds : List D} (hl : ds.length ≤ lim) (h : ∀ d ∈ ds, f d S = .ok (if p d then some (g d) else none) S) : compL f ds S [] = .ok ((ds.filter p).map g) S := by
  rw [compL_filter h (by simpa using hl)]
  rfl
/-! loops that look for a fault -/
theorem forL_all {f : D → List Sl → List Cell → Fl} {r : D} (I : List Sl → Prop) (p : D → Bool) : ∀ {ds : List D}, (∀ d ∈ ds, ∀ sl, I sl → if p d then ∃ sl', I sl' ∧ (f d sl S = .nx sl' S ∨ f d sl S = .cnt sl' S) else f d sl S = .ret r S) → ∀ sl, I sl → if ds.all p then ∃ sl', I sl' ∧ forL f ds sl S = .nx sl' S else forL f ds sl S = .ret r S
  | [], _, sl, hI => by
    simp [forL]
    exact hI
  | d :: ds, h, sl, hI => by
    have h1 := h d List.mem_cons_self sl hI
    rw [List.all_cons]
    unfold forL
    cases hp : p d with
    | false =>
      rw [hp] at h1
      simp only [Bool.false_eq_true, if_false] at h1
      simp [h1]
    | true =>
      rw [hp] at h1
      simp only [if_true] at h1
      obtain ⟨sl', hI', e⟩ := h1
      have h2 := forL_all I p (fun e he => h e (List.mem_cons_of_mem _ he)) sl' hI'
      rcases e with e | e
      · rw [e]
        simpa using h2
      · rw [e]
        simpa using h2
/-! data of bounded sizes -/
def flim : Nat := 1000000
mutual
def D.fin : D → Bool
  | .loc _ => false
  | .exc _ _ => false
  | .str s => decide (s.length ≤ flim)
  | .tup xs => decide (xs.length ≤ flim) && D.finL xs
  | .lst xs => decide (xs.length ≤ flim) && D.finL xs
  | _ => true
def D.finL : List D → Bool
  | [] => true
  | x :: xs => D.fin x && D.finL xs
end
@[simp] theorem fin_loc {n} : D.fin (.loc n) = false := by simp only [D.fin]
@[simp] theorem fin_exc {n x} : D.fin (.exc n x) = false := by simp only [D.fin]
@[simp] theorem fin_non : D.fin .non = true := by simp only [D.fin]
@[simp] theorem fin_bl {n} : D.fin (.bl n) = true := by simp only [D.fin]
@[simp] theorem fin_int {n} : D.fin (.int n) = true := by simp only [D.fin]
@[simp] theorem fin_str {s} : D.fin (.str s) = decide (s.length ≤ flim) := by simp only [D.fin]
@[simp] theorem fin_tup {s} : D.fin (.tup s) = (decide (s.length ≤ flim) && D.finL s) := by simp only [D.fin]
@[simp] theorem fin_lst {s} : D.fin (.lst s) = (decide (s.length ≤ flim) && D.finL s) := by simp only [D.fin]
@[simp] theorem finL_nil : D.finL [] = true := (rfl)
@[simp] theorem finL_cons {x xs} : D.finL (x :: xs) = (D.fin x && D.finL xs) := (rfl)
theorem finL_mem : ∀ {xs : List D} {x : D}, D.finL xs = true → x ∈ xs → x.fin = true
  | y :: ys, x, h, hx => by
    rw [finL_cons, Bool.and_eq_true] at h
    rcases List.mem_cons.mp hx with rfl | hx
    · exact h.1
    · exact finL_mem h.2 hx
theorem fin_pur {d : D} (h : d.fin = true) : d.pur = true := by
  cases d <;> first | rfl | cases h
theorem fin_tup_lf {xs : List D} (h : (D.tup xs).fin = true) : xs.length ≤ flim := by
  rw [fin_tup, Bool.and_eq_true, decide_eq_true_eq] at h
  exact h.1
theorem fin_tup_len {xs : List D} (h : (D.tup xs).fin = true) : xs.length ≤ lim := Nat.le_trans (fin_tup_lf h) (by decide)
theorem fin_str_len {s : List Nat} (h : (D.str s).fin = true) : s.length ≤ lim := by
  rw [fin_str, decide_eq_true_eq] at h
  exact Nat.le_trans h (by decide)
theorem fin_tup_mem {xs : List D} {x : D} (h : (D.tup xs).fin = true) (hx : x ∈ xs) : x.fin = true := by
  rw [fin_tup, Bool.and_eq_true, decide_eq_true_eq] at h
  exact finL_mem h.2 hx
theorem dr_fin {d : D} (h : d.fin = true) : dr S d = d := dr_pur (fin_pur h)
end
end G
end S_GM2
section S_T82
namespace T
open G
def s_mark : List Nat := [109, 97, 114, 107]
def s_refuse : List Nat := [114, 101, 102, 117, 115, 101]
def s_accept : List Nat := [97, 99, 99, 101, 112, 116]
def s_drop : List Nat := [100, 114, 111, 112]
def s_back : List Nat := [98, 97, 99, 107]
def s_jump : List Nat := [106, 117, 109, 112]
def s_count : List Nat := [99, 111, 117, 110, 116]
def s_dropped : List Nat := [100, 114, 111, 112, 112, 101, 100]
def s_out : List Nat := [111, 117, 116]
def s_in : List Nat := [105, 110]
def s_forget : List Nat := [102, 111, 114, 103, 101, 116]
def s_book : List Nat := [98, 111, 111, 107]
def s_x : List Nat := [120]
def s_a : List Nat := [97]
def s_A : List Nat := [65]
def s__ : List Nat := [32]
def s_interface : List Nat := [105, 110, 116, 101, 114, 102, 97, 99, 101]
def s_kind : List Nat := [107, 105, 110, 100]
def s_source : List Nat := [115, 111, 117, 114, 99, 101]
def s_sport : List Nat := [115, 112, 111, 114, 116]
def s_destination : List Nat := [100, 101, 115, 116, 105, 110, 97, 116, 105, 111, 110]
def s_dport : List Nat := [100, 112, 111, 114, 116]
def s_flags : List Nat := [102, 108, 97, 103, 115]
def s_code : List Nat := [99, 111, 100, 101]
def s_length : List Nat := [108, 101, 110, 103, 116, 104]
def s_talk : List Nat := [116, 97, 108, 107]
def s_side : List Nat := [115, 105, 100, 101]
def s_ : List Nat := []
def s_abcdefghijklmnopqrst : List Nat := [97, 98, 99, 100, 101, 102, 103, 104, 105, 106, 107, 108, 109, 110, 111, 112, 113, 114, 115, 116, 117, 118, 119, 120, 121, 122]
def s_heavy : List Nat := [104, 101, 97, 118, 121]
def s_short : List Nat := [115, 104, 111, 114, 116]
def s_lost : List Nat := [108, 111, 115, 116]
def s_halt : List Nat := [104, 97, 108, 116]
/-- is_number: value top -/
def f_is_number : Fn := ⟨2, 2, [
.ret (.and [(.blt (.isa .int) [(.v 0)]), (.not (.tr (.blt (.isa .bool) [(.v 0)]))), (.chn .le .le (.k (.int 0)) (.v 0) (.v 1))])]⟩
/-- is_count: value -/
def f_is_count : Fn := ⟨1, 1, [
.ret (.and [(.blt (.isa .int) [(.v 0)]), (.not (.tr (.blt (.isa .bool) [(.v 0)]))), (.cmp .ge (.v 0) (.k (.int 0)))])]⟩
/-- is_pair: value -/
def f_is_pair : Fn := ⟨1, 1, [
.ife (.or [(.not (.tr (.blt (.isa .tup) [(.v 0)]))), (.tr (.cmp .ne (.blt .len [(.v 0)]) (.k (.int 2))))]) [.ret (.k (.bl false))] [],
.ret (.and [(.cal 1 [(.ix (.v 0) (.k (.int 0)))]), (.cal 1 [(.ix (.v 0) (.k (.int 1)))]), (.cmp .le (.ix (.v 0) (.k (.int 0))) (.ix (.v 0) (.k (.int 1))))])]⟩
/-- is_set: value k pair -/
def f_is_set : Fn := ⟨1, 3, [
.ife (.or [(.not (.tr (.blt (.isa .tup) [(.v 0)]))), (.not (.tr (.blt .all [(.comp (.s 2) (.e (.v 0)) (.cal 2 [(.v 2)]) [])])))]) [.ret (.k (.bl false))] [],
.ret (.blt .all [(.comp (.s 1) (.rng [(.bin .sub (.blt .len [(.v 0)]) (.k (.int 1)))]) (.cmp .lt (.bin .add (.ix (.ix (.v 0) (.v 1)) (.k (.int 1))) (.k (.int 1))) (.ix (.ix (.v 0) (.bin .add (.v 1) (.k (.int 1)))) (.k (.int 0)))) [])])]⟩
/-- set_of: pairs found low high -/
def f_set_of : Fn := ⟨1, 4, [
.setO 1 (.lst []),
.for_ (.t [(.s 2), (.s 3)]) (.e (.blt .sorted [(.v 0)])) [.ife (.tr (.cmp .gt (.v 2) (.v 3))) [.cnt] [], .ife (.and [(.tr (.cmp .gt (.blt .len [(.b 1)]) (.k (.int 0)))), (.tr (.cmp .le (.v 2) (.bin .add (.ix (.ix (.b 1) (.neg (.k (.int 1)))) (.k (.int 1))) (.k (.int 1)))))]) [.sub (.b 1) (.neg (.k (.int 1))) (.tup [(.ix (.ix (.b 1) (.neg (.k (.int 1)))) (.k (.int 0))), (.blt .max2 [(.v 3), (.ix (.ix (.b 1) (.neg (.k (.int 1)))) (.k (.int 1)))])])] [.app (.b 1) (.tup [(.v 2), (.v 3)])]],
.ret (.blt .tuple [(.b 1)])]⟩
/-- both: a b found low high other last -/
def f_both : Fn := ⟨2, 7, [
.setO 2 (.lst []),
.for_ (.t [(.s 3), (.s 4)]) (.e (.v 0)) [.for_ (.t [(.s 5), (.s 6)]) (.e (.v 1)) [.app (.b 2) (.tup [(.blt .max2 [(.v 3), (.v 5)]), (.blt .min2 [(.v 4), (.v 6)])])]],
.frz 2,
.ret (.cal 4 [(.v 2)])]⟩
/-- is_row: value byte -/
def f_is_row : Fn := ⟨1, 2, [
.ret (.and [(.blt (.isa .tup) [(.v 0)]), (.blt .all [(.comp (.s 1) (.e (.v 0)) (.cal 0 [(.v 1), (.k (.int 255))]) [])])])]⟩
/-- has_ports: kind -/
def f_has_ports : Fn := ⟨1, 1, [
.ret (.cmp .isin (.v 0) (.tup [(.g 0), (.g 1)]))]⟩
/-- is_word: value sign -/
def f_is_word : Fn := ⟨1, 2, [
.ret (.and [(.blt (.isa .str) [(.v 0)]), (.chn .le .le (.k (.int 1)) (.blt .len [(.v 0)]) (.k (.int 12))), (.blt .all [(.comp (.s 1) (.e (.v 0)) (.cmp .isin (.v 1) (.g 4)) [])])])]⟩
/-- top_of: field -/
def f_top_of : Fn := ⟨1, 1, [
.ife (.tr (.cmp .eq (.v 0) (.k (.str s_mark)))) [.ret (.k (.int 255))] [],
.ret (.ite (.tr (.cmp .isin (.v 0) (.g 2))) (.ix (.g 3) (.mth .index (.g 2) [(.v 0)])) (.k .non))]⟩
/-- is_condition: value top pair -/
def f_is_condition : Fn := ⟨1, 3, [
.ife (.or [(.not (.tr (.blt (.isa .tup) [(.v 0)]))), (.tr (.cmp .ne (.blt .len [(.v 0)]) (.k (.int 2)))), (.not (.tr (.blt (.isa .str) [(.ix (.v 0) (.k (.int 0)))]))), (.not (.tr (.cal 3 [(.ix (.v 0) (.k (.int 1)))])))]) [.ret (.k (.bl false))] [],
.set 1 (.cal 9 [(.ix (.v 0) (.k (.int 0)))]),
.ret (.and [(.cmp .isnot (.v 1) (.k .non)), (.blt .all [(.comp (.s 2) (.e (.ix (.v 0) (.k (.int 1)))) (.cmp .le (.ix (.v 2) (.k (.int 1))) (.v 1)) [])])])]⟩
/-- is_conditions: value condition -/
def f_is_conditions : Fn := ⟨1, 2, [
.ret (.and [(.blt (.isa .tup) [(.v 0)]), (.cmp .le (.blt .len [(.v 0)]) (.k (.int 4))), (.blt .all [(.comp (.s 1) (.e (.v 0)) (.cal 10 [(.v 1)]) [])])])]⟩
/-- is_decision: value -/
def f_is_decision : Fn := ⟨1, 1, [
.ife (.or [(.not (.tr (.blt (.isa .tup) [(.v 0)]))), (.tr (.cmp .eq (.blt .len [(.v 0)]) (.k (.int 0)))), (.not (.tr (.blt (.isa .str) [(.ix (.v 0) (.k (.int 0)))])))]) [.ret (.k (.bl false))] [],
.ife (.tr (.cmp .eq (.ix (.v 0) (.k (.int 0))) (.k (.str s_refuse)))) [.ret (.and [(.cmp .eq (.blt .len [(.v 0)]) (.k (.int 2))), (.cal 0 [(.ix (.v 0) (.k (.int 1))), (.k (.int 255))])])] [],
.ret (.cmp .isin (.v 0) (.tup [(.tup [(.k (.str s_accept))]), (.tup [(.k (.str s_drop))])]))]⟩
/-- is_action: value -/
def f_is_action : Fn := ⟨1, 1, [
.ife (.tr (.cal 12 [(.v 0)])) [.ret (.k (.bl true))] [],
.ife (.or [(.not (.tr (.blt (.isa .tup) [(.v 0)]))), (.tr (.cmp .eq (.blt .len [(.v 0)]) (.k (.int 0)))), (.not (.tr (.blt (.isa .str) [(.ix (.v 0) (.k (.int 0)))])))]) [.ret (.k (.bl false))] [],
.ife (.tr (.cmp .eq (.blt .len [(.v 0)]) (.k (.int 1)))) [.ret (.cmp .eq (.ix (.v 0) (.k (.int 0))) (.k (.str s_back)))] [],
.ife (.tr (.cmp .ne (.blt .len [(.v 0)]) (.k (.int 2)))) [.ret (.k (.bl false))] [],
.ife (.tr (.cmp .eq (.ix (.v 0) (.k (.int 0))) (.k (.str s_jump)))) [.ret (.cal 8 [(.ix (.v 0) (.k (.int 1)))])] [],
.ret (.or [(.and [(.cmp .eq (.ix (.v 0) (.k (.int 0))) (.k (.str s_mark))), (.cal 0 [(.ix (.v 0) (.k (.int 1))), (.k (.int 255))])]), (.and [(.cmp .eq (.ix (.v 0) (.k (.int 0))) (.k (.str s_count))), (.cal 0 [(.ix (.v 0) (.k (.int 1))), (.k (.int 99))])])])]⟩
/-- is_rule: value -/
def f_is_rule : Fn := ⟨1, 1, [
.ret (.and [(.blt (.isa .tup) [(.v 0)]), (.cmp .eq (.blt .len [(.v 0)]) (.k (.int 2))), (.cal 11 [(.ix (.v 0) (.k (.int 0)))]), (.cal 13 [(.ix (.v 0) (.k (.int 1)))])])]⟩
/-- is_chain: value rule -/
def f_is_chain : Fn := ⟨1, 2, [
.ife (.or [(.not (.tr (.blt (.isa .tup) [(.v 0)]))), (.tr (.cmp .ne (.blt .len [(.v 0)]) (.k (.int 3)))), (.not (.tr (.cal 8 [(.ix (.v 0) (.k (.int 0)))])))]) [.ret (.k (.bl false))] [],
.ife (.or [(.not (.tr (.blt (.isa .tup) [(.ix (.v 0) (.k (.int 1)))]))), (.tr (.cmp .gt (.blt .len [(.ix (.v 0) (.k (.int 1)))]) (.k (.int 20)))), (.not (.tr (.blt .all [(.comp (.s 1) (.e (.ix (.v 0) (.k (.int 1)))) (.cal 14 [(.v 1)]) [])])))]) [.ret (.k (.bl false))] [],
.ret (.or [(.and [(.cmp .eq (.ix (.v 0) (.k (.int 2))) (.tup [(.k (.str s_back))])), (.blt (.isa .str) [(.ix (.ix (.v 0) (.k (.int 2))) (.k (.int 0)))])]), (.cal 12 [(.ix (.v 0) (.k (.int 2)))])])]⟩
/-- jumps_well: book words k chain _ action -/
def f_jumps_well : Fn := ⟨1, 6, [
.set 1 (.comp (.s 3) (.e (.v 0)) (.ix (.v 3) (.k (.int 0))) []),
.for_ (.s 2) (.rng [(.blt .len [(.v 0)])]) [.for_ (.t [(.s 4), (.s 5)]) (.e (.ix (.ix (.v 0) (.v 2)) (.k (.int 1)))) [.ife (.and [(.tr (.cmp .eq (.ix (.v 5) (.k (.int 0))) (.k (.str s_jump)))), (.tr (.cmp .notin (.ix (.v 5) (.k (.int 1))) (.sl (.v 1) (some (.bin .add (.v 2) (.k (.int 1)))) none)))]) [.ret (.k (.bl false))] [], .ife (.and [(.tr (.cmp .eq (.ix (.v 5) (.k (.int 0))) (.k (.str s_back)))), (.tr (.cmp .eq (.v 2) (.k (.int 0))))]) [.ret (.k (.bl false))] []]],
.ret (.k (.bl true))]⟩
/-- is_book: value chain -/
def f_is_book : Fn := ⟨1, 2, [
.ife (.or [(.not (.tr (.blt (.isa .tup) [(.v 0)]))), (.not (.tr (.chn .le .le (.k (.int 1)) (.blt .len [(.v 0)]) (.k (.int 6))))), (.not (.tr (.blt .all [(.comp (.s 1) (.e (.v 0)) (.cal 15 [(.v 1)]) [])])))]) [.ret (.k (.bl false))] [],
.ife (.or [(.tr (.cmp .ne (.blt .lenset [(.comp (.s 1) (.e (.v 0)) (.ix (.v 1) (.k (.int 0))) [])]) (.blt .len [(.v 0)]))), (.tr (.cmp .eq (.ix (.ix (.v 0) (.k (.int 0))) (.k (.int 2))) (.tup [(.k (.str s_back))])))]) [.ret (.k (.bl false))] [],
.ret (.cal 16 [(.v 0)])]⟩
/-- is_prefix: value -/
def f_is_prefix : Fn := ⟨1, 1, [
.ife (.or [(.not (.tr (.blt (.isa .tup) [(.v 0)]))), (.tr (.cmp .ne (.blt .len [(.v 0)]) (.k (.int 2))))]) [.ret (.k (.bl false))] [],
.ife (.or [(.not (.tr (.cal 0 [(.ix (.v 0) (.k (.int 0))), (.g 5)]))), (.not (.tr (.cal 0 [(.ix (.v 0) (.k (.int 1))), (.g 6)])))]) [.ret (.k (.bl false))] [],
.ret (.cmp .eq (.bin .mod (.ix (.v 0) (.k (.int 0))) (.cal 19 [(.ix (.v 0) (.k (.int 1)))])) (.k (.int 0)))]⟩
/-- span: length many _ -/
def f_span : Fn := ⟨1, 3, [
.set 1 (.k (.int 1)),
.for_ (.s 2) (.rng [(.bin .sub (.g 6) (.v 0))]) [.aug 1 .mul (.k (.int 2))],
.ret (.v 1)]⟩
/-- held: prefix -/
def f_held : Fn := ⟨1, 1, [
.ret (.tup [(.tup [(.ix (.v 0) (.k (.int 0))), (.bin .sub (.bin .add (.ix (.v 0) (.k (.int 0))) (.cal 19 [(.ix (.v 0) (.k (.int 1)))])) (.k (.int 1)))])])]⟩
/-- is_exchange: value known pair k j -/
def f_is_exchange : Fn := ⟨1, 5, [
.ife (.not (.tr (.blt (.isa .tup) [(.v 0)]))) [.ret (.k (.bl false))] [],
.setO 1 (.lst []),
.for_ (.s 2) (.e (.v 0)) [.ife (.or [(.not (.tr (.blt (.isa .tup) [(.v 2)]))), (.tr (.cmp .ne (.blt .len [(.v 2)]) (.k (.int 2)))), (.not (.tr (.cal 18 [(.ix (.v 2) (.k (.int 0)))]))), (.not (.tr (.cal 18 [(.ix (.v 2) (.k (.int 1)))])))]) [.ret (.k (.bl false))] [], .ife (.tr (.cmp .ne (.ix (.ix (.v 2) (.k (.int 0))) (.k (.int 1))) (.ix (.ix (.v 2) (.k (.int 1))) (.k (.int 1))))) [.ret (.k (.bl false))] [], .ext (.b 1) (.lst [(.cal 20 [(.ix (.v 2) (.k (.int 0)))]), (.cal 20 [(.ix (.v 2) (.k (.int 1)))])])],
.for_ (.s 3) (.rng [(.blt .len [(.b 1)])]) [.for_ (.s 4) (.rng [(.v 3)]) [.ife (.tr (.cmp .ne (.cal 5 [(.ix (.b 1) (.v 3)), (.ix (.b 1) (.v 4))]) (.tup []))) [.ret (.k (.bl false))] []]],
.ret (.k (.bl true))]⟩
/-- is_end: value item -/
def f_is_end : Fn := ⟨1, 2, [
.ret (.and [(.blt (.isa .tup) [(.v 0)]), (.cmp .eq (.blt .len [(.v 0)]) (.k (.int 2))), (.blt .all [(.comp (.s 1) (.e (.v 0)) (.cal 0 [(.v 1), (.k (.int 65535))]) [])])])]⟩
/-- is_key: value -/
def f_is_key : Fn := ⟨1, 1, [
.ife (.or [(.not (.tr (.blt (.isa .tup) [(.v 0)]))), (.tr (.cmp .ne (.blt .len [(.v 0)]) (.k (.int 3)))), (.not (.tr (.cal 0 [(.ix (.v 0) (.k (.int 0))), (.k (.int 255))]))), (.not (.tr (.cal 7 [(.ix (.v 0) (.k (.int 0)))])))]) [.ret (.k (.bl false))] [],
.ret (.and [(.cal 22 [(.ix (.v 0) (.k (.int 1)))]), (.cal 22 [(.ix (.v 0) (.k (.int 2)))]), (.cmp .lt (.ix (.ix (.v 0) (.k (.int 1))) (.k (.int 0))) (.ix (.ix (.v 0) (.k (.int 2))) (.k (.int 0))))])]⟩
/-- is_result: value -/
def f_is_result : Fn := ⟨1, 1, [
.ife (.or [(.not (.tr (.blt (.isa .tup) [(.v 0)]))), (.tr (.cmp .lt (.blt .len [(.v 0)]) (.k (.int 2)))), (.not (.tr (.blt (.isa .str) [(.ix (.v 0) (.k (.int 0)))])))]) [.ret (.k (.bl false))] [],
.ife (.tr (.cmp .eq (.ix (.v 0) (.k (.int 0))) (.k (.str s_dropped)))) [.ret (.and [(.cmp .eq (.blt .len [(.v 0)]) (.k (.int 2))), (.blt (.isa .str) [(.ix (.v 0) (.k (.int 1)))])])] [],
.ret (.and [(.cmp .isin (.ix (.v 0) (.k (.int 0))) (.tup [(.k (.str s_out)), (.k (.str s_back))])), (.cmp .eq (.blt .len [(.v 0)]) (.k (.int 3))), (.cal 0 [(.ix (.v 0) (.k (.int 1))), (.k (.int 1))]), (.cal 6 [(.ix (.v 0) (.k (.int 2)))])])]⟩
/-- is_entry: value -/
def f_is_entry : Fn := ⟨1, 1, [
.ife (.or [(.not (.tr (.blt (.isa .tup) [(.v 0)]))), (.tr (.cmp .lt (.blt .len [(.v 0)]) (.k (.int 2)))), (.not (.tr (.blt (.isa .str) [(.ix (.v 0) (.k (.int 0)))])))]) [.ret (.k (.bl false))] [],
.ife (.tr (.cmp .eq (.ix (.v 0) (.k (.int 0))) (.k (.str s_in)))) [.ret (.and [(.cmp .eq (.blt .len [(.v 0)]) (.k (.int 4))), (.cal 0 [(.ix (.v 0) (.k (.int 1))), (.k (.int 1))]), (.cal 6 [(.ix (.v 0) (.k (.int 2)))]), (.cal 24 [(.ix (.v 0) (.k (.int 3)))])])] [],
.ife (.tr (.cmp .ne (.blt .len [(.v 0)]) (.k (.int 2)))) [.ret (.k (.bl false))] [],
.ret (.or [(.and [(.cmp .eq (.ix (.v 0) (.k (.int 0))) (.k (.str s_forget))), (.cal 23 [(.ix (.v 0) (.k (.int 1)))])]), (.and [(.cmp .eq (.ix (.v 0) (.k (.int 0))) (.k (.str s_book))), (.cal 17 [(.ix (.v 0) (.k (.int 1)))])])])]⟩
/-- is_journal: value entry -/
def f_is_journal : Fn := ⟨1, 2, [
.ife (.or [(.not (.tr (.blt (.isa .tup) [(.v 0)]))), (.tr (.cmp .ne (.blt .len [(.v 0)]) (.k (.int 3)))), (.not (.tr (.cal 17 [(.ix (.v 0) (.k (.int 0)))]))), (.not (.tr (.cal 21 [(.ix (.v 0) (.k (.int 1)))])))]) [.ret (.k (.bl false))] [],
.ret (.and [(.blt (.isa .tup) [(.ix (.v 0) (.k (.int 2)))]), (.blt .all [(.comp (.s 1) (.e (.ix (.v 0) (.k (.int 2)))) (.cal 25 [(.v 1)]) [])])])]⟩
/-- _law_same: actual due k -/
def f_l_same : Fn := ⟨2, 3, [
.ife (.or [(.tr (.blt (.isa .tup) [(.v 1)])), (.tr (.blt (.isa .lst) [(.v 1)]))]) [.ife (.or [(.tr (.cmp .ne (.blt (.isa .tup) [(.v 1)]) (.blt (.isa .tup) [(.v 0)]))), (.tr (.cmp .ne (.blt (.isa .lst) [(.v 1)]) (.blt (.isa .lst) [(.v 0)]))), (.tr (.cmp .ne (.blt .len [(.v 0)]) (.blt .len [(.v 1)])))]) [.ret (.k (.bl false))] [], .ret (.cmp .eq (.blt .len [(.comp (.s 2) (.rng [(.blt .len [(.v 1)])]) (.v 2) [(.not (.tr (.cal 27 [(.ix (.v 0) (.v 2)), (.ix (.v 1) (.v 2))])))])]) (.k (.int 0)))] [],
.ife (.tr (.cmp .isn (.v 1) (.k .non))) [.ret (.cmp .isn (.v 0) (.k .non))] [],
.ife (.or [(.tr (.blt (.isa .bool) [(.v 1)])), (.tr (.blt (.isa .bool) [(.v 0)]))]) [.ret (.and [(.blt (.isa .bool) [(.v 1)]), (.blt (.isa .bool) [(.v 0)]), (.cmp .eq (.v 0) (.v 1))])] [],
.ife (.tr (.blt (.isa .int) [(.v 1)])) [.ret (.and [(.blt (.isa .int) [(.v 0)]), (.cmp .eq (.v 0) (.v 1))])] [],
.ret (.and [(.blt (.isa .str) [(.v 0)]), (.cmp .eq (.v 0) (.v 1))])]⟩
/-- _law_is_integer: actual -/
def f_l_is_integer : Fn := ⟨1, 1, [
.ret (.and [(.blt (.isa .int) [(.v 0)]), (.not (.tr (.blt (.isa .bool) [(.v 0)])))])]⟩
/-- _law_pool: script salt cell -/
def f_l_pool : Fn := ⟨1, 3, [
.set 1 (.k (.int 7)),
.for_ (.s 2) (.e (.sl (.v 0) none (some (.k (.int 63))))) [.set 1 (.bin .mod (.blt .int [(.bin .add (.bin .mul (.v 1) (.k (.int 31))) (.v 2))]) (.k (.int 1000003)))],
.ret (.mk [(.blt .list [(.v 0)]), (.k (.int 0)), (.k (.int 0)), (.k (.int 0)), (.v 1)])]⟩
/-- _law_spread: cell mixed total k -/
def f_l_spread : Fn := ⟨1, 4, [
.set 1 (.bin .mod (.blt .int [(.v 0)]) (.k (.int 2147483647))),
.set 2 (.k (.int 1)),
.for_ (.s 3) (.rng [(.k (.int 4))]) [.set 1 (.bin .mod (.blt .int [(.bin .add (.bin .add (.bin .mul (.v 1) (.k (.int 48271))) (.k (.int 12345))) (.v 3))]) (.k (.int 2147483647))), .set 2 (.bin .add (.bin .mul (.v 2) (.k (.int 2147483647))) (.v 1))],
.ret (.v 2)]⟩
/-- _law_draw: pool many value cell mixed -/
def f_l_draw : Fn := ⟨2, 5, [
.ife (.and [(.tr (.cmp .le (.ix (.v 0) (.k (.int 2))) (.k (.int 0)))), (.tr (.cmp .lt (.ix (.v 0) (.k (.int 1))) (.blt .len [(.ix (.v 0) (.k (.int 0)))])))]) [.set 3 (.ix (.ix (.v 0) (.k (.int 0))) (.ix (.v 0) (.k (.int 1)))), .sub (.b 0) (.k (.int 1)) (.bin .add (.ix (.v 0) (.k (.int 1))) (.k (.int 1))), .sub (.b 0) (.k (.int 2)) (.v 3), .ife (.tr (.cmp .lt (.v 3) (.k (.int 1000000000000000000)))) [.sub (.b 0) (.k (.int 2)) (.cal 30 [(.v 3)])] []] [],
.sub (.b 0) (.k (.int 3)) (.bin .add (.ix (.v 0) (.k (.int 3))) (.k (.int 1))),
.ife (.tr (.cmp .le (.ix (.v 0) (.k (.int 2))) (.k (.int 0)))) [.set 4 (.bin .mod (.blt .int [(.bin .add (.bin .add (.bin .mul (.ix (.v 0) (.k (.int 4))) (.k (.int 48271))) (.bin .mul (.ix (.v 0) (.k (.int 3))) (.k (.int 69621)))) (.k (.int 1)))]) (.k (.int 2147483647))), .set 4 (.bin .mod (.blt .int [(.bin .add (.bin .mul (.v 4) (.k (.int 16807))) (.ix (.v 0) (.k (.int 3))))]) (.k (.int 2147483629))), .ret (.bin .mod (.bin .fdiv (.v 4) (.k (.int 5))) (.v 1))] [],
.set 2 (.bin .mod (.blt .int [(.ix (.v 0) (.k (.int 2)))]) (.v 1)),
.sub (.b 0) (.k (.int 2)) (.bin .fdiv (.ix (.v 0) (.k (.int 2))) (.v 1)),
.ret (.v 2)]⟩
/-- _law_pick: pool items -/
def f_l_pick : Fn := ⟨2, 2, [
.ret (.ix (.v 1) (.cal 31 [(.v 0), (.blt .len [(.v 1)])]))]⟩
/-- _law_bent: pool value turn at other items -/
def f_l_bent : Fn := ⟨2, 6, [
.ife (.and [(.tr (.blt (.isa .tup) [(.v 1)])), (.tr (.cmp .gt (.blt .len [(.v 1)]) (.k (.int 0)))), (.tr (.cmp .gt (.cal 31 [(.v 0), (.k (.int 3))]) (.k (.int 0))))]) [.set 3 (.cal 31 [(.v 0), (.blt .len [(.v 1)])]), .ret (.bin .add (.bin .add (.sl (.v 1) none (some (.v 3))) (.tup [(.cal 33 [(.v 0), (.ix (.v 1) (.v 3))])])) (.sl (.v 1) (some (.bin .add (.v 3) (.k (.int 1)))) none))] [],
.set 2 (.cal 31 [(.v 0), (.k (.int 9))]),
.ife (.tr (.cmp .eq (.v 2) (.k (.int 0)))) [.ret (.ix (.tup [(.k (.str s_x)), (.k (.bl true)), (.tup []), (.k (.int 0)), (.neg (.k (.int 1))), (.k .non), (.k (.bl false)), (.lst [])]) (.cal 31 [(.v 0), (.k (.int 8))]))] [],
.ife (.tr (.cal 28 [(.v 1)])) [.ret (.bin .add (.v 1) (.ix (.tup [(.k (.int 1)), (.neg (.k (.int 1))), (.k (.int 2)), (.k (.int 0))]) (.cal 31 [(.v 0), (.k (.int 4))])))] [],
.ife (.tr (.blt (.isa .str) [(.v 1)])) [.ret (.ix (.tup [(.bin .add (.v 1) (.k (.str s_a))), (.sl (.v 1) (some (.k (.int 1))) none), (.bin .add (.v 1) (.k (.str s_A))), (.bin .add (.v 1) (.k (.str s__))), (.sl (.v 1) none (some (.k (.int 1))))]) (.cal 31 [(.v 0), (.k (.int 5))]))] [],
.ife (.or [(.not (.tr (.blt (.isa .tup) [(.v 1)]))), (.tr (.cmp .eq (.blt .len [(.v 1)]) (.k (.int 0))))]) [.ret (.ite (.tr (.cmp .lt (.v 2) (.k (.int 5)))) (.tup [(.v 1), (.k (.int 0))]) (.tup []))] [],
.set 3 (.cal 31 [(.v 0), (.blt .len [(.v 1)])]),
.ife (.tr (.cmp .lt (.v 2) (.k (.int 3)))) [.ret (.bin .add (.sl (.v 1) none (some (.v 3))) (.sl (.v 1) (some (.bin .add (.v 3) (.k (.int 1)))) none))] [],
.ife (.tr (.cmp .lt (.v 2) (.k (.int 5)))) [.ret (.bin .add (.bin .add (.sl (.v 1) none (some (.v 3))) (.tup [(.ix (.v 1) (.v 3))])) (.sl (.v 1) (some (.v 3)) none))] [],
.ife (.tr (.cmp .eq (.v 2) (.k (.int 5)))) [.ret (.blt .list [(.v 1)])] [],
.set 4 (.cal 31 [(.v 0), (.blt .len [(.v 1)])]),
.setO 5 (.blt .list [(.v 1)]),
.sub (.b 5) (.v 3) (.ix (.v 1) (.v 4)),
.sub (.b 5) (.v 4) (.ix (.v 1) (.v 3)),
.ret (.blt .tuple [(.b 5)])]⟩
/-- _law_booled: value part -/
def f_l_booled : Fn := ⟨1, 2, [
.ife (.tr (.blt (.isa .tup) [(.v 0)])) [.ret (.blt .tuple [(.comp (.s 1) (.e (.v 0)) (.cal 34 [(.v 1)]) [])])] [],
.ret (.ite (.and [(.tr (.cal 28 [(.v 0)])), (.tr (.cmp .le (.k (.int 0)) (.v 0))), (.tr (.cmp .lt (.v 0) (.k (.int 2))))]) (.ix (.tup [(.k (.bl false)), (.k (.bl true))]) (.v 0)) (.v 0))]⟩
/-- _law_runs: numbers found number -/
def f_l_runs : Fn := ⟨1, 3, [
.setO 1 (.lst []),
.for_ (.s 2) (.e (.blt .sortset [(.v 0)])) [.ife (.and [(.tr (.cmp .gt (.blt .len [(.b 1)]) (.k (.int 0)))), (.tr (.cmp .eq (.bin .add (.ix (.ix (.b 1) (.neg (.k (.int 1)))) (.k (.int 1))) (.k (.int 1))) (.v 2)))]) [.sub (.b 1) (.neg (.k (.int 1))) (.tup [(.ix (.ix (.b 1) (.neg (.k (.int 1)))) (.k (.int 0))), (.v 2)])] [.app (.b 1) (.tup [(.v 2), (.v 2)])]],
.ret (.blt .tuple [(.b 1)])]⟩
/-- _law_is_set: value last pair -/
def f_l_is_set : Fn := ⟨1, 3, [
.ife (.not (.tr (.blt (.isa .tup) [(.v 0)]))) [.ret (.k (.bl false))] [],
.set 1 (.neg (.k (.int 2))),
.for_ (.s 2) (.e (.v 0)) [.ife (.or [(.not (.tr (.blt (.isa .tup) [(.v 2)]))), (.tr (.cmp .ne (.blt .len [(.v 2)]) (.k (.int 2)))), (.not (.tr (.cal 28 [(.ix (.v 2) (.k (.int 0)))]))), (.not (.tr (.cal 28 [(.ix (.v 2) (.k (.int 1)))])))]) [.ret (.k (.bl false))] [], .ife (.or [(.tr (.cmp .lt (.ix (.v 2) (.k (.int 0))) (.k (.int 0)))), (.tr (.cmp .gt (.ix (.v 2) (.k (.int 0))) (.ix (.v 2) (.k (.int 1))))), (.tr (.cmp .le (.ix (.v 2) (.k (.int 0))) (.bin .add (.v 1) (.k (.int 1)))))]) [.ret (.k (.bl false))] [], .set 1 (.ix (.v 2) (.k (.int 1)))],
.ret (.k (.bl true))]⟩
/-- _law_power: many value k -/
def f_l_power : Fn := ⟨1, 3, [
.set 1 (.k (.int 1)),
.for_ (.s 2) (.rng [(.v 0)]) [.set 1 (.bin .mul (.v 1) (.k (.int 2)))],
.ret (.v 1)]⟩
/-- _law_prefix: pool length -/
def f_l_prefix : Fn := ⟨1, 2, [
.set 1 (.cal 31 [(.v 0), (.k (.int 17))]),
.ret (.tup [(.bin .mul (.cal 31 [(.v 0), (.cal 37 [(.v 1)])]) (.cal 37 [(.bin .sub (.k (.int 16)) (.v 1))])), (.v 1)])]⟩
/-- _law_is_prefix: value -/
def f_l_is_prefix : Fn := ⟨1, 1, [
.ife (.or [(.not (.tr (.blt (.isa .tup) [(.v 0)]))), (.tr (.cmp .ne (.blt .len [(.v 0)]) (.k (.int 2)))), (.not (.tr (.cal 28 [(.ix (.v 0) (.k (.int 0)))]))), (.not (.tr (.cal 28 [(.ix (.v 0) (.k (.int 1)))])))]) [.ret (.k (.bl false))] [],
.ife (.or [(.tr (.cmp .lt (.ix (.v 0) (.k (.int 1))) (.k (.int 0)))), (.tr (.cmp .gt (.ix (.v 0) (.k (.int 1))) (.k (.int 16)))), (.tr (.cmp .lt (.ix (.v 0) (.k (.int 0))) (.k (.int 0)))), (.tr (.cmp .gt (.ix (.v 0) (.k (.int 0))) (.k (.int 65535))))]) [.ret (.k (.bl false))] [],
.ret (.cmp .eq (.bin .mod (.blt .int [(.ix (.v 0) (.k (.int 0)))]) (.cal 37 [(.bin .sub (.k (.int 16)) (.ix (.v 0) (.k (.int 1))))])) (.k (.int 0)))]⟩
/-- _law_last: prefix -/
def f_l_last : Fn := ⟨1, 1, [
.ret (.bin .sub (.bin .add (.ix (.v 0) (.k (.int 0))) (.cal 37 [(.bin .sub (.k (.int 16)) (.ix (.v 0) (.k (.int 1))))])) (.k (.int 1)))]⟩
/-- _law_apart: one two -/
def f_l_apart : Fn := ⟨2, 2, [
.ret (.or [(.cmp .lt (.cal 40 [(.v 0)]) (.ix (.v 1) (.k (.int 0)))), (.cmp .lt (.cal 40 [(.v 1)]) (.ix (.v 0) (.k (.int 0))))])]⟩
/-- _law_is_exchange: value known pair prefix other -/
def f_l_is_exchange : Fn := ⟨1, 5, [
.ife (.not (.tr (.blt (.isa .tup) [(.v 0)]))) [.ret (.k (.bl false))] [],
.setO 1 (.lst []),
.for_ (.s 2) (.e (.v 0)) [.ife (.or [(.not (.tr (.blt (.isa .tup) [(.v 2)]))), (.tr (.cmp .ne (.blt .len [(.v 2)]) (.k (.int 2)))), (.not (.tr (.cal 39 [(.ix (.v 2) (.k (.int 0)))]))), (.not (.tr (.cal 39 [(.ix (.v 2) (.k (.int 1)))])))]) [.ret (.k (.bl false))] [], .ife (.tr (.cmp .ne (.ix (.ix (.v 2) (.k (.int 0))) (.k (.int 1))) (.ix (.ix (.v 2) (.k (.int 1))) (.k (.int 1))))) [.ret (.k (.bl false))] [], .for_ (.s 3) (.e (.v 2)) [.ife (.tr (.cmp .gt (.blt .len [(.comp (.s 4) (.e (.b 1)) (.v 4) [(.not (.tr (.cal 41 [(.v 3), (.v 4)])))])]) (.k (.int 0)))) [.ret (.k (.bl false))] [], .app (.b 1) (.v 3)]],
.ret (.k (.bl true))]⟩
/-- _law_exchange: pool most found k one two -/
def f_l_exchange : Fn := ⟨2, 6, [
.setO 2 (.lst []),
.for_ (.s 3) (.rng [(.cal 31 [(.v 0), (.bin .add (.v 1) (.k (.int 1)))])]) [.set 4 (.cal 38 [(.v 0)]), .set 5 (.tup [(.bin .mul (.cal 31 [(.v 0), (.cal 37 [(.ix (.v 4) (.k (.int 1)))])]) (.cal 37 [(.bin .sub (.k (.int 16)) (.ix (.v 4) (.k (.int 1))))])), (.ix (.v 4) (.k (.int 1)))]), .ife (.tr (.cal 42 [(.blt .tuple [(.bin .add (.b 2) (.lst [(.tup [(.v 4), (.v 5)])]))])])) [.app (.b 2) (.tup [(.v 4), (.v 5)])] []],
.ret (.blt .tuple [(.b 2)])]⟩
/-- _law_row: pool many k -/
def f_l_row : Fn := ⟨2, 3, [
.ret (.blt .tuple [(.comp (.s 2) (.rng [(.v 1)]) (.ix (.tup [(.cal 31 [(.v 0), (.k (.int 256))]), (.k (.int 0)), (.k (.int 255)), (.k (.int 1))]) (.cal 31 [(.v 0), (.k (.int 4))])) [])])]⟩
/-- _law_is_number: value top -/
def f_l_is_number : Fn := ⟨2, 2, [
.ret (.and [(.cal 28 [(.v 0)]), (.cmp .le (.k (.int 0)) (.v 0)), (.cmp .le (.v 0) (.v 1))])]⟩
/-- _law_is_row: value byte -/
def f_l_is_row : Fn := ⟨1, 2, [
.ret (.and [(.blt (.isa .tup) [(.v 0)]), (.cmp .eq (.blt .len [(.comp (.s 1) (.e (.v 0)) (.v 1) [(.not (.tr (.cal 45 [(.v 1), (.k (.int 255))])))])]) (.k (.int 0)))])]⟩
/-- _law_tops:  -/
def f_l_tops : Fn := ⟨0, 0, [
.ret (.tup [(.k (.int 1)), (.k (.int 255)), (.k (.int 65535)), (.k (.int 65535)), (.k (.int 65535)), (.k (.int 65535)), (.k (.int 7)), (.k (.int 65535)), (.k (.int 1500)), (.k (.int 6)), (.k (.int 1))])]⟩
/-- _law_fields:  -/
def f_l_fields : Fn := ⟨0, 0, [
.ret (.tup [(.k (.str s_interface)), (.k (.str s_kind)), (.k (.str s_source)), (.k (.str s_sport)), (.k (.str s_destination)), (.k (.str s_dport)), (.k (.str s_flags)), (.k (.str s_code)), (.k (.str s_length)), (.k (.str s_talk)), (.k (.str s_side))])]⟩
/-- _law_top_of: field -/
def f_l_top_of : Fn := ⟨1, 1, [
.ret (.ite (.tr (.cmp .eq (.v 0) (.k (.str s_mark)))) (.k (.int 255)) (.ix (.cal 47 []) (.ixc 48 (.v 0))))]⟩
/-- _law_decision: pool -/
def f_l_decision : Fn := ⟨1, 1, [
.ret (.ix (.tup [(.tup [(.k (.str s_accept))]), (.tup [(.k (.str s_accept))]), (.tup [(.k (.str s_drop))]), (.tup [(.k (.str s_refuse)), (.cal 31 [(.v 0), (.k (.int 256))])])]) (.cal 31 [(.v 0), (.k (.int 4))]))]⟩
/-- _law_action: pool later first turn -/
def f_l_action : Fn := ⟨3, 4, [
.set 3 (.cal 31 [(.v 0), (.k (.int 8))]),
.ife (.tr (.cmp .lt (.v 3) (.k (.int 4)))) [.ret (.cal 50 [(.v 0)])] [],
.ife (.and [(.tr (.cmp .eq (.v 3) (.k (.int 4)))), (.tr (.cmp .gt (.blt .len [(.v 1)]) (.k (.int 0))))]) [.ret (.tup [(.k (.str s_jump)), (.cal 32 [(.v 0), (.v 1)])])] [],
.ife (.and [(.tr (.cmp .eq (.v 3) (.k (.int 5)))), (.not (.tr (.v 2)))]) [.ret (.tup [(.k (.str s_back))])] [],
.ret (.ite (.tr (.cmp .lt (.v 3) (.k (.int 7)))) (.tup [(.k (.str s_mark)), (.cal 31 [(.v 0), (.k (.int 3))])]) (.tup [(.k (.str s_count)), (.cal 31 [(.v 0), (.k (.int 100))])]))]⟩
/-- _law_spelled: number word left -/
def f_l_spelled : Fn := ⟨1, 3, [
.set 1 (.k (.str s_)),
.set 2 (.v 0),
.whl (.tr (.cmp .gt (.v 2) (.k (.int 0)))) [.set 1 (.bin .add (.ix (.k (.str s_abcdefghijklmnopqrst)) (.bin .mod (.blt .int [(.bin .sub (.v 2) (.k (.int 1)))]) (.k (.int 26)))) (.v 1)), .set 2 (.bin .fdiv (.bin .sub (.v 2) (.k (.int 1))) (.k (.int 26)))],
.ret (.v 1)]⟩
/-- _law_chain_words: pool many taken k number -/
def f_l_chain_words : Fn := ⟨2, 5, [
.setO 2 (.lst []),
.for_ (.s 3) (.rng [(.v 1)]) [.set 4 (.bin .add (.k (.int 1)) (.cal 31 [(.v 0), (.ix (.tup [(.k (.int 26)), (.k (.int 702)), (.k (.int 18278)), (.k (.int 95428956661682176))]) (.cal 31 [(.v 0), (.k (.int 4))]))])), .whl (.tr (.cmp .isin (.v 4) (.b 2))) [.set 4 (.bin .add (.v 4) (.k (.int 1)))], .app (.b 2) (.v 4)],
.ret (.comp (.s 4) (.e (.b 2)) (.cal 52 [(.v 4)]) [])]⟩
/-- _law_is_word: value sign -/
def f_l_is_word : Fn := ⟨1, 2, [
.ife (.or [(.not (.tr (.blt (.isa .str) [(.v 0)]))), (.tr (.cmp .lt (.blt .len [(.v 0)]) (.k (.int 1)))), (.tr (.cmp .gt (.blt .len [(.v 0)]) (.k (.int 12))))]) [.ret (.k (.bl false))] [],
.ret (.cmp .eq (.blt .len [(.comp (.s 1) (.e (.v 0)) (.v 1) [(.tr (.cmp .notin (.v 1) (.k (.str s_abcdefghijklmnopqrst))))])]) (.k (.int 0)))]⟩
/-- _law_is_condition: value -/
def f_l_is_condition : Fn := ⟨1, 1, [
.ife (.or [(.not (.tr (.blt (.isa .tup) [(.v 0)]))), (.tr (.cmp .ne (.blt .len [(.v 0)]) (.k (.int 2)))), (.not (.tr (.blt (.isa .str) [(.ix (.v 0) (.k (.int 0)))]))), (.not (.tr (.cal 36 [(.ix (.v 0) (.k (.int 1)))])))]) [.ret (.k (.bl false))] [],
.ife (.tr (.cmp .notin (.ix (.v 0) (.k (.int 0))) (.bin .add (.cal 48 []) (.tup [(.k (.str s_mark))])))) [.ret (.k (.bl false))] [],
.ret (.or [(.cmp .eq (.blt .len [(.ix (.v 0) (.k (.int 1)))]) (.k (.int 0))), (.cmp .le (.ix (.ix (.ix (.v 0) (.k (.int 1))) (.bin .sub (.blt .len [(.ix (.v 0) (.k (.int 1)))]) (.k (.int 1)))) (.k (.int 1))) (.cal 49 [(.ix (.v 0) (.k (.int 0)))]))])]⟩
/-- _law_is_decision: value -/
def f_l_is_decision : Fn := ⟨1, 1, [
.ife (.or [(.not (.tr (.blt (.isa .tup) [(.v 0)]))), (.tr (.cmp .eq (.blt .len [(.v 0)]) (.k (.int 0)))), (.not (.tr (.blt (.isa .str) [(.ix (.v 0) (.k (.int 0)))])))]) [.ret (.k (.bl false))] [],
.ife (.tr (.cmp .eq (.ix (.v 0) (.k (.int 0))) (.k (.str s_refuse)))) [.ret (.and [(.cmp .eq (.blt .len [(.v 0)]) (.k (.int 2))), (.cal 45 [(.ix (.v 0) (.k (.int 1))), (.k (.int 255))])])] [],
.ret (.and [(.cmp .eq (.blt .len [(.v 0)]) (.k (.int 1))), (.cmp .isin (.ix (.v 0) (.k (.int 0))) (.tup [(.k (.str s_accept)), (.k (.str s_drop))]))])]⟩
/-- _law_is_action: value -/
def f_l_is_action : Fn := ⟨1, 1, [
.ife (.tr (.cal 56 [(.v 0)])) [.ret (.k (.bl true))] [],
.ife (.or [(.not (.tr (.blt (.isa .tup) [(.v 0)]))), (.tr (.cmp .eq (.blt .len [(.v 0)]) (.k (.int 0)))), (.not (.tr (.blt (.isa .str) [(.ix (.v 0) (.k (.int 0)))])))]) [.ret (.k (.bl false))] [],
.ife (.tr (.cmp .eq (.ix (.v 0) (.k (.int 0))) (.k (.str s_back)))) [.ret (.cmp .eq (.blt .len [(.v 0)]) (.k (.int 1)))] [],
.ife (.tr (.cmp .ne (.blt .len [(.v 0)]) (.k (.int 2)))) [.ret (.k (.bl false))] [],
.ife (.tr (.cmp .eq (.ix (.v 0) (.k (.int 0))) (.k (.str s_jump)))) [.ret (.cal 54 [(.ix (.v 0) (.k (.int 1)))])] [],
.ret (.or [(.and [(.cmp .eq (.ix (.v 0) (.k (.int 0))) (.k (.str s_mark))), (.cal 45 [(.ix (.v 0) (.k (.int 1))), (.k (.int 255))])]), (.and [(.cmp .eq (.ix (.v 0) (.k (.int 0))) (.k (.str s_count))), (.cal 45 [(.ix (.v 0) (.k (.int 1))), (.k (.int 99))])])])]⟩
/-- _law_is_rule: value condition -/
def f_l_is_rule : Fn := ⟨1, 2, [
.ife (.or [(.not (.tr (.blt (.isa .tup) [(.v 0)]))), (.tr (.cmp .ne (.blt .len [(.v 0)]) (.k (.int 2)))), (.not (.tr (.blt (.isa .tup) [(.ix (.v 0) (.k (.int 0)))]))), (.tr (.cmp .gt (.blt .len [(.ix (.v 0) (.k (.int 0)))]) (.k (.int 4))))]) [.ret (.k (.bl false))] [],
.ret (.and [(.cmp .eq (.blt .len [(.comp (.s 1) (.e (.ix (.v 0) (.k (.int 0)))) (.v 1) [(.not (.tr (.cal 55 [(.v 1)])))])]) (.k (.int 0))), (.cal 57 [(.ix (.v 0) (.k (.int 1)))])])]⟩
/-- _law_is_book: value chain words k back rule -/
def f_l_is_book : Fn := ⟨1, 6, [
.ife (.or [(.not (.tr (.blt (.isa .tup) [(.v 0)]))), (.tr (.cmp .lt (.blt .len [(.v 0)]) (.k (.int 1)))), (.tr (.cmp .gt (.blt .len [(.v 0)]) (.k (.int 6))))]) [.ret (.k (.bl false))] [],
.for_ (.s 1) (.e (.v 0)) [.ife (.or [(.not (.tr (.blt (.isa .tup) [(.v 1)]))), (.tr (.cmp .ne (.blt .len [(.v 1)]) (.k (.int 3)))), (.not (.tr (.cal 54 [(.ix (.v 1) (.k (.int 0)))]))), (.not (.tr (.blt (.isa .tup) [(.ix (.v 1) (.k (.int 1)))])))]) [.ret (.k (.bl false))] [], .ife (.or [(.tr (.cmp .gt (.blt .len [(.ix (.v 1) (.k (.int 1)))]) (.k (.int 20)))), (.tr (.cmp .gt (.blt .len [(.comp (.s 5) (.e (.ix (.v 1) (.k (.int 1)))) (.v 5) [(.not (.tr (.cal 58 [(.v 5)])))])]) (.k (.int 0)))), (.not (.tr (.blt (.isa .tup) [(.ix (.v 1) (.k (.int 2)))])))]) [.ret (.k (.bl false))] [], .set 4 (.and [(.cmp .eq (.blt .len [(.ix (.v 1) (.k (.int 2)))]) (.k (.int 1))), (.blt (.isa .str) [(.ix (.ix (.v 1) (.k (.int 2))) (.k (.int 0)))]), (.cmp .eq (.ix (.ix (.v 1) (.k (.int 2))) (.k (.int 0))) (.k (.str s_back)))]), .ife (.and [(.not (.tr (.v 4))), (.not (.tr (.cal 56 [(.ix (.v 1) (.k (.int 2)))])))]) [.ret (.k (.bl false))] []],
.set 2 (.comp (.s 1) (.e (.v 0)) (.ix (.v 1) (.k (.int 0))) []),
.ife (.or [(.tr (.cmp .ne (.blt .lenset [(.v 2)]) (.blt .len [(.v 2)]))), (.tr (.cmp .eq (.ix (.ix (.ix (.v 0) (.k (.int 0))) (.k (.int 2))) (.k (.int 0))) (.k (.str s_back))))]) [.ret (.k (.bl false))] [],
.for_ (.s 3) (.rng [(.blt .len [(.v 0)])]) [.for_ (.s 5) (.e (.ix (.ix (.v 0) (.v 3)) (.k (.int 1)))) [.ife (.and [(.tr (.cmp .eq (.ix (.ix (.v 5) (.k (.int 1))) (.k (.int 0))) (.k (.str s_back)))), (.tr (.cmp .eq (.v 3) (.k (.int 0))))]) [.ret (.k (.bl false))] [], .ife (.and [(.tr (.cmp .eq (.ix (.ix (.v 5) (.k (.int 1))) (.k (.int 0))) (.k (.str s_jump)))), (.tr (.cmp .notin (.ix (.ix (.v 5) (.k (.int 1))) (.k (.int 1))) (.sl (.v 2) (some (.bin .add (.v 3) (.k (.int 1)))) none)))]) [.ret (.k (.bl false))] []]],
.ret (.k (.bl true))]⟩
/-- _law_slim_world: pool base -/
def f_l_slim_world : Fn := ⟨1, 2, [
.set 1 (.ix (.tup [(.cal 31 [(.v 0), (.k (.int 65000))]), (.k (.int 0)), (.k (.int 65234))]) (.cal 31 [(.v 0), (.k (.int 3))])),
.ret (.tup [(.tup [(.v 1), (.bin .add (.v 1) (.k (.int 1))), (.bin .add (.v 1) (.k (.int 300)))]), (.tup [(.cal 31 [(.v 0), (.k (.int 65536))]), (.k (.int 80))]), (.ix (.tup [(.k (.int 0)), (.k (.int 0)), (.k (.int 1)), (.k (.int 2)), (.k (.int 0)), (.k (.int 1)), (.k (.int 2)), (.k (.int 3))]) (.cal 31 [(.v 0), (.k (.int 8))]))])]⟩
/-- _law_slim_numbers: pool field mask k -/
def f_l_slim_numbers : Fn := ⟨2, 4, [
.ife (.tr (.cmp .isin (.v 1) (.tup [(.k (.str s_interface)), (.k (.str s_side))]))) [.ret (.ix (.tup [(.tup [(.tup [(.k (.int 0)), (.k (.int 0))])]), (.tup [(.tup [(.k (.int 1)), (.k (.int 1))])])]) (.cal 31 [(.v 0), (.k (.int 2))]))] [],
.ife (.tr (.cmp .eq (.v 1) (.k (.str s_kind)))) [.ret (.ix (.tup [(.tup [(.tup [(.k (.int 6)), (.k (.int 6))])]), (.tup [(.tup [(.k (.int 17)), (.k (.int 17))])]), (.tup [(.tup [(.k (.int 6)), (.k (.int 17))])]), (.tup [(.tup [(.k (.int 1)), (.k (.int 1))])]), (.tup [(.tup [(.k (.int 0)), (.k (.int 5))])]), (.tup [(.tup [(.k (.int 7)), (.k (.int 255))])])]) (.cal 31 [(.v 0), (.k (.int 6))]))] [],
.set 2 (.cal 31 [(.v 0), (.k (.int 256))]),
.ret (.cal 35 [(.comp (.s 3) (.rng [(.bin .add (.cal 49 [(.v 1)]) (.k (.int 1)))]) (.v 3) [(.tr (.cmp .eq (.bin .mod (.blt .int [(.bin .fdiv (.v 2) (.cal 37 [(.v 3)]))]) (.k (.int 2))) (.k (.int 1))))])])]⟩
/-- _law_slim_conditions: pool world most found k field turn numbers fields base -/
def f_l_slim_conditions : Fn := ⟨3, 10, [
.setO 3 (.lst []),
.for_ (.s 4) (.rng [(.cal 31 [(.v 0), (.ix (.tup [(.bin .add (.v 2) (.k (.int 1))), (.bin .add (.v 2) (.k (.int 1))), (.k (.int 5))]) (.cal 31 [(.v 0), (.k (.int 3))]))])]) [.set 5 (.ix (.tup [(.k (.str s_talk)), (.k (.str s_talk)), (.k (.str s_talk)), (.k (.str s_interface)), (.k (.str s_interface)), (.k (.str s_flags)), (.k (.str s_side)), (.k (.str s_kind)), (.k (.str s_mark)), (.k (.str s_heavy)), (.k (.str s_heavy)), (.k (.str s_heavy))]) (.cal 31 [(.v 0), (.k (.int 12))])), .ife (.tr (.cmp .eq (.v 5) (.k (.str s_heavy)))) [.set 8 (.tup [(.k (.str s_source)), (.k (.str s_destination)), (.k (.str s_sport)), (.k (.str s_dport)), (.k (.str s_length)), (.k (.str s_code)), (.k (.str s_talk)), (.k (.str s_talk)), (.k (.str s_talk)), (.k (.str s_side))]), .set 5 (.ite (.tr (.cmp .ne (.ix (.v 1) (.k (.int 2))) (.k (.int 3)))) (.ix (.v 8) (.bin .add (.bin .mul (.k (.int 2)) (.ix (.v 1) (.k (.int 2)))) (.cal 31 [(.v 0), (.k (.int 2))]))) (.cal 32 [(.v 0), (.sl (.v 8) none (some (.k (.int 6))))]))] [], .set 6 (.ix (.tup [(.k (.int 0)), (.k (.int 0)), (.k (.int 1)), (.k (.int 2)), (.k (.int 3))]) (.cal 31 [(.v 0), (.k (.int 5))])), .set 7 (.ite (.tr (.cmp .eq (.v 5) (.k (.str s_mark)))) (.tup [(.tup [(.k (.int 1)), (.bin .add (.k (.int 1)) (.cal 31 [(.v 0), (.k (.int 2))]))])]) (.ix (.tup [(.tup [(.tup [(.k (.int 0)), (.k (.int 20))])]), (.tup [(.tup [(.k (.int 21)), (.k (.int 1500))])]), (.tup [(.tup [(.k (.int 20)), (.k (.int 20))])]), (.tup [(.tup [(.k (.int 19)), (.k (.int 20))]), (.tup [(.k (.int 30)), (.k (.int 40))])])]) (.v 6))), .ife (.tr (.cmp .isin (.v 5) (.tup [(.k (.str s_source)), (.k (.str s_destination)), (.k (.str s_sport)), (.k (.str s_dport)), (.k (.str s_code))]))) [.set 9 (.ite (.tr (.cmp .isin (.v 5) (.tup [(.k (.str s_source)), (.k (.str s_destination))]))) (.ix (.ix (.v 1) (.k (.int 0))) (.k (.int 0))) (.ix (.ix (.v 1) (.k (.int 1))) (.k (.int 0)))), .set 7 (.ix (.tup [(.tup [(.tup [(.v 9), (.v 9)])]), (.tup [(.tup [(.k (.int 0)), (.v 9)])]), (.tup [(.tup [(.v 9), (.k (.int 65535))])]), (.cal 35 [(.lst [(.v 9), (.blt .min2 [(.k (.int 65535)), (.bin .add (.v 9) (.k (.int 2)))])])])]) (.v 6))] [], .ife (.tr (.cmp .isin (.v 5) (.tup [(.k (.str s_talk)), (.k (.str s_interface)), (.k (.str s_flags)), (.k (.str s_side)), (.k (.str s_kind))]))) [.set 7 (.cal 61 [(.v 0), (.v 5)])] [], .app (.b 3) (.tup [(.v 5), (.v 7)])],
.ret (.blt .tuple [(.b 3)])]⟩
/-- _law_slim_book: pool world rules words found k row j -/
def f_l_slim_book : Fn := ⟨3, 8, [
.set 3 (.cal 53 [(.v 0), (.ix (.tup [(.k (.int 1)), (.k (.int 1)), (.k (.int 2))]) (.cal 31 [(.v 0), (.k (.int 3))]))]),
.setO 4 (.lst []),
.for_ (.s 5) (.rng [(.blt .len [(.v 3)])]) [.setO 6 (.lst []), .for_ (.s 7) (.rng [(.cal 31 [(.v 0), (.bin .add (.v 2) (.k (.int 1)))])]) [.app (.b 6) (.tup [(.cal 62 [(.v 0), (.v 1), (.k (.int 2))]), (.cal 51 [(.v 0), (.sl (.v 3) (some (.bin .add (.v 5) (.k (.int 1)))) none), (.cmp .eq (.v 5) (.k (.int 0)))])])], .ife (.and [(.tr (.cmp .eq (.v 5) (.k (.int 0)))), (.tr (.cmp .eq (.cal 31 [(.v 0), (.k (.int 2))]) (.k (.int 0))))]) [.setO 6 (.bin .add (.b 6) (.sl (.lst [(.tup [(.tup [(.tup [(.k (.str s_talk)), (.tup [(.tup [(.k (.int 2)), (.k (.int 5))])])])]), (.tup [(.k (.str s_accept))])]), (.tup [(.tup [(.tup [(.k (.str s_talk)), (.tup [(.tup [(.k (.int 1)), (.k (.int 1))])])]), (.tup [(.k (.str s_interface)), (.tup [(.tup [(.k (.int 0)), (.k (.int 0))])])])]), (.tup [(.k (.str s_accept))])])]) (some (.cal 31 [(.v 0), (.k (.int 2))])) none))] [], .app (.b 4) (.tup [(.ix (.v 3) (.v 5)), (.blt .tuple [(.b 6)]), (.ite (.or [(.tr (.cmp .eq (.v 5) (.k (.int 0)))), (.tr (.cmp .eq (.cal 31 [(.v 0), (.k (.int 2))]) (.k (.int 0))))]) (.ix (.tup [(.tup [(.k (.str s_accept))]), (.tup [(.k (.str s_drop))]), (.tup [(.k (.str s_drop))])]) (.cal 31 [(.v 0), (.k (.int 3))])) (.tup [(.k (.str s_back))]))])],
.ret (.blt .tuple [(.b 4)])]⟩
/-- _law_is_entry: value result key item -/
def f_l_is_entry : Fn := ⟨1, 4, [
.ife (.or [(.not (.tr (.blt (.isa .tup) [(.v 0)]))), (.tr (.cmp .lt (.blt .len [(.v 0)]) (.k (.int 2)))), (.not (.tr (.blt (.isa .str) [(.ix (.v 0) (.k (.int 0)))])))]) [.ret (.k (.bl false))] [],
.ife (.tr (.cmp .eq (.ix (.v 0) (.k (.int 0))) (.k (.str s_book)))) [.ret (.and [(.cmp .eq (.blt .len [(.v 0)]) (.k (.int 2))), (.cal 59 [(.ix (.v 0) (.k (.int 1)))])])] [],
.ife (.tr (.cmp .eq (.ix (.v 0) (.k (.int 0))) (.k (.str s_forget)))) [.set 2 (.ix (.v 0) (.k (.int 1))), .ife (.or [(.tr (.cmp .ne (.blt .len [(.v 0)]) (.k (.int 2)))), (.not (.tr (.blt (.isa .tup) [(.v 2)]))), (.tr (.cmp .ne (.blt .len [(.v 2)]) (.k (.int 3)))), (.not (.tr (.blt (.isa .tup) [(.ix (.v 2) (.k (.int 1)))]))), (.not (.tr (.blt (.isa .tup) [(.ix (.v 2) (.k (.int 2)))]))), (.tr (.cmp .ne (.blt .len [(.bin .add (.ix (.v 2) (.k (.int 1))) (.ix (.v 2) (.k (.int 2))))]) (.k (.int 4)))), (.tr (.cmp .ne (.blt .len [(.ix (.v 2) (.k (.int 1)))]) (.k (.int 2))))]) [.ret (.k (.bl false))] [], .ret (.and [(.cal 45 [(.ix (.v 2) (.k (.int 0))), (.k (.int 255))]), (.cmp .eq (.blt .len [(.comp (.s 3) (.e (.bin .add (.ix (.v 2) (.k (.int 1))) (.ix (.v 2) (.k (.int 2))))) (.v 3) [(.not (.tr (.cal 45 [(.v 3), (.k (.int 65535))])))])]) (.k (.int 0))), (.cmp .isin (.ix (.v 2) (.k (.int 0))) (.tup [(.k (.int 6)), (.k (.int 17))])), (.cmp .lt (.ix (.ix (.v 2) (.k (.int 1))) (.k (.int 0))) (.ix (.ix (.v 2) (.k (.int 2))) (.k (.int 0))))])] [],
.ife (.or [(.tr (.cmp .ne (.ix (.v 0) (.k (.int 0))) (.k (.str s_in)))), (.tr (.cmp .ne (.blt .len [(.v 0)]) (.k (.int 4)))), (.not (.tr (.cal 45 [(.ix (.v 0) (.k (.int 1))), (.k (.int 1))]))), (.not (.tr (.cal 46 [(.ix (.v 0) (.k (.int 2)))])))]) [.ret (.k (.bl false))] [],
.set 1 (.ix (.v 0) (.k (.int 3))),
.ife (.or [(.not (.tr (.blt (.isa .tup) [(.v 1)]))), (.tr (.cmp .lt (.blt .len [(.v 1)]) (.k (.int 2)))), (.not (.tr (.blt (.isa .str) [(.ix (.v 1) (.k (.int 0)))])))]) [.ret (.k (.bl false))] [],
.ife (.tr (.cmp .eq (.ix (.v 1) (.k (.int 0))) (.k (.str s_dropped)))) [.ret (.and [(.cmp .eq (.blt .len [(.v 1)]) (.k (.int 2))), (.blt (.isa .str) [(.ix (.v 1) (.k (.int 1)))])])] [],
.ret (.and [(.cmp .isin (.ix (.v 1) (.k (.int 0))) (.tup [(.k (.str s_out)), (.k (.str s_back))])), (.cmp .eq (.blt .len [(.v 1)]) (.k (.int 3))), (.cal 45 [(.ix (.v 1) (.k (.int 1))), (.k (.int 1))]), (.cal 46 [(.ix (.v 1) (.k (.int 2)))])])]⟩
/-- _law_is_journal: value entry -/
def f_l_is_journal : Fn := ⟨1, 2, [
.ife (.or [(.not (.tr (.blt (.isa .tup) [(.v 0)]))), (.tr (.cmp .ne (.blt .len [(.v 0)]) (.k (.int 3)))), (.not (.tr (.cal 59 [(.ix (.v 0) (.k (.int 0)))]))), (.not (.tr (.cal 42 [(.ix (.v 0) (.k (.int 1)))]))), (.not (.tr (.blt (.isa .tup) [(.ix (.v 0) (.k (.int 2)))])))]) [.ret (.k (.bl false))] [],
.ret (.cmp .eq (.blt .len [(.comp (.s 1) (.e (.ix (.v 0) (.k (.int 2)))) (.v 1) [(.not (.tr (.cal 64 [(.v 1)])))])]) (.k (.int 0)))]⟩
/-- law: script pool world book row entries odd journal tried value due kept k entry -/
def f_law : Fn := ⟨1, 14, [
.set 1 (.cal 29 [(.v 0)]),
.set 2 (.cal 60 [(.v 1)]),
.set 3 (.cal 63 [(.v 1), (.v 2), (.k (.int 2))]),
.set 4 (.cal 44 [(.v 1), (.k (.int 3))]),
.set 5 (.lst [(.tup [(.k (.str s_in)), (.k (.int 1)), (.v 4), (.tup [(.k (.str s_out)), (.k (.int 0)), (.v 4)])]), (.tup [(.k (.str s_in)), (.k (.int 0)), (.tup []), (.tup [(.k (.str s_dropped)), (.k (.str s_short))])]), (.tup [(.k (.str s_in)), (.k (.int 0)), (.v 4), (.tup [(.k (.str s_back)), (.k (.int 1)), (.tup [])])]), (.tup [(.k (.str s_forget)), (.tup [(.k (.int 6)), (.tup [(.k (.int 1)), (.k (.int 2))]), (.tup [(.k (.int 3)), (.k (.int 4))])])])]),
.set 5 (.bin .add (.v 5) (.lst [(.tup [(.k (.str s_book)), (.v 3)]), (.tup [(.k (.str s_forget)), (.tup [(.k (.int 17)), (.tup [(.k (.int 0)), (.k (.int 65535))]), (.tup [(.k (.int 65535)), (.k (.int 0))])])])])),
.set 6 (.lst [(.tup [(.k (.str s_in)), (.k (.int 2)), (.v 4), (.tup [(.k (.str s_out)), (.k (.int 0)), (.v 4)])]), (.tup [(.k (.str s_in)), (.k (.int 0)), (.v 4), (.tup [(.k (.str s_out)), (.k (.int 0))])]), (.tup [(.k (.str s_in)), (.k (.int 0)), (.v 4), (.tup [(.k (.str s_dropped)), (.k (.int 3))])]), (.tup [(.k (.str s_in)), (.k (.int 0)), (.v 4), (.tup [(.k (.str s_lost)), (.k (.int 0)), (.v 4)])])]),
.set 6 (.bin .add (.v 6) (.lst [(.tup [(.k (.str s_in)), (.k (.int 0)), (.blt .list [(.v 4)]), (.tup [(.k (.str s_dropped)), (.k (.str s_x))])]), (.tup [(.k (.str s_in)), (.k (.int 0)), (.v 4)]), (.tup [(.k (.str s_forget)), (.tup [(.k (.int 6)), (.tup [(.k (.int 3)), (.k (.int 2))]), (.tup [(.k (.int 1)), (.k (.int 4))])])]), (.tup [(.k (.str s_forget)), (.tup [(.k (.int 6)), (.tup [(.k (.int 1)), (.k (.int 2))]), (.tup [(.k (.int 1)), (.k (.int 4))])])])])),
.set 6 (.bin .add (.v 6) (.lst [(.tup [(.k (.str s_forget)), (.tup [(.k (.int 1)), (.tup [(.k (.int 1)), (.k (.int 2))]), (.tup [(.k (.int 3)), (.k (.int 4))])])]), (.tup [(.k (.str s_forget)), (.k .non)]), (.tup [(.k (.str s_book)), (.k .non)]), (.tup [(.k (.str s_halt)), (.v 3)]), (.tup [(.k (.str s_forget)), (.tup [(.k (.int 6)), (.tup [(.k (.int 1)), (.k (.int 2)), (.k (.int 3))]), (.tup [(.k (.int 4)), (.k (.int 5))])])])])),
.set 6 (.bin .add (.v 6) (.lst [(.tup [(.k (.str s_forget)), (.tup [(.k (.int 6)), (.tup [(.k (.int 1)), (.k (.int 2))]), (.tup [(.k (.int 3)), (.k (.int 4))]), (.k (.int 0))])]), (.tup [(.k (.str s_forget)), (.lst [(.k (.int 6)), (.tup [(.k (.int 1)), (.k (.int 2))]), (.tup [(.k (.int 3)), (.k (.int 4))])])]), (.tup [(.k (.str s_forget)), (.tup [(.k (.int 6)), (.lst [(.k (.int 1)), (.k (.int 2))]), (.tup [(.k (.int 3)), (.k (.int 4))])])]), (.tup [(.k (.str s_book))]), (.tup [])])),
.set 6 (.bin .add (.v 6) (.lst [(.k .non), (.lst [(.k (.str s_book)), (.v 3)])])),
.set 6 (.bin .add (.v 6) (.lst [(.tup [(.k (.str s_in)), (.k (.bl true)), (.v 4), (.tup [(.k (.str s_dropped)), (.k (.str s_x))])]), (.tup [(.k (.str s_in)), (.k (.int 0)), (.v 4), (.tup [(.k (.str s_dropped)), (.k (.str s_x)), (.k (.int 0))])])])),
.set 7 (.tup [(.v 3), (.cal 43 [(.v 1), (.k (.int 2))]), (.blt .tuple [(.comp (.s 12) (.rng [(.cal 31 [(.v 1), (.k (.int 10))])]) (.cal 32 [(.v 1), (.v 5)]) [])])]),
.set 8 (.lst [(.v 7), (.blt .list [(.v 7)]), (.cal 34 [(.v 7)]), (.sl (.v 7) none (some (.k (.int 2)))), (.bin .add (.v 7) (.tup [(.tup [])])), (.bin .add (.tup [(.k .non)]) (.sl (.v 7) (some (.k (.int 1))) none)), (.bin .add (.bin .add (.sl (.v 7) none (some (.k (.int 1)))) (.tup [(.k .non)])) (.sl (.v 7) (some (.k (.int 2))) none))]),
.set 8 (.bin .add (.v 8) (.lst [(.bin .add (.sl (.v 7) none (some (.k (.int 2)))) (.tup [(.blt .list [(.ix (.v 7) (.k (.int 2)))])]))])),
.set 8 (.bin .add (.bin .add (.bin .add (.v 8) (.comp (.s 13) (.e (.bin .add (.v 5) (.v 6))) (.bin .add (.sl (.v 7) none (some (.k (.int 2)))) (.tup [(.tup [(.v 13)])])) [])) (.comp (.s 13) (.e (.v 6)) (.bin .add (.sl (.v 7) none (some (.k (.int 2)))) (.tup [(.bin .add (.blt .tuple [(.v 5)]) (.tup [(.v 13)]))])) [])) (.comp (.s 12) (.rng [(.k (.int 8))]) (.cal 33 [(.v 1), (.v 7)]) [])),
.for_ (.s 9) (.e (.v 8)) [.set 10 (.cal 65 [(.v 9)]), .set 11 (.blt .repr [(.v 9)]), .ife (.or [(.not (.tr (.cal 27 [(.cal 26 [(.v 9)]), (.v 10)]))), (.tr (.cmp .ne (.blt .repr [(.v 9)]) (.v 11)))]) [.ret (.k (.bl false))] []],
.ret (.k (.bl true))]⟩
def glob : Nat → Option D
  | 0 => some (.int 6)
  | 1 => some (.int 17)
  | 2 => some (.lst [(.str s_interface), (.str s_kind), (.str s_source), (.str s_sport), (.str s_destination), (.str s_dport), (.str s_flags), (.str s_code), (.str s_length), (.str s_talk), (.str s_side)])
  | 3 => some (.lst [(.int 1), (.int 255), (.int 65535), (.int 65535), (.int 65535), (.int 65535), (.int 7), (.int 65535), (.int 1500), (.int 6), (.int 1)])
  | 4 => some (.str s_abcdefghijklmnopqrst)
  | 5 => some (.int 65535)
  | 6 => some (.int 16)
  | _ => none
def cst : Nat → Option (List (List Nat))
  | 48 => some [s_interface, s_kind, s_source, s_sport, s_destination, s_dport, s_flags, s_code, s_length, s_talk, s_side]
  | _ => none
def fnl : List (Nat × Fn) := [(0, f_is_number), (1, f_is_count), (2, f_is_pair), (3, f_is_set), (4, f_set_of), (5, f_both), (6, f_is_row), (7, f_has_ports), (8, f_is_word), (9, f_top_of), (10, f_is_condition), (11, f_is_conditions), (12, f_is_decision), (13, f_is_action), (14, f_is_rule), (15, f_is_chain), (16, f_jumps_well), (17, f_is_book), (18, f_is_prefix), (19, f_span), (20, f_held), (21, f_is_exchange), (22, f_is_end), (23, f_is_key), (24, f_is_result), (25, f_is_entry), (26, f_is_journal), (27, f_l_same), (28, f_l_is_integer), (29, f_l_pool), (30, f_l_spread), (31, f_l_draw), (32, f_l_pick), (33, f_l_bent), (34, f_l_booled), (35, f_l_runs), (36, f_l_is_set), (37, f_l_power), (38, f_l_prefix), (39, f_l_is_prefix), (40, f_l_last), (41, f_l_apart), (42, f_l_is_exchange), (43, f_l_exchange), (44, f_l_row), (45, f_l_is_number), (46, f_l_is_row), (47, f_l_tops), (48, f_l_fields), (49, f_l_top_of), (50, f_l_decision), (51, f_l_action), (52, f_l_spelled), (53, f_l_chain_words), (54, f_l_is_word), (55, f_l_is_condition), (56, f_l_is_decision), (57, f_l_is_action), (58, f_l_is_rule), (59, f_l_is_book), (60, f_l_slim_world), (61, f_l_slim_numbers), (62, f_l_slim_conditions), (63, f_l_slim_book), (64, f_l_is_entry), (65, f_l_is_journal), (66, f_law)]
def fns (n : Nat) : Option Fn := fnl.lookup n
end T
end S_T82
section S_M82a
set_option linter.all false
set_option maxRecDepth 100000
/-! M82a: the predicates. -/
namespace K
open G T
def cx (wf n : Nat) : Cx := ⟨evF fns glob cst wf n, glob, wf, if n = 0 then fun _ => none else cst⟩
abbrev ev (wf n i : Nat) (ds : List D) (S : List Cell) : Rs D := evF fns glob cst wf n i ds S
section
variable {wf n : Nat} {S : List Cell} {top : Int} {v a b c : D}
@[simp] theorem call_cx {wf n i ds S} : (cx wf n).call i ds S = ev wf n i ds S := (rfl)
@[simp] theorem glob_cx {wf n} : (cx wf n).glob = glob := (rfl)
@[simp] theorem cst_cx {wf n} : (cx wf (n + 1)).cst = cst := by
  show (if n + 1 = 0 then (fun _ => none) else cst) = cst
  rw [if_neg (by omega)]
/-! ### numbers, pairs, sets -/
def sNum (top : Int) : D → Bool
  | .int i => decide (0 ≤ i) && decide (i ≤ top)
  | _ => false
def sCnt : D → Bool
  | .int i => decide (0 ≤ i)
  | _ => false
def sPair : D → Bool
  | .tup [.int a, .int b] => decide (0 ≤ a) && decide (0 ≤ b) && decide (a ≤ b)
  | _ => false
def sSetL : Int → List D → Bool
  | _, [] => true
  | last, .tup [.int a, .int b] :: r => decide (0 ≤ a) && decide (a ≤ b) && decide (last + 1 < a) && sSetL b r
  | _, _ :: _ => false
def sSet : D → Bool
  | .tup xs => sSetL (-2) xs
  | _ => false
theorem h_num (hv : v.fin = true) : ev wf (n + 1) 0 [v, .int top] S = .ok (.bl (sNum top v)) S := by
  rw [show ev wf (n + 1) 0 [v, .int top] S = (evB (cx wf n) f_is_number.body [.v v, .v (.int top)] S).out from rfl]
  cases v with
  | loc _ => cases hv
  | exc _ _ => cases hv
  | int i => by_cases h : 0 ≤ i <;> simp [f_is_number, sNum, h]
  | _ => simp [f_is_number, sNum]
theorem h_cnt (hv : v.fin = true) : ev wf (n + 1) 1 [v] S = .ok (.bl (sCnt v)) S := by
  rw [show ev wf (n + 1) 1 [v] S = (evB (cx wf n) f_is_count.body [.v v] S).out from rfl]
  cases v with
  | loc _ => cases hv
  | exc _ _ => cases hv
  | _ => simp [f_is_count, sCnt]
theorem h_pair (hv : v.fin = true) : ev wf (n + 2) 2 [v] S = .ok (.bl (sPair v)) S := by
  rw [show ev wf (n + 2) 2 [v] S = (evB (cx wf (n + 1)) f_is_pair.body [.v v] S).out from rfl]
  cases v with
  | loc _ => cases hv
  | exc _ _ => cases hv
  | tup xs =>
    match xs, hv with
    | [], _ => simp [f_is_pair, sPair]
    | [x], _ => simp [f_is_pair, sPair]
    | [x, y], hv =>
      simp only [fin_tup, finL_cons, Bool.and_eq_true] at hv
      simp [f_is_pair, h_cnt hv.2.1, h_cnt hv.2.2.1, dr_fin hv.2.1, dr_fin hv.2.2.1]
      cases x <;> cases y <;> simp [sPair, sCnt]
      · rename_i i j
        by_cases hi : 0 ≤ i <;> by_cases hj : 0 ≤ j <;> simp [hi, hj]
    | x :: y :: z :: r, _ =>
      simp [f_is_pair, sPair]
      omega
  | _ => simp [f_is_pair, sPair]
theorem sSetL_pairs : ∀ {xs : List D} {l : Int}, sSetL l xs = true → -2 ≤ l → xs.all sPair = true
  | [], _, _, _ => rfl
  | d :: r, l, h, hl => by
    unfold sSetL at h
    split at h
    · cases ‹_ :: _ = []›
    · rename_i a b r' heq
      cases heq
      simp only [Bool.and_eq_true, decide_eq_true_eq] at h
      rw [List.all_cons, sSetL_pairs h.2 (by omega)]
      simp [sPair]
      omega
    · cases h
/-- the gaps -/
def gap : List D → Nat → Bool
  | xs, k => match xs[k]?, xs[k + 1]? with
    | some (.tup [_, .int b]), some (.tup [.int c, _]) => decide (b + 1 < c)
    | _, _ => false
theorem sSetL_gaps : ∀ {xs : List D} {l : Int}, xs.all sPair = true → (∀ a b r, xs = .tup [.int a, .int b] :: r → l + 1 < a) → sSetL l xs = (List.range (xs.length - 1)).all (gap xs)
  | [], l, _, _ => rfl
  | [d], l, h, hl => by
    simp only [List.all_cons, List.all_nil, Bool.and_true] at h
    unfold sPair at h
    split at h
    · rename_i a b
      simp only [Bool.and_eq_true, decide_eq_true_eq] at h
      have := hl a b [] rfl
      simp [sSetL]
      omega
    · cases h
  | d :: e :: r, l, h, hl => by
    have h2 : (e :: r).all sPair = true := by
      rw [List.all_cons, Bool.and_eq_true] at h
      exact h.2
    rw [List.all_cons, Bool.and_eq_true] at h
    obtain ⟨h, h3⟩ := h
    have h4 := h2
    rw [List.all_cons, Bool.and_eq_true] at h4
    obtain ⟨h4, _⟩ := h4
    unfold sPair at h h4
    split at h
    · rename_i a b
      split at h4
      · rename_i a' b'
        simp only [Bool.and_eq_true, decide_eq_true_eq] at h
        have hla := hl a b _ rfl
        have e1 : (List.range ((D.tup [.int a, .int b] :: D.tup [.int a', .int b'] :: r).length - 1)).all (gap (.tup [.int a, .int b] :: .tup [.int a', .int b'] :: r)) = (decide (b + 1 < a') && (List.range ((D.tup [.int a', .int b'] :: r).length - 1)).all (gap (.tup [.int a', .int b'] :: r))) := by
          simp only [List.length_cons, Nat.add_sub_cancel]
          rw [List.range_succ_eq_map, List.all_cons, List.all_map]
          rfl
        rw [e1]
        by_cases hb : b + 1 < a'
        · rw [← sSetL_gaps (l := b) h2 (fun a'' b'' r' e => by cases e; exact hb)]
          rw [sSetL]
          simp [hb, h, hla]
        · rw [sSetL, sSetL]
          simp [hb]
      · cases h4
    · cases h
theorem upto_eq : ∀ (n : Nat) (i : Int), upto i n = (List.range n).map fun k => .int (i + k)
  | 0, _ => rfl
  | n + 1, i => by
    rw [List.range_succ_eq_map, List.map_cons, List.map_map]
    show D.int i :: upto (i + 1) n = _
    rw [upto_eq n (i + 1)]
    simp [Function.comp_def]
    intro a _
    omega
theorem rngOk_len {α} {xs : List α} (h : xs.length ≤ lim) {k : Int} (h1 : -10 ≤ k) (h2 : k ≤ 10) : rngOk (xs.length + k) = true := by
  unfold rngOk lim at *
  simp
  omega
theorem h_set (hv : v.fin = true) : ev wf (n + 3) 3 [v] S = .ok (.bl (sSet v)) S := by
  rw [show ev wf (n + 3) 3 [v] S = (evB (cx wf (n + 2)) f_is_set.body [.v v, .nil, .nil] S).out from rfl]
  cases v with
  | loc _ => cases hv
  | exc _ _ => cases hv
  | tup xs =>
    have hl := fin_tup_len hv
    have c1 : compL (turn (cx wf (n + 2)) (.s 2) (.cal 2 [.v 2]) [] [.v (.tup xs), .nil, .nil]) xs S [] = .ok (xs.map fun d => .bl (sPair d)) S := by
      rw [compL_map (g := fun d => .bl (sPair d)) (fun d hd => ?_) (by simpa using hl)]
      · simp
      · simp [turn, h_pair (fin_tup_mem hv hd)]
    have hr : rngOk ((xs.length : Int) - 1) = true := by
      have := rngOk_len hl (k := -1) (by omega) (by omega)
      rwa [Int.add_neg_one] at this
    by_cases hp : xs.all sPair = true
    · have c2 : compL (turn (cx wf (n + 2)) (.s 1) (.cmp .lt (.bin .add (.ix (.ix (.v 0) (.v 1)) (.k (.int 1))) (.k (.int 1))) (.ix (.ix (.v 0) (.bin .add (.v 1) (.k (.int 1)))) (.k (.int 0)))) [] [.v (.tup xs), .nil, .nil]) (upto 0 (xs.length - 1)) S [] = .ok ((List.range (xs.length - 1)).map fun k => .bl (gap xs k)) S := by
        rw [upto_eq, compL_map (g := fun d => match d with | .int k => .bl (gap xs k.toNat) | d => d) (fun d hd => ?_) (by simp; omega)]
        · simp [Function.comp_def]
        · obtain ⟨k, hk, rfl⟩ := List.mem_map.mp hd
          have hk : k + 1 < xs.length := by have := List.mem_range.mp hk; omega
          have g1 : xs[k]? = some xs[k] := List.getElem?_eq_getElem (by omega)
          have g2 : xs[k + 1]? = some xs[k + 1] := List.getElem?_eq_getElem hk
          have p1 := List.all_eq_true.mp hp _ (List.getElem_mem (show k < xs.length by omega))
          have p2 := List.all_eq_true.mp hp _ (List.getElem_mem hk)
          have i1 : atI xs (k : Int) = some xs[k] := by rw [atI_nat, g1]
          have i2 : atI xs ((k : Int) + 1) = some xs[k + 1] := by
            have := atI_nat (xs := xs) (i := k + 1)
            rw [g2] at this
            exact this
          simp only [gap, g1, g2, Int.zero_add, Int.toNat_natCast]
          generalize xs[k] = d1 at p1 i1 ⊢
          generalize xs[k + 1] = d2 at p2 i2 ⊢
          unfold sPair at p1 p2
          split at p1
          · split at p2
            · simp [turn, i1, i2]
            · cases p2
          · cases p1
      have hg := sSetL_gaps (l := -2) hp fun a b r e => by
        subst e
        simp [sPair] at hp
        omega
      simp [f_is_set, c1, hp, pRng, hr, c2, sSet, hg]
    · have hn : sSetL (-2) xs = false := by
        cases h : sSetL (-2) xs with
        | false => rfl
        | true => exact absurd (sSetL_pairs h (by omega)) hp
      simp only [Bool.not_eq_true] at hp
      simp [f_is_set, c1, hp, sSet, hn]
  | _ => simp [f_is_set, sSet]
end
end K
end S_M82a
section S_M82b
set_option linter.all false
set_option maxRecDepth 100000
/-! M82b: the program's predicates. -/
namespace K
open G T
section
variable {wf n : Nat} {S : List Cell} {top : Int} {v a b c : D}
def sRow : D → Bool
  | .tup xs => xs.all (sNum 255)
  | _ => false
theorem h_row (hv : v.fin = true) : ev wf (n + 2) 6 [v] S = .ok (.bl (sRow v)) S := by
  rw [show ev wf (n + 2) 6 [v] S = (evB (cx wf (n + 1)) f_is_row.body [.v v, .nil] S).out from rfl]
  cases v with
  | loc _ => cases hv
  | exc _ _ => cases hv
  | tup xs =>
    simp [f_is_row]
    rw [compA (fun d => .bl (sNum 255 d)) (hl := ?hl) (h := ?h)]
    · simp [sRow]
    case hl => exact fin_tup_len hv
    case h => exact fun d hd => by simp [turn, h_num (fin_tup_mem hv hd)]
  | _ => simp [f_is_row, sRow]
theorem h_ports {i : Int} : ev wf (n + 1) 7 [.int i] S = .ok (.bl (i == 6 || i == 17)) S := by
  rw [show ev wf (n + 1) 7 [.int i] S = (evB (cx wf n) f_has_ports.body [.v (.int i)] S).out from rfl]
  simp [f_has_ports, glob, cmp_in_tup]
  rw [BEq.comm (a := (6 : Int)), BEq.comm (a := (17 : Int))]
def sWord : D → Bool
  | .str s => decide (1 ≤ s.length) && decide (s.length ≤ 12) && s.all fun c => s_abcdefghijklmnopqrst.contains c
  | _ => false
theorem h_word (hv : v.fin = true) : ev wf (n + 1) 8 [v] S = .ok (.bl (sWord v)) S := by
  rw [show ev wf (n + 1) 8 [v] S = (evB (cx wf n) f_is_word.body [.v v, .nil] S).out from rfl]
  cases v with
  | loc _ => cases hv
  | exc _ _ => cases hv
  | str s =>
    have hv := fin_str_len hv
    simp [f_is_word]
    by_cases h1 : 1 ≤ s.length
    · by_cases h2 : s.length ≤ 12
      · have h3 : (1 : Int) ≤ s.length := by omega
        have h4 : (s.length : Int) ≤ 12 := by omega
        simp [h3, h4]
        rw [compA (fun d => match d with | .str [c] => .bl (s_abcdefghijklmnopqrst.contains c) | d => d) (hl := ?hl) (h := ?h)]
        · have e : ((s.map fun c => D.str [c]).map fun d => match d with | .str [c] => D.bl (s_abcdefghijklmnopqrst.contains c) | d => d) = s.map fun c => .bl (s_abcdefghijklmnopqrst.contains c) := by
            rw [List.map_map]
            rfl
          simp only [bind_ok, e]
          simp [sWord, h1, h2]
        case hl => simpa using hv
        case h =>
          intro d hd
          obtain ⟨c, _, rfl⟩ := List.mem_map.mp hd
          simp [turn, glob]
      · have h3 : (1 : Int) ≤ s.length := by omega
        have h4 : ¬ (s.length : Int) ≤ 12 := by omega
        simp [h3, h4, sWord, h2]
    · have h3 : ¬ (1 : Int) ≤ s.length := by omega
      simp [h3, sWord, h1]
  | _ => simp [f_is_word, sWord]
/-! ### conditions -/
def fields : List (List Nat) := [s_interface, s_kind, s_source, s_sport, s_destination, s_dport, s_flags, s_code, s_length, s_talk, s_side]
def tops : List Int := [1, 255, 65535, 65535, 65535, 65535, 7, 65535, 1500, 6, 1]
def sTop (f : List Nat) : Option Int := if f = s_mark then some 255 else if f ∈ fields then tops[fields.idxOf f]? else none
theorem tops_some {f : List Nat} (h : f ∈ fields) : ∃ t, tops[fields.idxOf f]? = some t ∧ 0 ≤ t := by
  have hl := List.idxOf_lt_length_iff.mpr h
  have : ∀ k, k < fields.length → ∃ t, tops[k]? = some t ∧ 0 ≤ t := by
    intro k hk
    have : k < 11 := hk
    match k, this with
    | 0, _ | 1, _ | 2, _ | 3, _ | 4, _ | 5, _ | 6, _ | 7, _ | 8, _ | 9, _ | 10, _ => exact ⟨_, rfl, by decide⟩
  exact this _ hl
theorem glob2 : glob 2 = some (.lst (fields.map .str)) := rfl
theorem glob3 : glob 3 = some (.lst (tops.map .int)) := rfl
theorem any_str {f : List Nat} {ss : List (List Nat)} : ((ss.map D.str).any fun y => D.eqv y (.str f)) = decide (f ∈ ss) := by
  induction ss with
  | nil => rfl
  | cons s r ih =>
    rw [List.map_cons, List.any_cons, ih]
    simp only [eqv_str, List.mem_cons]
    by_cases h : s = f
    · subst h; simp
    · have h2 : f ≠ s := fun z => h z.symm
      simp [h, h2]
theorem cmp_in_strs {f : List Nat} {ss : List (List Nat)} : pCmp .isin (.str f) (.lst (ss.map .str)) = some (decide (f ∈ ss)) := by
  rw [cmp_in_lst (by simp) (by simp), any_str]
theorem h_topOf {f : List Nat} : ev wf (n + 1) 9 [.str f] S = .ok (match sTop f with | some t => .int t | none => .non) S := by
  rw [show ev wf (n + 1) 9 [.str f] S = (evB (cx wf n) f_top_of.body [.v (.str f)] S).out from rfl]
  by_cases h : f = s_mark
  · simp [f_top_of, sTop, h]
  · by_cases h2 : f ∈ fields
    · obtain ⟨t, ht, _⟩ := tops_some h2
      have e := asStrs_map (id : List Nat → List Nat) fields
      simp only [id, List.map_id'] at e
      have e2 : placeOf f (fields.map .str) = some (.int (fields.idxOf f)) := by
        unfold placeOf
        rw [show asStrs (fields.map D.str) = some fields from by simpa using e]
        show (if f ∈ fields then _ else _) = _
        rw [if_pos h2]
      have e3 : atI (tops.map D.int) (fields.idxOf f : Int) = some (.int t) := by
        rw [atI_nat, List.getElem?_map, ht]
        rfl
      simp [f_top_of, sTop, h, glob2, glob3, cmp_in_lst, any_str, h2, recvOk, pM, e2, e3, ht]
    · simp [f_top_of, sTop, h, glob2, glob3, cmp_in_lst, any_str, h2]
def endLe (t : Int) : D → Bool
  | .tup [_, .int b] => decide (b ≤ t)
  | _ => false
def sCond : D → Bool
  | .tup [.str f, .tup xs] => sSet (.tup xs) && (match sTop f with | some t => xs.all (endLe t) | none => false)
  | _ => false
theorem h_cond (hv : v.fin = true) : ev wf (n + 4) 10 [v] S = .ok (.bl (sCond v)) S := by
  rw [show ev wf (n + 4) 10 [v] S = (evB (cx wf (n + 3)) f_is_condition.body [.v v, .nil, .nil] S).out from rfl]
  cases v with
  | loc _ => cases hv
  | exc _ _ => cases hv
  | tup xs =>
    match xs, hv with
    | [], _ => simp [f_is_condition, sCond]
    | [x], _ => simp [f_is_condition, sCond]
    | x :: y :: z :: r, _ =>
      simp [f_is_condition, sCond]
      omega
    | [x, y], hv =>
      simp only [fin_tup, finL_cons, Bool.and_eq_true] at hv
      obtain ⟨_, hx, hy, _⟩ := hv
      cases x with
      | loc _ => cases hx
      | exc _ _ => cases hx
      | str f =>
        simp [f_is_condition, h_set hy]
        cases y with
        | loc _ => cases hy
        | exc _ _ => cases hy
        | tup ys =>
          by_cases hs : sSet (.tup ys) = true
          · simp [hs, h_topOf]
            cases ht : sTop f with
            | none => simp [sCond, hs, ht]
            | some t =>
              simp
              have hp := sSetL_pairs (show sSetL (-2) ys = true from hs) (by omega)
              rw [compA (fun d => .bl (endLe t d)) (hl := ?hl) (h := ?h)]
              · simp [sCond, hs, ht]
              case hl => exact fin_tup_len hy
              case h =>
                intro d hd
                have := List.all_eq_true.mp hp d hd
                unfold sPair at this
                split at this
                · simp [turn, endLe]
                · cases this
          · simp only [Bool.not_eq_true] at hs
            simp [hs, sCond]
        | _ => simp [sSet, sCond]
      | _ => simp [f_is_condition, sCond]
  | _ => simp [f_is_condition, sCond]
def sConds : D → Bool
  | .tup xs => decide (xs.length ≤ 4) && xs.all sCond
  | _ => false
theorem h_conds (hv : v.fin = true) : ev wf (n + 5) 11 [v] S = .ok (.bl (sConds v)) S := by
  rw [show ev wf (n + 5) 11 [v] S = (evB (cx wf (n + 4)) f_is_conditions.body [.v v, .nil] S).out from rfl]
  cases v with
  | loc _ => cases hv
  | exc _ _ => cases hv
  | tup xs =>
    by_cases h : xs.length ≤ 4
    · have h2 : (xs.length : Int) ≤ 4 := by omega
      simp [f_is_conditions, h2]
      rw [compA (fun d => .bl (sCond d)) (hl := ?hl) (h := ?h)]
      · simp [sConds, h]
      case hl => exact fin_tup_len hv
      case h => exact fun d hd => by simp [turn, h_cond (fin_tup_mem hv hd)]
    · have h2 : ¬ (xs.length : Int) ≤ 4 := by omega
      simp [f_is_conditions, h2, sConds, h]
  | _ => simp [f_is_conditions, sConds]
end
end K
end S_M82b
section S_M82c
set_option linter.all false
set_option maxRecDepth 100000
/-! M82c: decisions, rules, books. -/
namespace K
open G T
section
variable {wf n : Nat} {S : List Cell} {top : Int} {v a b c : D}
def sDec : D → Bool
  | .tup (.str k :: r) => if k = s_refuse then (match r with | [x] => sNum 255 x | _ => false) else (decide (k = s_accept) || decide (k = s_drop)) && r.isEmpty
  | _ => false
theorem eqvL_nil_l {r : List D} : D.eqvL [] r = r.isEmpty := by cases r <;> rfl
theorem beq_str {s t : List Nat} : (s == t) = decide (t = s) := by
  by_cases h : s = t
  · subst h; simp
  · have h2 : t ≠ s := fun z => h z.symm
    simp [h, h2]
theorem h_dec (hv : v.fin = true) : ev wf (n + 2) 12 [v] S = .ok (.bl (sDec v)) S := by
  rw [show ev wf (n + 2) 12 [v] S = (evB (cx wf (n + 1)) f_is_decision.body [.v v] S).out from rfl]
  cases v with
  | loc _ => cases hv
  | exc _ _ => cases hv
  | tup xs =>
    match xs, hv with
    | [], _ => simp [f_is_decision, sDec]
    | x :: r, hv =>
      have hx : x.fin = true := fin_tup_mem hv List.mem_cons_self
      cases x with
      | loc _ => cases hx
      | exc _ _ => cases hx
      | str k =>
        have e0 : ¬ ((r.length : Int) + 1 = 0) := by omega
        by_cases hk : k = s_refuse
        · match r, hv with
          | [], _ => simp [f_is_decision, sDec, hk]
          | [y], hv =>
            have hy : y.fin = true := fin_tup_mem hv (by simp)
            simp [f_is_decision, sDec, hk, h_num hy]
          | y :: z :: r, hv =>
            have e1 : ¬ ((r.length : Int) + 1 + 1 + 1 = 0) := by omega
            have e2 : ¬ ((r.length : Int) + 1 + 1 + 1 = 2) := by omega
            simp [f_is_decision, sDec, hk, e1, e2]
        · have hk2 : ¬ s_refuse = k := fun z => hk z.symm
          simp [f_is_decision, sDec, hk, hk2, e0, cmp_in_tup, eqvL_nil_l, beq_str]
          cases r <;> simp
      | _ =>
        have e0 : ¬ ((r.length : Int) + 1 = 0) := by omega
        simp [f_is_decision, sDec, e0]
  | _ => simp [f_is_decision, sDec]
def sAct (v : D) : Bool := sDec v || match v with
  | .tup [.str k] => decide (k = s_back)
  | .tup [.str k, x] => if k = s_jump then sWord x else (decide (k = s_mark) && sNum 255 x) || (decide (k = s_count) && sNum 99 x)
  | _ => false
theorem h_act (hv : v.fin = true) : ev wf (n + 3) 13 [v] S = .ok (.bl (sAct v)) S := by
  rw [show ev wf (n + 3) 13 [v] S = (evB (cx wf (n + 2)) f_is_action.body [.v v] S).out from rfl]
  cases hd : sDec v with
  | true => simp [f_is_action, h_dec hv, hd, sAct]
  | false =>
    simp [f_is_action, h_dec hv, hd, sAct]
    cases v with
    | loc _ => cases hv
    | exc _ _ => cases hv
    | tup xs =>
      match xs, hv, hd with
      | [], _, _ => simp
      | [x], hv, _ =>
        have hx : x.fin = true := fin_tup_mem hv List.mem_cons_self
        cases x with
        | loc _ => cases hx
        | exc _ _ => cases hx
        | str k => simp [Bool.beq_eq_decide_eq]
        | _ => simp
      | [x, y], hv, _ =>
        have hx : x.fin = true := fin_tup_mem hv List.mem_cons_self
        have hy : y.fin = true := fin_tup_mem hv (by simp)
        cases x with
        | loc _ => cases hx
        | exc _ _ => cases hx
        | str k =>
          by_cases h1 : k = s_jump
          · simp [h1, h_word hy]
          · by_cases h2 : k = s_mark
            · subst h2
              simp [h1, h_num hy]
              cases sNum 255 y <;> simp [show (s_mark == s_count) = false from by decide, show ¬ s_mark = s_count from by decide]
            · by_cases h3 : k = s_count
              · simp [h1, h2, h3, h_num hy, show (s_count == s_mark) = false from by decide, show ¬ s_count = s_mark from by decide, show ¬ s_count = s_jump from by decide]
              · simp [h1, h2, h3]
        | _ => simp
      | x :: y :: z :: r, hv, _ =>
        have hx : x.fin = true := fin_tup_mem hv List.mem_cons_self
        have e1 : ¬ ((r.length : Int) + 1 + 1 + 1 = 0) := by omega
        have e2 : ¬ ((r.length : Int) + 1 + 1 + 1 = 2) := by omega
        have e3 : ¬ ((r.length : Int) + 1 + 1 + 1 = 1) := by omega
        cases x with
        | loc _ => cases hx
        | exc _ _ => cases hx
        | _ => simp [e1, e2, e3]
    | _ => simp
def sRule : D → Bool
  | .tup [a, b] => sConds a && sAct b
  | _ => false
theorem h_rule (hv : v.fin = true) : ev wf (n + 6) 14 [v] S = .ok (.bl (sRule v)) S := by
  rw [show ev wf (n + 6) 14 [v] S = (evB (cx wf (n + 5)) f_is_rule.body [.v v] S).out from rfl]
  cases v with
  | loc _ => cases hv
  | exc _ _ => cases hv
  | tup xs =>
    match xs, hv with
    | [], _ => simp [f_is_rule, sRule]
    | [x], _ => simp [f_is_rule, sRule]
    | [x, y], hv =>
      have hx : x.fin = true := fin_tup_mem hv List.mem_cons_self
      have hy : y.fin = true := fin_tup_mem hv (by simp)
      simp [f_is_rule, h_conds hx, h_act hy, sRule]
      cases sConds x <;> simp
    | x :: y :: z :: r, _ =>
      have e2 : ¬ ((r.length : Int) + 1 + 1 + 1 = 2) := by omega
      simp [f_is_rule, sRule, e2]
  | _ => simp [f_is_rule, sRule]
def isBack : D → Bool
  | .tup [.str s] => decide (s = s_back)
  | _ => false
theorem eqv_back (hv : v.fin = true) : D.eqv v (.tup [.str s_back]) = isBack v := by
  cases v with
  | tup xs =>
    match xs with
    | [] => rfl
    | [x] =>
      cases x with
      | str k =>
        simp [isBack, Bool.beq_eq_decide_eq]
      | _ => rfl
    | x :: y :: r => simp [isBack]
  | _ => rfl
def sChain : D → Bool
  | .tup [w, .tup rs, d] => sWord w && decide (rs.length ≤ 20) && rs.all sRule && (isBack d || sDec d)
  | _ => false
theorem h_chain (hv : v.fin = true) : ev wf (n + 7) 15 [v] S = .ok (.bl (sChain v)) S := by
  rw [show ev wf (n + 7) 15 [v] S = (evB (cx wf (n + 6)) f_is_chain.body [.v v, .nil] S).out from rfl]
  cases v with
  | loc _ => cases hv
  | exc _ _ => cases hv
  | tup xs =>
    match xs, hv with
    | [], _ => simp [f_is_chain, sChain]
    | [x], _ => simp [f_is_chain, sChain]
    | [x, y], _ => simp [f_is_chain, sChain]
    | [w, rs, d], hv =>
      have hw : w.fin = true := fin_tup_mem hv List.mem_cons_self
      have hr : rs.fin = true := fin_tup_mem hv (by simp)
      have hd : d.fin = true := fin_tup_mem hv (by simp)
      simp [f_is_chain, h_word hw]
      cases h1 : sWord w with
      | false => cases rs <;> simp [sChain, h1]
      | true =>
        cases rs with
        | loc _ => cases hr
        | exc _ _ => cases hr
        | tup rs =>
          by_cases h2 : rs.length ≤ 20
          · have e2 : ¬ (20 : Int) < rs.length := by omega
            simp [e2]
            rw [compA (fun d => .bl (sRule d)) (hl := ?hl) (h := ?h)]
            case hl => exact fin_tup_len hr
            case h => exact fun d hd => by simp [turn, h_rule (fin_tup_mem hr hd)]
            cases h3 : rs.all sRule with
            | false => simp [sChain, h1, h2, h3]
            | true =>
              simp [cmp_eq_d, fin_pur hd, dr_fin hd, eqv_back hd, h_dec hd, h3]
              cases h4 : isBack d with
              | false => simp [sChain, h1, h2, h3, h4]
              | true =>
                unfold isBack at h4
                split at h4
                · simp [sChain, h1, h2, h3, isBack, h4]
                · cases h4
          · have e2 : (20 : Int) < rs.length := by omega
            simp [e2, sChain, h2]
        | _ => simp [sChain]
    | x :: y :: z :: u :: r, _ =>
      have e2 : ¬ ((r.length : Int) + 1 + 1 + 1 + 1 = 3) := by omega
      simp [f_is_chain, sChain, e2]
  | _ => simp [f_is_chain, sChain]
end
end K
end S_M82c
section S_M82d
set_option linter.all false
set_option maxRecDepth 100000
/-! M82d: books. -/
namespace K
open G T
section
variable {wf n : Nat} {S : List Cell} {top : Int} {v a b c : D}
def wordOf : D → List Nat
  | .tup (.str w :: _) => w
  | _ => []
def rulesOf : D → List D
  | .tup [_, .tup rs, _] => rs
  | _ => []
def ruleOk (later : List (List Nat)) (first : Bool) : D → Bool
  | .tup [_, .tup (.str a :: r)] => !(decide (a = s_jump) && !(match r with | [.str w] => decide (w ∈ later) | _ => false)) && !(decide (a = s_back) && first)
  | _ => true
def wellAt (xs : List D) (k : Nat) : Bool := match xs[k]? with
  | some c => (rulesOf c).all (ruleOk ((xs.map wordOf).drop (k + 1)) (k == 0))
  | none => true
def sWell (xs : List D) : Bool := (List.range xs.length).all (wellAt xs)
/-- what a rule's action is -/
theorem act_form {d : D} (h : sRule d = true) : ∃ a k r, d = .tup [a, .tup (.str k :: r)] ∧ (k = s_jump → ∃ w, r = [.str w]) := by
  unfold sRule at h
  split at h
  · rename_i a b
    rw [Bool.and_eq_true] at h
    obtain ⟨_, h⟩ := h
    unfold sAct at h
    rw [Bool.or_eq_true] at h
    rcases h with h | h
    · unfold sDec at h
      split at h
      · rename_i k r
        refine ⟨a, k, r, rfl, fun e => ?_⟩
        subst e
        rw [if_neg (by decide)] at h
        simp [show ¬ s_jump = s_accept from by decide, show ¬ s_jump = s_drop from by decide] at h
      · cases h
    · split at h
      · rename_i k
        refine ⟨a, k, [], rfl, fun e => ?_⟩
        subst e
        simp [show ¬ s_jump = s_back from by decide] at h
      · rename_i k x
        refine ⟨a, k, [x], rfl, fun e => ?_⟩
        subst e
        rw [if_pos rfl] at h
        unfold sWord at h
        split at h
        · exact ⟨_, rfl⟩
        · cases h
      · cases h
  · cases h
theorem chain_form {d : D} (h : sChain d = true) : ∃ w rs e, d = .tup [.str w, .tup rs, e] ∧ rs.all sRule = true ∧ rs.length ≤ 20 ∧ sWord (.str w) = true ∧ (isBack e || sDec e) = true := by
  unfold sChain at h
  split at h
  · rename_i w rs e
    simp only [Bool.and_eq_true, decide_eq_true_eq] at h
    obtain ⟨⟨⟨h1, h2⟩, h3⟩, h4⟩ := h
    cases w with
    | str w => exact ⟨w, rs, e, rfl, h3, h2, h1, h4⟩
    | _ => cases h1
  · cases h
theorem words_eq {xs : List D} (h : xs.all sChain = true) : (xs.map fun d => D.str (wordOf d)) = (xs.map wordOf).map .str := by
  rw [List.map_map]
  rfl
theorem ne_false {a b : List Nat} (h : ¬ a = b) : ¬ b = a := fun z => h z.symm
theorem h_well {xs : List D} (hv : (D.tup xs).fin = true) (hc : xs.all sChain = true) : ev wf (n + 1) 16 [.tup xs] S = .ok (.bl (sWell xs)) S := by
  rw [show ev wf (n + 1) 16 [.tup xs] S = (evB (cx wf n) f_jumps_well.body [.v (.tup xs), .nil, .nil, .nil, .nil, .nil] S).out from rfl]
  simp [f_jumps_well, -List.all_eq_true]
  rw [compA (fun d => .str (wordOf d)) (hl := ?hl) (h := ?h)]
  case hl => exact fin_tup_len hv
  case h =>
    intro d hd
    obtain ⟨w, rs, e, rfl, _⟩ := chain_form (List.all_eq_true.mp hc d hd)
    simp [turn, wordOf]
  have hr : rngOk (xs.length : Int) = true := by
    have := rngOk_len (fin_tup_len hv) (k := 0) (by omega) (by omega)
    simpa using this
  simp [pRng, hr, words_eq hc, -List.map_map, -List.all_eq_true]
  rw [upto_eq]
  generalize hb : ([T.for_ (.t [.s 4, .s 5]) _ _] : List G.T) = body
  have step := forL_all (S := S) (f := turnS (cx wf n) (.s 2) body) (r := .bl false) (fun sl => ∃ p q u, sl = [.v (.tup xs), .v (.lst ((xs.map wordOf).map .str)), p, .nil, q, u])
    (fun d => match d with | .int k => wellAt xs k.toNat | _ => true) (ds := (List.range xs.length).map fun (k : Nat) => .int ((0 : Int) + (k : Int))) ?_ [.v (.tup xs), .v (.lst ((xs.map wordOf).map .str)), .nil, .nil, .nil, .nil] ⟨_, _, _, rfl⟩
  · have e : (((List.range xs.length).map fun (k : Nat) => D.int ((0 : Int) + (k : Int))).all fun d => match d with | .int k => wellAt xs k.toNat | _ => true) = sWell xs := by
      rw [List.all_map]
      simp [sWell, Function.comp_def]
    rw [e] at step
    cases hw : sWell xs with
    | true =>
      rw [hw] at step
      obtain ⟨sl', ⟨p, q, u, rfl⟩, e2⟩ := step
      rw [e2]
      simp
    | false =>
      rw [hw] at step
      simp only [Bool.false_eq_true, if_false] at step
      rw [step]
      simp
  · intro d hd sl ⟨p, q, u, e⟩
    subst e
    obtain ⟨k, hk, rfl⟩ := List.mem_map.mp hd
    have hk : k < xs.length := List.mem_range.mp hk
    have g1 : xs[k]? = some xs[k] := List.getElem?_eq_getElem hk
    have i1 : atI xs (k : Int) = some xs[k] := by rw [atI_nat, g1]
    have hm := List.getElem_mem hk
    have hch := List.all_eq_true.mp hc _ hm
    have hw : wellAt xs k = (rulesOf xs[k]).all (ruleOk ((xs.map wordOf).drop (k + 1)) (k == 0)) := by
      unfold wellAt
      rw [g1]
    simp only [Int.zero_add, Int.toNat_natCast, hw]
    generalize xs[k] = c at i1 hch hm ⊢
    obtain ⟨w, rs, e, rfl, hrs, _⟩ := chain_form hch
    subst hb
    have hcut : cut ((xs.map wordOf).map D.str) (some ((k : Int) + 1)) none = ((xs.map wordOf).drop (k + 1)).map .str := by
      have := cut_from (xs := (xs.map wordOf).map D.str) (k := k + 1)
      rw [← List.map_drop] at this
      exact this
    simp [turnS, i1, rulesOf, -List.map_map, -List.all_eq_true]
    generalize hb2 : ([_, _] : List G.T) = body2
    have inner := forL_all (S := S) (f := turnS (cx wf n) (.t [.s 4, .s 5]) body2) (r := .bl false) (fun sl => ∃ q u, sl = [.v (.tup xs), .v (.lst ((xs.map wordOf).map .str)), .v (.int (k : Int)), .nil, q, u])
      (ruleOk ((xs.map wordOf).drop (k + 1)) (k == 0)) (ds := rs) ?_ [.v (.tup xs), .v (.lst ((xs.map wordOf).map .str)), .v (.int (k : Int)), .nil, q, u] ⟨_, _, rfl⟩
    · cases ha : rs.all (ruleOk ((xs.map wordOf).drop (k + 1)) (k == 0)) with
      | true =>
        rw [ha] at inner
        obtain ⟨sl', ⟨q', u', rfl⟩, e2⟩ := inner
        rw [e2]
        simp
      | false =>
        rw [ha] at inner
        simp only [Bool.false_eq_true, if_false] at inner ⊢
        rw [inner]
        rfl
    · intro d hd sl ⟨q, u, e⟩
      subst e
      subst hb2
      obtain ⟨a, kw, r, rfl, hj⟩ := act_form (List.all_eq_true.mp hrs d hd)
      have k0 : ((k : Int) == 0) = (k == 0) := by
        cases k with
        | zero => rfl
        | succ k =>
          have : ¬ ((k : Int) + 1 = 0) := by omega
          simp [this]
      by_cases h1 : kw = s_jump
      · obtain ⟨w2, rfl⟩ := hj h1
        subst h1
        by_cases h2 : w2 ∈ (xs.map wordOf).drop (k + 1)
        · simp only [ruleOk, h2]
          simp [turnS, pSl, hcut, cmp_notin, cmp_in_strs, h2, show (s_jump == s_back) = false from by decide, show ¬ s_jump = s_back from by decide, -List.map_map, -List.map_drop]
        · simp only [ruleOk, h2]
          simp [turnS, pSl, hcut, cmp_notin, cmp_in_strs, h2, -List.map_map, -List.map_drop]
      · have h1' : (kw == s_jump) = false := by simpa using h1
        by_cases h2 : kw = s_back
        · subst h2
          cases hk0 : k == 0 with
          | true => simp [turnS, ruleOk, h1', h1, k0, hk0]
          | false => simp [turnS, ruleOk, h1', h1, k0, hk0]
        · have h2' : (kw == s_back) = false := by simpa using h2
          simp [turnS, ruleOk, h1', h1, h2, h2']
end
end K
end S_M82d
section S_M82e
set_option linter.all false
set_option maxRecDepth 100000
/-! M82e: a book; prefixes and exchanges. -/
namespace K
open G T
section
variable {wf n : Nat} {S : List Cell} {top : Int} {v a b c : D}
def lastOf : D → D
  | .tup [_, _, e] => e
  | _ => .non
def headLast (xs : List D) : Bool := match xs[0]? with
  | some c => !isBack (lastOf c)
  | none => false
def sBook : D → Bool
  | .tup xs => decide (1 ≤ xs.length) && decide (xs.length ≤ 6) && xs.all sChain && decide ((xs.map wordOf).Nodup) && headLast xs && sWell xs
  | _ => false
theorem lenset_words {xs : List D} (h : xs.length ≤ 6) : pB .lenset [.lst (xs.map fun d => D.str (wordOf d))] = some (.int (ddup (xs.map wordOf)).length) := by
  show (if (xs.map fun d => D.str (wordOf d)).length ≤ setLim then (match asStrs (xs.map fun d => D.str (wordOf d)) with | some ss => some (D.int (ddup ss).length) | none => (asInts (xs.map fun d => D.str (wordOf d))).map fun ns => .int (ddup ns).length) else none) = _
  rw [if_pos (by rw [List.length_map]; unfold setLim; omega), asStrs_map]
theorem nd_words {xs : List D} : (((ddup (xs.map wordOf)).length : Int) == (xs.length : Int)) = decide ((xs.map wordOf).Nodup) := by
  have := ddup_nodup_iff (l := xs.map wordOf)
  rw [List.length_map] at this
  rw [Bool.beq_eq_decide_eq, decide_eq_decide, ← this]
  omega
theorem h_book (hv : v.fin = true) : ev wf (n + 8) 17 [v] S = .ok (.bl (sBook v)) S := by
  rw [show ev wf (n + 8) 17 [v] S = (evB (cx wf (n + 7)) f_is_book.body [.v v, .nil] S).out from rfl]
  cases v with
  | loc _ => cases hv
  | exc _ _ => cases hv
  | tup xs =>
    by_cases h1 : 1 ≤ xs.length
    · have h1' : (1 : Int) ≤ (xs.length : Int) := by omega
      by_cases h2 : xs.length ≤ 6
      · have h3 : (xs.length : Int) ≤ 6 := by omega
        simp [f_is_book, h1', h3]
        rw [compA (fun d => .bl (sChain d)) (hl := ?hl) (h := ?h)]
        case hl => exact fin_tup_len hv
        case h => exact fun d hd => by simp [turn, h_chain (fin_tup_mem hv hd)]
        cases hc : xs.all sChain with
        | false => simp [sBook, hc]
        | true =>
          simp only [bind_ok, evL_cons, evL_nil, List.map_cons, List.map_nil, dr_lst, pB_all, of_some, tru_bl, dr_bl, hc, Bool.not_true, Bool.false_eq_true, if_false, evOrT_nil, fl_ok, evB_nil, nxt_nx, List.getElem?_cons_zero, slV_v, items_tup]
          rw [compA (fun d => .str (wordOf d)) (hl := ?hl) (h := ?h)]
          case hl => exact fin_tup_len hv
          case h =>
            intro d hd
            obtain ⟨w, rs, e, rfl, _⟩ := chain_form (List.all_eq_true.mp hc d hd)
            simp [turn, wordOf]
          have g0 : xs[0]? = some xs[0] := List.getElem?_eq_getElem h1
          have hx : sChain xs[0] = true := List.all_eq_true.mp hc _ (List.getElem_mem h1)
          obtain ⟨w, rs, e, ee, _⟩ := chain_form hx
          rw [ee] at g0
          have he : e.fin = true := fin_tup_mem (fin_tup_mem hv (List.mem_of_getElem? g0)) (by simp)
          simp [lenset_words h2, nd_words, g0, cmp_eq_d, fin_pur he, dr_fin he, eqv_back he, h_well hv hc]
          have hh : headLast xs = !isBack e := by
            unfold headLast
            rw [g0]
            rfl
          cases hn : decide ((xs.map wordOf).Nodup) with
          | false =>
            have hn := of_decide_eq_false hn
            simp [sBook, hc, hn, h1, h2]
          | true =>
            have hn := of_decide_eq_true hn
            cases hb : isBack e with
            | true => simp [sBook, hh, hb]
            | false => simp [sBook, hc, hn, h1, h2, hh, hb]
      · have h3 : ¬ (xs.length : Int) ≤ 6 := by omega
        simp [f_is_book, h1', h3, sBook, h2]
    · have h1' : ¬ (1 : Int) ≤ (xs.length : Int) := by omega
      simp [f_is_book, h1', sBook, h1]
  | _ => simp [f_is_book, sBook]
end
end K
end S_M82e
section S_M82f
set_option linter.all false
set_option maxRecDepth 100000
/-! M82f: prefixes and exchanges. -/
namespace K
open G T
section
variable {wf n : Nat} {S : List Cell} {top : Int} {v a b c : D}
def spanI (l : Int) : Int := 2 ^ (16 - l).toNat
theorem h_span {l : Int} (h0 : 0 ≤ l) (h1 : l ≤ 16) : ev wf (n + 1) 19 [.int l] S = .ok (.int (spanI l)) S := by
  have h : l = 0 ∨ l = 1 ∨ l = 2 ∨ l = 3 ∨ l = 4 ∨ l = 5 ∨ l = 6 ∨ l = 7 ∨ l = 8 ∨ l = 9 ∨ l = 10 ∨ l = 11 ∨ l = 12 ∨ l = 13 ∨ l = 14 ∨ l = 15 ∨ l = 16 := by omega
  rcases h with h | h | h | h | h | h | h | h | h | h | h | h | h | h | h | h | h <;> (subst h; rfl)
theorem span_pos (l : Int) : 0 < spanI l := Int.pow_pos (by decide)
def sPre : D → Bool
  | .tup [.int a, .int l] => decide (0 ≤ a) && decide (a ≤ 65535) && decide (0 ≤ l) && decide (l ≤ 16) && decide (a % spanI l = 0)
  | _ => false
theorem glob5 : glob 5 = some (.int 65535) := rfl
theorem glob6 : glob 6 = some (.int 16) := rfl
theorem h_pre (hv : v.fin = true) : ev wf (n + 2) 18 [v] S = .ok (.bl (sPre v)) S := by
  rw [show ev wf (n + 2) 18 [v] S = (evB (cx wf (n + 1)) f_is_prefix.body [.v v] S).out from rfl]
  cases v with
  | loc _ => cases hv
  | exc _ _ => cases hv
  | tup xs =>
    match xs, hv with
    | [], _ => simp [f_is_prefix, sPre]
    | [x], _ => simp [f_is_prefix, sPre]
    | [x, y], hv =>
      have hx : x.fin = true := fin_tup_mem hv List.mem_cons_self
      have hy : y.fin = true := fin_tup_mem hv (by simp)
      simp [f_is_prefix, glob5, glob6, h_num hx, h_num hy]
      cases h1 : sNum 65535 x with
      | false => cases x <;> cases y <;> simp_all [sPre, sNum] <;> omega
      | true =>
        cases h2 : sNum 16 y with
        | false => cases x <;> cases y <;> simp_all [sPre, sNum] <;> omega
        | true =>
          unfold sNum at h1 h2
          split at h1
          · split at h2
            · simp only [Bool.and_eq_true, decide_eq_true_eq] at h1 h2
              simp [h_span h2.1 h2.2, mod_pos (span_pos _), sPre, h1, h2, Bool.beq_eq_decide_eq]
            · cases h2
          · cases h1
    | x :: y :: z :: r, _ =>
      have e2 : ¬ ((r.length : Int) + 1 + 1 + 1 = 2) := by omega
      simp [f_is_prefix, sPre, e2]
  | _ => simp [f_is_prefix, sPre]
/-- a prefix's addresses -/
def ival : D → Int × Int
  | .tup [.int a, .int l] => (a, a + spanI l - 1)
  | _ => (0, 0)
def pairD (p : Int × Int) : D := .tup [.int p.1, .int p.2]
theorem pre_form {d : D} (h : sPre d = true) : ∃ a l, d = .tup [.int a, .int l] ∧ 0 ≤ a ∧ a ≤ 65535 ∧ 0 ≤ l ∧ l ≤ 16 := by
  unfold sPre at h
  split at h
  · rename_i a l
    simp only [Bool.and_eq_true, decide_eq_true_eq] at h
    exact ⟨a, l, rfl, h.1.1.1.1, h.1.1.1.2, h.1.1.2, h.1.2⟩
  · cases h
theorem h_held (h : sPre v = true) : ev wf (n + 2) 20 [v] S = .ok (.tup [pairD (ival v)]) S := by
  obtain ⟨a, l, rfl, h1, h2, h3, h4⟩ := pre_form h
  rw [show ev wf (n + 2) 20 [.tup [.int a, .int l]] S = (evB (cx wf (n + 1)) f_held.body [.v (.tup [.int a, .int l])] S).out from rfl]
  simp [f_held, h_span h3 h4, ival, pairD]
def meet (p q : Int × Int) : Int × Int := (if q.1 > p.1 then q.1 else p.1, if q.2 < p.2 then q.2 else p.2)
theorem h_setOf1 {m M : Int} : ev wf (n + 1) 4 [.lst [.tup [.int m, .int M]]] S = .ok (if M < m then .tup [] else .tup [.tup [.int m, .int M]]) S := by
  rw [show ev wf (n + 1) 4 [.lst [.tup [.int m, .int M]]] S = (evB (cx wf n) f_set_of.body [.v (.lst [.tup [.int m, .int M]]), .nil, .nil, .nil] S).out from rfl]
  have e : pB .sorted [.lst [.tup [.int m, .int M]]] = some (.lst [.tup [.int m, .int M]]) := rfl
  by_cases h : M < m
  · simp [f_set_of, e, forL, turnS, h]
  · simp [f_set_of, e, forL, turnS, h, lstAt, chg, lim]
theorem h_both {p q : Int × Int} : ev wf (n + 2) 5 [.tup [pairD p], .tup [pairD q]] S = .ok (if (meet p q).2 < (meet p q).1 then .tup [] else .tup [pairD (meet p q)]) S := by
  rw [show ev wf (n + 2) 5 [.tup [pairD p], .tup [pairD q]] S = (evB (cx wf (n + 1)) f_both.body [.v (.tup [pairD p]), .v (.tup [pairD q]), .nil, .nil, .nil, .nil, .nil] S).out from rfl]
  simp [f_both, forL, turnS, pairD, lstAt, chg, lim, h_setOf1, meet]
end
end K
end S_M82f
section S_M82g
set_option linter.all false
set_option maxRecDepth 100000
/-! M82g: exchanges. -/
namespace K
open G T
section
variable {wf n : Nat} {S : List Cell} {top : Int} {v a b c : D}
def pairOk : D → Bool
  | .tup [.tup [.int a, .int l], .tup [.int b, .int m]] => sPre (.tup [.int a, .int l]) && sPre (.tup [.int b, .int m]) && decide (l = m)
  | _ => false
def ivals : D → List (Int × Int)
  | .tup [p, q] => [ival p, ival q]
  | _ => []
def overlap (p q : Int × Int) : Bool := decide ((meet p q).1 ≤ (meet p q).2)
def heldD (p : Int × Int) : D := .tup [pairD p]
def exBody1 : List G.T := [.ife (.or [(.not (.tr (.blt (.isa .tup) [(.v 2)]))), (.tr (.cmp .ne (.blt .len [(.v 2)]) (.k (.int 2)))), (.not (.tr (.cal 18 [(.ix (.v 2) (.k (.int 0)))]))), (.not (.tr (.cal 18 [(.ix (.v 2) (.k (.int 1)))])))]) [.ret (.k (.bl false))] [], .ife (.tr (.cmp .ne (.ix (.ix (.v 2) (.k (.int 0))) (.k (.int 1))) (.ix (.ix (.v 2) (.k (.int 1))) (.k (.int 1))))) [.ret (.k (.bl false))] [], .ext (.b 1) (.lst [(.cal 20 [(.ix (.v 2) (.k (.int 0)))]), (.cal 20 [(.ix (.v 2) (.k (.int 1)))])])]
def exBody2 : List G.T := [.for_ (.s 4) (.rng [(.v 3)]) [.ife (.tr (.cmp .ne (.cal 5 [(.ix (.b 1) (.v 3)), (.ix (.b 1) (.v 4))]) (.tup []))) [.ret (.k (.bl false))] []]]
theorem ex_turn {d x val : D} {known : List (Int × Int)} (hd : d.fin = true) (hl : known.length + 2 ≤ lim) : turnS (cx wf (n + 2)) (.s 2) exBody1 d [.v val, .own (known.map heldD), .v x, .nil, .nil] S = if pairOk d then .nx [.v val, .own ((known ++ ivals d).map heldD), .v d, .nil, .nil] S else .ret (.bl false) S := by
  cases d with
  | loc _ => cases hd
  | exc _ _ => cases hd
  | tup xs =>
    match xs, hd with
    | [], _ => simp [turnS, exBody1, pairOk]
    | [x], _ => simp [turnS, exBody1, pairOk]
    | x :: y :: z :: r, _ =>
      have e2 : ¬ ((r.length : Int) + 1 + 1 + 1 = 2) := by omega
      simp [turnS, exBody1, pairOk, e2]
    | [x, y], hd =>
      have hx : x.fin = true := fin_tup_mem hd List.mem_cons_self
      have hy : y.fin = true := fin_tup_mem hd (by simp)
      cases h1 : sPre x with
      | false =>
        have : pairOk (.tup [x, y]) = false := by
          unfold pairOk
          split
          · rename_i heq
            cases heq
            simp [h1]
          · rfl
        simp [turnS, exBody1, h_pre hx, h1, this]
      | true =>
        cases h2 : sPre y with
        | false =>
          have : pairOk (.tup [x, y]) = false := by
            unfold pairOk
            split
            · rename_i heq
              cases heq
              simp [h2]
            · rfl
          simp [turnS, exBody1, h_pre hx, h_pre hy, h1, h2, this]
        | true =>
          obtain ⟨a, l, rfl, _⟩ := pre_form h1
          obtain ⟨b, m, rfl, _⟩ := pre_form h2
          by_cases hlm : l = m
          · subst hlm
            simp [turnS, exBody1, h_pre hx, h_pre hy, h1, h2, pairOk, lstAt, h_held h1, h_held h2, chg, hl, ivals, heldD]
          · simp [turnS, exBody1, h_pre hx, h_pre hy, h1, h2, pairOk, hlm]
  | _ => simp [turnS, exBody1, pairOk]
theorem ex_loop1 {val : D} : ∀ {xs : List D} {x : Sl} {known : List (Int × Int)}, (∀ d ∈ xs, d.fin = true) → known.length + 2 * xs.length ≤ lim → (x = .nil ∨ ∃ d, x = .v d) →
    if xs.all pairOk then ∃ x', forL (turnS (cx wf (n + 2)) (.s 2) exBody1) xs [.v val, .own (known.map heldD), x, .nil, .nil] S = .nx [.v val, .own ((known ++ xs.flatMap ivals).map heldD), x', .nil, .nil] S else forL (turnS (cx wf (n + 2)) (.s 2) exBody1) xs [.v val, .own (known.map heldD), x, .nil, .nil] S = .ret (.bl false) S
  | [], x, known, _, _, _ => by
    simp [forL]
  | d :: r, x, known, hf, hl, hx => by
    rw [List.length_cons] at hl
    have ht : turnS (cx wf (n + 2)) (.s 2) exBody1 d [.v val, .own (known.map heldD), x, .nil, .nil] S = turnS (cx wf (n + 2)) (.s 2) exBody1 d [.v val, .own (known.map heldD), .v .non, .nil, .nil] S := by
      simp [turnS]
    have h1 := ex_turn (wf := wf) (n := n) (S := S) (x := .non) (val := val) (known := known) (hf d List.mem_cons_self) (by omega)
    rw [← ht] at h1
    unfold forL
    rw [h1, List.all_cons]
    cases hp : pairOk d with
    | false => simp
    | true =>
      simp only [if_true, Bool.true_and]
      have il : (ivals d).length ≤ 2 := by
        unfold ivals
        split <;> simp
      have ih := ex_loop1 (val := val) (xs := r) (x := .v d) (known := known ++ ivals d) (fun e he => hf e (List.mem_cons_of_mem _ he)) (by rw [List.length_append]; omega) (.inr ⟨d, rfl⟩)
      rw [List.flatMap_cons, ← List.append_assoc]
      exact ih
/-- no two meet -/
def apartAt (ps : List (Int × Int)) (k j : Nat) : Bool := match ps[k]?, ps[j]? with
  | some p, some q => !overlap p q
  | _, _ => true
def noMeet (ps : List (Int × Int)) : Bool := (List.range ps.length).all fun k => (List.range k).all fun j => apartAt ps k j
theorem heldD_fin {p : Int × Int} : (heldD p).fin = true := by
  simp [heldD, pairD, flim]
theorem both_ne {p q : Int × Int} : (if (meet p q).2 < (meet p q).1 then D.tup [] else .tup [pairD (meet p q)]) = (if overlap p q then .tup [pairD (meet p q)] else D.tup []) := by
  unfold overlap
  by_cases h : (meet p q).2 < (meet p q).1
  · rw [if_pos h, if_neg (by simpa using h)]
  · rw [if_neg h, if_pos (by simpa using h)]
theorem ex_loop2 {val : D} {ps : List (Int × Int)} {x y z : Sl} (hl : ps.length ≤ lim) : if noMeet ps then ∃ sl', forL (turnS (cx wf (n + 2)) (.s 3) exBody2) (upto 0 ps.length) [.v val, .own (ps.map heldD), x, y, z] S = .nx sl' S else forL (turnS (cx wf (n + 2)) (.s 3) exBody2) (upto 0 ps.length) [.v val, .own (ps.map heldD), x, y, z] S = .ret (.bl false) S := by
  rw [upto_eq]
  have step := forL_all (S := S) (f := turnS (cx wf (n + 2)) (.s 3) exBody2) (r := .bl false) (fun sl => ∃ y z, sl = [.v val, .own (ps.map heldD), x, y, z])
    (fun d => match d with | .int k => (List.range k.toNat).all fun j => apartAt ps k.toNat j | _ => true) (ds := (List.range ps.length).map fun (k : Nat) => .int ((0 : Int) + (k : Int))) ?_ [.v val, .own (ps.map heldD), x, y, z] ⟨_, _, rfl⟩
  · have e : (((List.range ps.length).map fun (k : Nat) => D.int ((0 : Int) + (k : Int))).all fun d => match d with | .int k => (List.range k.toNat).all fun j => apartAt ps k.toNat j | _ => true) = noMeet ps := by
      rw [List.all_map]
      simp [noMeet, Function.comp_def]
    rw [e] at step
    cases hw : noMeet ps with
    | true =>
      rw [hw] at step
      obtain ⟨sl', _, e2⟩ := step
      exact ⟨sl', e2⟩
    | false =>
      rw [hw] at step
      exact step
  · intro d hd sl ⟨y, z, e⟩
    subst e
    obtain ⟨k, hk, rfl⟩ := List.mem_map.mp hd
    have hk : k < ps.length := List.mem_range.mp hk
    have hr : rngOk (k : Int) = true := by
      unfold rngOk lim at *
      simp
      omega
    simp only [Int.zero_add, Int.toNat_natCast]
    have g1 : atI (ps.map heldD) (k : Int) = some (heldD ps[k]) := by
      rw [atI_nat, List.getElem?_map, List.getElem?_eq_getElem hk]
      rfl
    have outer : turnS (cx wf (n + 2)) (.s 3) exBody2 (.int (k : Int)) [.v val, .own (ps.map heldD), x, y, z] S = (forL (turnS (cx wf (n + 2)) (.s 4) [.ife (.tr (.cmp .ne (.cal 5 [(.ix (.b 1) (.v 3)), (.ix (.b 1) (.v 4))]) (.tup []))) [.ret (.k (.bl false))] []]) (upto 0 k) [.v val, .own (ps.map heldD), x, .v (.int (k : Int)), z] S).nxt fun sl S => .nx sl S := by
      simp [turnS, exBody2, pRng, hr]
    rw [outer, upto_eq]
    have inner := forL_all (S := S) (f := turnS (cx wf (n + 2)) (.s 4) [.ife (.tr (.cmp .ne (.cal 5 [(.ix (.b 1) (.v 3)), (.ix (.b 1) (.v 4))]) (.tup []))) [.ret (.k (.bl false))] []]) (r := .bl false) (fun sl => ∃ z, sl = [.v val, .own (ps.map heldD), x, .v (.int (k : Int)), z])
      (fun d => match d with | .int j => apartAt ps k j.toNat | _ => true) (ds := (List.range k).map fun (k : Nat) => .int ((0 : Int) + (k : Int))) ?_ [.v val, .own (ps.map heldD), x, .v (.int (k : Int)), z] ⟨_, rfl⟩
    · have e : (((List.range k).map fun (k : Nat) => D.int ((0 : Int) + (k : Int))).all fun d => match d with | .int j => apartAt ps k j.toNat | _ => true) = (List.range k).all fun j => apartAt ps k j := by
        rw [List.all_map]
        simp [Function.comp_def]
      rw [e] at inner
      cases hw : (List.range k).all fun j => apartAt ps k j with
      | true =>
        rw [hw] at inner
        obtain ⟨sl', ⟨z', rfl⟩, e2⟩ := inner
        rw [e2]
        simp
      | false =>
        rw [hw] at inner
        simp only [Bool.false_eq_true, if_false] at inner ⊢
        rw [inner]
        simp
    · intro d hd sl ⟨z, e⟩
      subst e
      obtain ⟨j, hj, rfl⟩ := List.mem_map.mp hd
      have hj : j < k := List.mem_range.mp hj
      have hj2 : j < ps.length := by omega
      have g2 : atI (ps.map heldD) (j : Int) = some (heldD ps[j]) := by
        rw [atI_nat, List.getElem?_map, List.getElem?_eq_getElem hj2]
        rfl
      have ap : apartAt ps k j = !overlap ps[k] ps[j] := by
        unfold apartAt
        rw [List.getElem?_eq_getElem hk, List.getElem?_eq_getElem hj2]
      simp only [Int.zero_add, Int.toNat_natCast, ap]
      generalize ps[k] = p at g1 ⊢
      generalize ps[j] = q at g2 ⊢
      have hb := h_both (wf := wf) (n := n) (S := S) (p := p) (q := q)
      rw [both_ne] at hb
      cases ho : overlap p q with
      | true =>
        rw [ho] at hb
        simp [turnS, g1, g2, heldD] at hb ⊢
        simp [hb, cmp_ne_d]
      | false =>
        rw [ho] at hb
        simp [turnS, g1, g2, heldD] at hb ⊢
        simp [hb, cmp_ne_d]
def sExch : D → Bool
  | .tup xs => xs.all pairOk && noMeet (xs.flatMap ivals)
  | _ => false
theorem flat_len : ∀ xs : List D, (xs.flatMap ivals).length ≤ 2 * xs.length
  | [] => by simp
  | d :: r => by
    have il : (ivals d).length ≤ 2 := by
      unfold ivals
      split <;> simp
    have := flat_len r
    rw [List.flatMap_cons, List.length_append, List.length_cons]
    omega
theorem h_exch (hv : v.fin = true) : ev wf (n + 3) 21 [v] S = .ok (.bl (sExch v)) S := by
  rw [show ev wf (n + 3) 21 [v] S = (evB (cx wf (n + 2)) [.ife (.not (.tr (.blt (.isa .tup) [(.v 0)]))) [.ret (.k (.bl false))] [], .setO 1 (.lst []), .for_ (.s 2) (.e (.v 0)) exBody1, .for_ (.s 3) (.rng [(.blt .len [(.b 1)])]) exBody2, .ret (.k (.bl true))] [.v v, .nil, .nil, .nil, .nil] S).out from rfl]
  cases v with
  | loc _ => cases hv
  | exc _ _ => cases hv
  | tup xs =>
    have lf := fin_tup_lf hv
    have l1 := ex_loop1 (wf := wf) (n := n) (S := S) (val := .tup xs) (xs := xs) (x := .nil) (known := []) (fun d hd => fin_tup_mem hv hd) (by unfold flim at lf; unfold lim; simp; omega) (.inl rfl)
    simp only [List.map_nil, List.nil_append] at l1
    cases h1 : xs.all pairOk with
    | false =>
      rw [h1] at l1
      simp only [Bool.false_eq_true, if_false] at l1
      simp [l1, sExch, h1]
    | true =>
      rw [h1] at l1
      obtain ⟨x', l1⟩ := l1
      have fl := flat_len xs
      have small : (xs.flatMap ivals).length ≤ lim := by unfold flim at lf; unfold lim; omega
      have l2 := ex_loop2 (wf := wf) (n := n) (S := S) (val := .tup xs) (ps := xs.flatMap ivals) (x := x') (y := .nil) (z := .nil) small
      have hr : rngOk ((xs.flatMap ivals).length : Int) = true := by
        unfold rngOk lim at *
        simp only [Bool.and_eq_true, decide_eq_true_eq]
        omega
      generalize hps : xs.flatMap ivals = ps at *
      cases h2 : noMeet ps with
      | false =>
        rw [h2] at l2
        simp only [Bool.false_eq_true, if_false] at l2
        simp [l1, pRng, hr, l2, sExch, h1, h2, hps]
      | true =>
        rw [h2] at l2
        obtain ⟨sl', l2⟩ := l2
        simp [l1, pRng, hr, l2, sExch, h1, h2, hps]
  | _ => simp [sExch]
end
end K
end S_M82g
section S_M82h
set_option linter.all false
set_option maxRecDepth 100000
/-! M82h: keys, results, entries, journals (the program's). -/
namespace K
open G T
section
variable {wf n : Nat} {S : List Cell} {top : Int} {v a b c : D}
def sEnd : D → Bool
  | .tup [a, b] => sNum 65535 a && sNum 65535 b
  | _ => false
theorem h_end (hv : v.fin = true) : ev wf (n + 2) 22 [v] S = .ok (.bl (sEnd v)) S := by
  rw [show ev wf (n + 2) 22 [v] S = (evB (cx wf (n + 1)) f_is_end.body [.v v, .nil] S).out from rfl]
  cases v with
  | loc _ => cases hv
  | exc _ _ => cases hv
  | tup xs =>
    match xs, hv with
    | [], _ => simp [f_is_end, sEnd]
    | [x], _ => simp [f_is_end, sEnd]
    | [x, y], hv =>
      simp [f_is_end]
      rw [compA (fun d => .bl (sNum 65535 d)) (hl := ?hl) (h := ?h)]
      case hl => exact fin_tup_len hv
      case h => exact fun d hd => by simp [turn, h_num (fin_tup_mem hv hd)]
      rw [show ([x, y].map fun d => D.bl (sNum 65535 d)) = [.bl (sNum 65535 x), .bl (sNum 65535 y)] from rfl]
      have e : pB .all [.lst [.bl (sNum 65535 x), .bl (sNum 65535 y)]] = some (.bl (sNum 65535 x && sNum 65535 y)) := by
        show some (D.bl ([sNum 65535 x, sNum 65535 y].all id)) = _
        simp
      simp [e, sEnd]
    | x :: y :: z :: r, _ =>
      have e2 : ¬ ((r.length : Int) + 1 + 1 + 1 = 2) := by omega
      simp [f_is_end, sEnd, e2]
  | _ => simp [f_is_end, sEnd]
def sKey : D → Bool
  | .tup [k, a, b] => (match k with | .int i => decide (0 ≤ i) && decide (i ≤ 255) && (decide (i = 6) || decide (i = 17)) | _ => false) && sEnd a && sEnd b && (match a, b with | .tup [.int x, _], .tup [.int y, _] => decide (x < y) | _, _ => false)
  | _ => false
theorem end_form {d : D} (h : sEnd d = true) : ∃ x y, d = .tup [.int x, .int y] := by
  unfold sEnd at h
  split at h
  · rename_i a b
    rw [Bool.and_eq_true] at h
    unfold sNum at h
    obtain ⟨h1, h2⟩ := h
    split at h1
    · split at h2
      · exact ⟨_, _, rfl⟩
      · cases h2
    · cases h1
  · cases h
theorem h_key (hv : v.fin = true) : ev wf (n + 3) 23 [v] S = .ok (.bl (sKey v)) S := by
  rw [show ev wf (n + 3) 23 [v] S = (evB (cx wf (n + 2)) f_is_key.body [.v v] S).out from rfl]
  cases v with
  | loc _ => cases hv
  | exc _ _ => cases hv
  | tup xs =>
    match xs, hv with
    | [], _ => simp [f_is_key, sKey]
    | [x], _ => simp [f_is_key, sKey]
    | [x, y], _ => simp [f_is_key, sKey]
    | [k, a, b], hv =>
      have hk : k.fin = true := fin_tup_mem hv List.mem_cons_self
      have ha : a.fin = true := fin_tup_mem hv (by simp)
      have hb : b.fin = true := fin_tup_mem hv (by simp)
      cases k with
      | int i =>
        by_cases h2 : i = 6 ∨ i = 17
        · have h1 : sNum 255 (.int i) = true := by
            rcases h2 with rfl | rfl <;> rfl
          have h1' : 0 ≤ i ∧ i ≤ 255 := by omega
          have h2' : (i == 6 || i == 17) = true := by simpa using h2
          have h2'' : (decide (i = 6) || decide (i = 17)) = true := by simpa using h2
          cases h3 : sEnd a with
          | false => rcases h2 with rfl | rfl <;> simp [f_is_key, h_num hk, h1, h_ports, h_end ha, sKey, h3]
          | true =>
            cases h4 : sEnd b with
            | false => rcases h2 with rfl | rfl <;> simp [f_is_key, h_num hk, h1, h_ports, h_end ha, h_end hb, sKey, h3, h4]
            | true =>
              obtain ⟨x, y, rfl⟩ := end_form h3
              obtain ⟨z, u, rfl⟩ := end_form h4
              rcases h2 with rfl | rfl <;> simp [f_is_key, h_num hk, h1, h_ports, h_end ha, h_end hb, sKey, h3, h4]
        · have n6 : ¬ i = 6 := fun z => h2 (.inl z)
          have n17 : ¬ i = 17 := fun z => h2 (.inr z)
          cases h1 : sNum 255 (.int i) <;> simp [f_is_key, h_num hk, h1, h_ports, sKey, n6, n17]
      | loc _ => cases hk
      | exc _ _ => cases hk
      | _ => simp [f_is_key, h_num hk, sKey, sNum]
    | x :: y :: z :: u :: r, _ =>
      have e2 : ¬ ((r.length : Int) + 1 + 1 + 1 + 1 = 3) := by omega
      simp [f_is_key, sKey, e2]
  | _ => simp [f_is_key, sKey]
def sRes : D → Bool
  | .tup [.str s, x] => decide (s = s_dropped) && (match x with | .str _ => true | _ => false)
  | .tup [.str s, x, y] => decide (s ≠ s_dropped) && (decide (s = s_out) || decide (s = s_back)) && sNum 1 x && sRow y
  | _ => false
theorem h_res (hv : v.fin = true) : ev wf (n + 3) 24 [v] S = .ok (.bl (sRes v)) S := by
  rw [show ev wf (n + 3) 24 [v] S = (evB (cx wf (n + 2)) f_is_result.body [.v v] S).out from rfl]
  cases v with
  | loc _ => cases hv
  | exc _ _ => cases hv
  | tup xs =>
    match xs, hv with
    | [], _ => simp [f_is_result, sRes]
    | [x], _ => simp [f_is_result, sRes]
    | x :: y :: r, hv =>
      have hx : x.fin = true := fin_tup_mem hv List.mem_cons_self
      have hy : y.fin = true := fin_tup_mem hv (by simp)
      have e1 : ¬ ((r.length : Int) + 1 + 1 < 2) := by omega
      cases x with
      | loc _ => cases hx
      | exc _ _ => cases hx
      | str s =>
        by_cases hs : s = s_dropped
        · subst hs
          match r with
          | [] =>
            cases y with
            | loc _ => cases hy
            | exc _ _ => cases hy
            | _ => simp [f_is_result, sRes]
          | [z] => simp [f_is_result, sRes]
          | z :: u :: r =>
            have e2 : ¬ ((r.length : Int) + 1 + 1 + 1 + 1 = 2) := by omega
            have e3 : ¬ ((r.length : Int) + 1 + 1 + 1 + 1 < 2) := by omega
            simp [f_is_result, sRes, e2, e3]
        · have hs' : (s == s_dropped) = false := by simpa using hs
          have mem : pCmp .isin (.str s) (.tup [.str s_out, .str s_back]) = some (decide (s = s_out) || decide (s = s_back)) := by
            rw [cmp_in_tup (by simp) (by simp)]
            simp [beq_str]
          match r, hv with
          | [], _ =>
            simp [f_is_result, sRes, hs, hs', mem]
          | [z], hv =>
            have hz : z.fin = true := fin_tup_mem hv (by simp)
            simp [f_is_result, sRes, hs, hs', mem, h_num hy, h_row hz]
            by_cases m1 : s = s_out <;> by_cases m2 : s = s_back <;> cases sNum 1 y <;> simp [m1, m2]
          | z :: u :: r, _ =>
            have e2 : ¬ ((r.length : Int) + 1 + 1 + 1 + 1 = 3) := by omega
            have e3 : ¬ ((r.length : Int) + 1 + 1 + 1 + 1 < 2) := by omega
            simp [f_is_result, sRes, hs, hs', mem, e2, e3]
            have e4 : ((r.length : Int) + 1 + 1 + 1 + 1 == 3) = false := by simpa using e2
            by_cases m1 : s = s_out <;> by_cases m2 : s = s_back <;> simp [m1, m2, e4]
            all_goals omega
      | _ => simp [f_is_result, sRes, e1]
  | _ => simp [f_is_result, sRes]
def sEnt : D → Bool
  | .tup [.str s, x] => decide (s ≠ s_in) && ((decide (s = s_forget) && sKey x) || (decide (s = s_book) && sBook x))
  | .tup [.str s, x, y, z] => decide (s = s_in) && sNum 1 x && sRow y && sRes z
  | _ => false
theorem h_ent (hv : v.fin = true) : ev wf (n + 9) 25 [v] S = .ok (.bl (sEnt v)) S := by
  rw [show ev wf (n + 9) 25 [v] S = (evB (cx wf (n + 8)) f_is_entry.body [.v v] S).out from rfl]
  cases v with
  | loc _ => cases hv
  | exc _ _ => cases hv
  | tup xs =>
    match xs, hv with
    | [], _ => simp [f_is_entry, sEnt]
    | [x], _ => simp [f_is_entry, sEnt]
    | x :: y :: r, hv =>
      have hx : x.fin = true := fin_tup_mem hv List.mem_cons_self
      have hy : y.fin = true := fin_tup_mem hv (by simp)
      have e1 : ¬ ((r.length : Int) + 1 + 1 < 2) := by omega
      cases x with
      | loc _ => cases hx
      | exc _ _ => cases hx
      | str s =>
        by_cases hs : s = s_in
        · subst hs
          match r, hv with
          | [], _ => simp [f_is_entry, sEnt]
          | [z], _ => simp [f_is_entry, sEnt]
          | [z, u], hv =>
            have hz : z.fin = true := fin_tup_mem hv (by simp)
            have hu : u.fin = true := fin_tup_mem hv (by simp)
            simp [f_is_entry, sEnt, h_num hy, h_row hz, h_res hu]
            cases sNum 1 y <;> cases sRow z <;> simp
          | z :: u :: t :: r, _ =>
            have e2 : ¬ ((r.length : Int) + 1 + 1 + 1 + 1 + 1 = 4) := by omega
            have e3 : ¬ ((r.length : Int) + 1 + 1 + 1 + 1 + 1 < 2) := by omega
            simp [f_is_entry, sEnt, e2, e3]
        · have hs' : (s == s_in) = false := by simpa using hs
          match r with
          | [] =>
            simp [f_is_entry, sEnt, hs, hs', h_key hy, h_book hy]
            by_cases m1 : s = s_forget
            · subst m1
              cases sKey y <;> simp [show (s_forget == s_book) = false from by decide, show ¬ s_forget = s_book from by decide]
            · by_cases m2 : s = s_book
              · subst m2
                simp [m1]
              · simp [m1, m2]
          | z :: r =>
            have e2 : ¬ ((r.length : Int) + 1 + 1 + 1 = 2) := by omega
            have e3 : ¬ ((r.length : Int) + 1 + 1 + 1 < 2) := by omega
            have e4 : sEnt (.tup (.str s :: y :: z :: r)) = false := by
              unfold sEnt
              split
              · rename_i heq; cases heq
              · rename_i heq; cases heq; simp [hs]
              · rfl
            simp [f_is_entry, hs, hs', e2, e3, e4]
      | _ => simp [f_is_entry, sEnt, e1]
  | _ => simp [f_is_entry, sEnt]
def sJou : D → Bool
  | .tup [b, e, .tup es] => sBook b && sExch e && es.all sEnt
  | _ => false
theorem h_jou (hv : v.fin = true) : ev wf (n + 10) 26 [v] S = .ok (.bl (sJou v)) S := by
  rw [show ev wf (n + 10) 26 [v] S = (evB (cx wf (n + 9)) f_is_journal.body [.v v, .nil] S).out from rfl]
  cases v with
  | loc _ => cases hv
  | exc _ _ => cases hv
  | tup xs =>
    match xs, hv with
    | [], _ => simp [f_is_journal, sJou]
    | [x], _ => simp [f_is_journal, sJou]
    | [x, y], _ => simp [f_is_journal, sJou]
    | [x, y, z], hv =>
      have hx : x.fin = true := fin_tup_mem hv List.mem_cons_self
      have hy : y.fin = true := fin_tup_mem hv (by simp)
      have hz : z.fin = true := fin_tup_mem hv (by simp)
      cases h1 : sBook x with
      | false => cases z <;> simp [f_is_journal, h_book hx, h1, sJou]
      | true =>
        cases h2 : sExch y with
        | false => cases z <;> simp [f_is_journal, h_book hx, h_exch hy, h1, h2, sJou]
        | true =>
          cases z with
          | loc _ => cases hz
          | exc _ _ => cases hz
          | tup es =>
            simp [f_is_journal, h_book hx, h_exch hy, h1, h2]
            rw [compA (fun d => .bl (sEnt d)) (hl := ?hl) (h := ?h)]
            case hl => exact fin_tup_len hz
            case h => exact fun d hd => by simp [turn, h_ent (fin_tup_mem hz hd)]
            simp [sJou, h1, h2]
          | _ => simp [f_is_journal, h_book hx, h_exch hy, h1, h2, sJou]
    | x :: y :: z :: u :: r, _ =>
      have e2 : ¬ ((r.length : Int) + 1 + 1 + 1 + 1 = 3) := by omega
      simp [f_is_journal, sJou, e2]
  | _ => simp [f_is_journal, sJou]
end
end K
end S_M82h
section S_M82i
set_option linter.all false
set_option maxRecDepth 100000
/-! M82i: the law's predicates. -/
namespace K
open G T
section
variable {wf n : Nat} {S : List Cell} {top : Int} {v a b c : D}
def isI : D → Bool
  | .int _ => true
  | _ => false
theorem l_int (hv : v.fin = true) : ev wf (n + 1) 28 [v] S = .ok (.bl (isI v)) S := by
  rw [show ev wf (n + 1) 28 [v] S = (evB (cx wf n) f_l_is_integer.body [.v v] S).out from rfl]
  cases v with
  | loc _ => cases hv
  | exc _ _ => cases hv
  | _ => simp [f_l_is_integer, isI]
theorem l_num (hv : v.fin = true) : ev wf (n + 2) 45 [v, .int top] S = .ok (.bl (sNum top v)) S := by
  rw [show ev wf (n + 2) 45 [v, .int top] S = (evB (cx wf (n + 1)) f_l_is_number.body [.v v, .v (.int top)] S).out from rfl]
  cases v with
  | loc _ => cases hv
  | exc _ _ => cases hv
  | int i => by_cases h : 0 ≤ i <;> simp [f_l_is_number, l_int hv, isI, sNum, h]
  | _ => simp [f_l_is_number, l_int hv, isI, sNum]
theorem filt_all {ds : List D} {q : D → Bool} : (((ds.filter fun d => !q d).length : Int) == 0) = ds.all q := by
  induction ds with
  | nil => rfl
  | cons d r ih =>
    rw [List.all_cons, List.filter_cons]
    cases h : q d with
    | true => simpa [h] using ih
    | false =>
      simp
      omega
theorem filt_le {ds : List D} {q : D → Bool} : decide (0 < ((ds.filter fun d => !q d).length : Int)) = !ds.all q := by
  have := filt_all (ds := ds) (q := q)
  rw [← this]
  rw [Bool.beq_eq_decide_eq]
  by_cases h : ((ds.filter fun d => !q d).length : Int) = 0
  · simp [h]
  · rw [decide_eq_true (show 0 < ((ds.filter fun d => !q d).length : Int) by omega), decide_eq_false h]
    rfl
theorem l_row (hv : v.fin = true) : ev wf (n + 3) 46 [v] S = .ok (.bl (sRow v)) S := by
  rw [show ev wf (n + 3) 46 [v] S = (evB (cx wf (n + 2)) f_l_is_row.body [.v v, .nil] S).out from rfl]
  cases v with
  | loc _ => cases hv
  | exc _ _ => cases hv
  | tup xs =>
    simp [f_l_is_row]
    rw [compF (fun d => !sNum 255 d) (fun d => d) (hl := ?hl) (h := ?h)]
    case hl => exact fin_tup_len hv
    case h =>
      intro d hd
      have hf := fin_tup_mem hv hd
      cases h : sNum 255 d <;> simp [turn, l_num hf, h, fin_pur hf]
    simp [filt_all, sRow]
  | _ => simp [f_l_is_row, sRow]
theorem l_set (hv : v.fin = true) : ev wf (n + 2) 36 [v] S = .ok (.bl (sSet v)) S := by
  rw [show ev wf (n + 2) 36 [v] S = (evB (cx wf (n + 1)) f_l_is_set.body [.v v, .nil, .nil] S).out from rfl]
  cases v with
  | loc _ => cases hv
  | exc _ _ => cases hv
  | tup xs =>
    simp [f_l_is_set]
    generalize hb : ([_, _, _] : List G.T) = body
    have main : ∀ (ys : List D) (l : Int) (x : Sl), (∀ d ∈ ys, d.fin = true) → if sSetL l ys then ∃ sl', forL (turnS (cx wf (n + 1)) (.s 2) body) ys [.v (.tup xs), .v (.int l), x] S = .nx sl' S else forL (turnS (cx wf (n + 1)) (.s 2) body) ys [.v (.tup xs), .v (.int l), x] S = .ret (.bl false) S := by
      intro ys
      induction ys with
      | nil => intro l x _; simp [forL, sSetL]
      | cons d r ih =>
        intro l x hf
        have hd := hf d List.mem_cons_self
        have hr : ∀ e ∈ r, e.fin = true := fun e he => hf e (List.mem_cons_of_mem _ he)
        unfold forL
        have no : (∀ y z, d ≠ .tup [.int y, .int z]) → sSetL l (d :: r) = false ∧ turnS (cx wf (n + 1)) (.s 2) body d [.v (.tup xs), .v (.int l), x] S = .ret (.bl false) S := by
          intro hn
          subst hb
          refine ⟨?_, ?_⟩
          · unfold sSetL
            split
            · rename_i heq; cases heq
            · rename_i y z r' heq
              cases heq
              exact absurd rfl (hn y z)
            · rfl
          · cases d with
            | loc _ => cases hd
            | exc _ _ => cases hd
            | tup zs =>
              match zs, hd, hn with
              | [], _, _ => simp [turnS]
              | [y], _, _ => simp [turnS]
              | [y, z], hd, hn =>
                have hy : y.fin = true := fin_tup_mem hd List.mem_cons_self
                have hz : z.fin = true := fin_tup_mem hd (by simp)
                cases y <;> cases z <;> first
                  | exact absurd rfl (hn _ _)
                  | (simp [turnS, l_int hy, l_int hz, isI])
              | y :: z :: u :: t, _, _ =>
                have e2 : ¬ ((t.length : Int) + 1 + 1 + 1 = 2) := by omega
                simp [turnS, e2]
            | _ => simp [turnS]
        by_cases hp : ∃ y z, d = .tup [.int y, .int z]
        · obtain ⟨y, z, rfl⟩ := hp
          have hy : (D.int y).fin = true := by simp
          have hz : (D.int z).fin = true := by simp
          have tn : turnS (cx wf (n + 1)) (.s 2) body (.tup [.int y, .int z]) [.v (.tup xs), .v (.int l), x] S = if (decide (0 ≤ y) && decide (y ≤ z) && decide (l + 1 < y)) then .nx [.v (.tup xs), .v (.int z), .v (.tup [.int y, .int z])] S else .ret (.bl false) S := by
            subst hb
            by_cases h1 : 0 ≤ y
            · by_cases h2 : y ≤ z
              · by_cases h3 : l + 1 < y
                · simp [turnS, l_int, isI, h1, h2, h3, show ¬ y < 0 from by omega, show ¬ z < y from by omega, show ¬ y ≤ l + 1 from by omega]
                · simp [turnS, l_int, isI, h1, h2, h3, show ¬ y < 0 from by omega, show ¬ z < y from by omega, show y ≤ l + 1 from by omega]
              · simp [turnS, l_int, isI, h1, h2, show ¬ y < 0 from by omega, show z < y from by omega]
            · simp [turnS, l_int, isI, h1, show y < 0 from by omega]
          rw [tn]
          unfold sSetL
          cases hc : (decide (0 ≤ y) && decide (y ≤ z) && decide (l + 1 < y)) with
          | false => simp
          | true =>
            simp only [Bool.true_and, if_true]
            exact ih z _ hr
        · obtain ⟨e1, e2⟩ := no fun y z e => hp ⟨y, z, e⟩
          rw [e1, e2]
          simp
    have m := main xs (-2) .nil fun d hd => fin_tup_mem hv hd
    cases h : sSetL (-2) xs with
    | true =>
      rw [h] at m
      obtain ⟨sl', m⟩ := m
      rw [m]
      simp [sSet, h]
    | false =>
      rw [h] at m
      simp only [Bool.false_eq_true, if_false] at m
      rw [m]
      simp [sSet, h]
  | _ => simp [f_l_is_set, sSet]
theorem l_power {k : Int} (h0 : 0 ≤ k) (h1 : k ≤ 16) : ev wf (n + 1) 37 [.int k] S = .ok (.int (2 ^ k.toNat)) S := by
  have h : k = 0 ∨ k = 1 ∨ k = 2 ∨ k = 3 ∨ k = 4 ∨ k = 5 ∨ k = 6 ∨ k = 7 ∨ k = 8 ∨ k = 9 ∨ k = 10 ∨ k = 11 ∨ k = 12 ∨ k = 13 ∨ k = 14 ∨ k = 15 ∨ k = 16 := by omega
  rcases h with h | h | h | h | h | h | h | h | h | h | h | h | h | h | h | h | h <;> (subst h; rfl)
theorem l_pre (hv : v.fin = true) : ev wf (n + 2) 39 [v] S = .ok (.bl (sPre v)) S := by
  rw [show ev wf (n + 2) 39 [v] S = (evB (cx wf (n + 1)) f_l_is_prefix.body [.v v] S).out from rfl]
  cases v with
  | loc _ => cases hv
  | exc _ _ => cases hv
  | tup xs =>
    match xs, hv with
    | [], _ => simp [f_l_is_prefix, sPre]
    | [x], _ => simp [f_l_is_prefix, sPre]
    | [x, y], hv =>
      have hx : x.fin = true := fin_tup_mem hv List.mem_cons_self
      have hy : y.fin = true := fin_tup_mem hv (by simp)
      cases x with
      | int a =>
        cases y with
        | int l =>
          by_cases h1 : 0 ≤ l
          · by_cases h2 : l ≤ 16
            · by_cases h3 : 0 ≤ a
              · by_cases h4 : a ≤ 65535
                · have hp : 0 < (2 : Int) ^ (16 - l).toNat := Int.pow_pos (by decide)
                  simp [f_l_is_prefix, l_int, isI, sPre, h1, h2, h3, h4, show ¬ l < 0 from by omega, show ¬ 16 < l from by omega, show ¬ a < 0 from by omega, show ¬ 65535 < a from by omega, l_power (show 0 ≤ 16 - l by omega) (show 16 - l ≤ 16 by omega), mod_pos hp, spanI, Bool.beq_eq_decide_eq]
                  exact decide_eq_decide.mpr Iff.rfl
                · simp [f_l_is_prefix, l_int, isI, sPre, h1, h2, h3, h4, show ¬ l < 0 from by omega, show ¬ 16 < l from by omega, show ¬ a < 0 from by omega, show 65535 < a from by omega]
              · simp [f_l_is_prefix, l_int, isI, sPre, h1, h2, h3, show ¬ l < 0 from by omega, show ¬ 16 < l from by omega, show a < 0 from by omega]
            · simp [f_l_is_prefix, l_int, isI, sPre, h1, h2, show ¬ l < 0 from by omega, show 16 < l from by omega]
          · simp [f_l_is_prefix, l_int, isI, sPre, h1, show l < 0 from by omega]
        | loc _ => cases hy
        | exc _ _ => cases hy
        | _ => simp [f_l_is_prefix, l_int hx, l_int hy, isI, sPre]
      | loc _ => cases hx
      | exc _ _ => cases hx
      | _ => simp [f_l_is_prefix, l_int hx, isI, sPre]
    | x :: y :: z :: r, _ =>
      have e2 : ¬ ((r.length : Int) + 1 + 1 + 1 = 2) := by omega
      simp [f_l_is_prefix, sPre, e2]
  | _ => simp [f_l_is_prefix, sPre]
end
end K
end S_M82i
section S_M82j
set_option linter.all false
set_option maxRecDepth 100000
/-! M82j: the law's words, conditions, rules. -/
namespace K
open G T
section
variable {wf n : Nat} {S : List Cell} {top : Int} {v a b c : D}
theorem l_word (hv : v.fin = true) : ev wf (n + 1) 54 [v] S = .ok (.bl (sWord v)) S := by
  rw [show ev wf (n + 1) 54 [v] S = (evB (cx wf n) f_l_is_word.body [.v v, .nil] S).out from rfl]
  cases v with
  | loc _ => cases hv
  | exc _ _ => cases hv
  | str s =>
    by_cases h1 : 1 ≤ s.length
    · by_cases h2 : s.length ≤ 12
      · have h3 : ¬ (s.length : Int) < 1 := by omega
        have h4 : ¬ 12 < (s.length : Int) := by omega
        simp [f_l_is_word, h3, h4]
        rw [compF (fun d => !(match d with | .str [c] => s_abcdefghijklmnopqrst.contains c | _ => false)) (fun d => d) (hl := ?hl) (h := ?h)]
        case hl => simpa using fin_str_len hv
        case h =>
          intro d hd
          obtain ⟨c, _, rfl⟩ := List.mem_map.mp hd
          cases h : s_abcdefghijklmnopqrst.contains c <;> simp [turn, cmp_notin] <;> simp_all
        have e : ((s.map fun c => D.str [c]).all fun d => (match d with | .str [c] => s_abcdefghijklmnopqrst.contains c | _ => false)) = s.all fun c => s_abcdefghijklmnopqrst.contains c := by
          rw [List.all_map]
          rfl
        have e2 := filt_all (ds := s.map fun c => D.str [c]) (q := fun d => (match d with | .str [c] => s_abcdefghijklmnopqrst.contains c | _ => false))
        rw [e] at e2
        simp only [bind_ok, evL_cons, evL_nil, List.map_cons, List.map_nil, dr_lst, pB_len_lst, List.length_map, of_some, evE_k, dr_int, cmp_eq_int, Option.map_some, e2, fl_ok, nxt_ret, out_ret, List.map_id']
        simp [sWord, h1, h2]
      · have h3 : ¬ (s.length : Int) < 1 := by omega
        have h4 : 12 < (s.length : Int) := by omega
        simp [f_l_is_word, h3, h4, sWord, h2]
    · have h3 : (s.length : Int) < 1 := by omega
      simp [f_l_is_word, h3, sWord, h1]
  | _ => simp [f_l_is_word, sWord]
theorem cst48 : cst 48 = some fields := rfl
theorem l_fields : ev wf (n + 1) 48 [] S = .ok (.tup (fields.map .str)) S := rfl
theorem l_tops : ev wf (n + 1) 47 [] S = .ok (.tup (tops.map .int)) S := rfl
theorem l_topOf {f : List Nat} {t : Int} (h : sTop f = some t) : ev wf (n + 2) 49 [.str f] S = .ok (.int t) S := by
  rw [show ev wf (n + 2) 49 [.str f] S = (evB (cx wf (n + 1)) f_l_top_of.body [.v (.str f)] S).out from rfl]
  unfold sTop at h
  by_cases hm : f = s_mark
  · rw [if_pos hm] at h
    cases h
    simp [f_l_top_of, hm]
  · rw [if_neg hm] at h
    by_cases hf : f ∈ fields
    · rw [if_pos hf] at h
      have e3 : atI (tops.map D.int) (fields.idxOf f : Int) = some (.int t) := by
        rw [atI_nat, List.getElem?_map, h]
        rfl
      simp [f_l_top_of, hm, l_tops, cst48, placeC, hf, e3]
    · rw [if_neg hf] at h
      cases h
/-- the last end is the greatest -/
theorem set_last : ∀ {xs : List D} {l : Int}, sSetL l xs = true → ∀ (h : xs ≠ []), ∃ y z, xs[xs.length - 1]? = some (.tup [.int y, .int z]) ∧ (∀ t, xs.all (endLe t) = decide (z ≤ t)) ∧ l < z
  | [], _, _, h => absurd rfl h
  | d :: r, l, hs, _ => by
    unfold sSetL at hs
    split at hs
    · rename_i heq; cases heq
    · rename_i y z r' heq
      cases heq
      simp only [Bool.and_eq_true, decide_eq_true_eq] at hs
      cases r with
      | nil =>
        refine ⟨y, z, rfl, fun t => ?_, by omega⟩
        simp [endLe]
      | cons e r =>
        obtain ⟨y', z', g1, g2, g3⟩ := set_last hs.2 (by simp)
        refine ⟨y', z', ?_, fun t => ?_, by omega⟩
        · have : (D.tup [.int y, .int z] :: e :: r).length - 1 = ((e :: r).length - 1) + 1 := by simp
          rw [this, List.getElem?_cons_succ]
          exact g1
        · rw [List.all_cons, g2 t]
          simp only [endLe]
          by_cases h1 : z' ≤ t
          · have h2 : z ≤ t := by omega
            simp [h1, h2]
          · simp [h1]
    · cases hs
theorem sTop_none {f : List Nat} : sTop f = none ↔ f ∉ fields ∧ f ≠ s_mark := by
  unfold sTop
  by_cases hm : f = s_mark
  · simp [hm]
  · by_cases hf : f ∈ fields
    · obtain ⟨t, ht, _⟩ := tops_some hf
      simp [hm, hf, ht]
    · simp [hm, hf]
theorem sTop_nonneg {f : List Nat} {t : Int} (h : sTop f = some t) : 0 ≤ t := by
  unfold sTop at h
  by_cases hm : f = s_mark
  · rw [if_pos hm] at h
    cases h
    decide
  · rw [if_neg hm] at h
    by_cases hf : f ∈ fields
    · rw [if_pos hf] at h
      obtain ⟨t', ht, h0⟩ := tops_some hf
      rw [ht] at h
      cases h
      exact h0
    · rw [if_neg hf] at h
      cases h
theorem l_cond (hv : v.fin = true) : ev wf (n + 3) 55 [v] S = .ok (.bl (sCond v)) S := by
  rw [show ev wf (n + 3) 55 [v] S = (evB (cx wf (n + 2)) f_l_is_condition.body [.v v] S).out from rfl]
  cases v with
  | loc _ => cases hv
  | exc _ _ => cases hv
  | tup xs =>
    match xs, hv with
    | [], _ => simp [f_l_is_condition, sCond]
    | [x], _ => simp [f_l_is_condition, sCond]
    | x :: y :: z :: r, _ =>
      have e2 : ¬ ((r.length : Int) + 1 + 1 + 1 = 2) := by omega
      simp [f_l_is_condition, sCond, e2]
    | [x, y], hv =>
      have hx : x.fin = true := fin_tup_mem hv List.mem_cons_self
      have hy : y.fin = true := fin_tup_mem hv (by simp)
      cases x with
      | loc _ => cases hx
      | exc _ _ => cases hx
      | str f =>
        cases hs : sSet y with
        | false =>
          have : sCond (.tup [.str f, y]) = false := by
            cases y with
            | tup ys => simp [sCond, hs]
            | _ => rfl
          simp [f_l_is_condition, l_set hy, hs, this]
        | true =>
          cases y with
          | tup ys =>
            have mem : pCmp .isin (.str f) (.tup (fields.map D.str ++ [.str s_mark])) = some (decide (f ∈ fields) || decide (f = s_mark)) := by
              rw [cmp_in_tup (by simp) (by decide), List.any_append, any_str]
              simp [beq_str]
            have add : pBin .add (.tup (fields.map D.str)) (.tup [.str s_mark]) = some (.tup (fields.map D.str ++ [.str s_mark])) := add_tup (by decide)
            cases ht : sTop f with
            | none =>
              obtain ⟨n1, n2⟩ := sTop_none.mp ht
              simp [f_l_is_condition, l_set hy, hs, l_fields, add, cmp_notin, mem, n1, n2, sCond, ht, -List.map_map]
            | some t =>
              have yes : (decide (f ∈ fields) || decide (f = s_mark)) = true := by
                by_cases h1 : f ∈ fields
                · simp [h1]
                · by_cases h2 : f = s_mark
                  · simp [h2]
                  · have := sTop_none.mpr ⟨h1, h2⟩
                    rw [ht] at this
                    cases this
              by_cases he : ys = []
              · subst he
                simp [f_l_is_condition, l_set hy, hs, l_fields, add, cmp_notin, mem, yes, sCond, ht]
              · obtain ⟨y1, z1, g1, g2, g3⟩ := set_last (show sSetL (-2) ys = true from hs) he
                have hl : ¬ ((ys.length : Int) = 0) := by
                  have := List.length_pos_iff.mpr he
                  omega
                have i1 : atI ys ((ys.length : Int) - 1) = some (.tup [.int y1, .int z1]) := by
                  have hp := List.length_pos_iff.mpr he
                  have e : ((ys.length : Int) - 1) = ((ys.length - 1 : Nat) : Int) := by omega
                  rw [e, atI_nat, g1]
                simp [f_l_is_condition, l_set hy, hs, l_fields, add, cmp_notin, mem, yes, l_topOf ht, sCond, ht, g2 t, hl, i1, he]
          | _ => cases hs
      | _ => simp [f_l_is_condition, sCond]
  | _ => simp [f_l_is_condition, sCond]
theorem l_dec (hv : v.fin = true) : ev wf (n + 3) 56 [v] S = .ok (.bl (sDec v)) S := by
  rw [show ev wf (n + 3) 56 [v] S = (evB (cx wf (n + 2)) f_l_is_decision.body [.v v] S).out from rfl]
  cases v with
  | loc _ => cases hv
  | exc _ _ => cases hv
  | tup xs =>
    match xs, hv with
    | [], _ => simp [f_l_is_decision, sDec]
    | x :: r, hv =>
      have hx : x.fin = true := fin_tup_mem hv List.mem_cons_self
      have e0 : ¬ ((r.length : Int) + 1 = 0) := by omega
      cases x with
      | loc _ => cases hx
      | exc _ _ => cases hx
      | str k =>
        by_cases hk : k = s_refuse
        · match r, hv with
          | [], _ => simp [f_l_is_decision, sDec, hk]
          | [y], hv =>
            have hy : y.fin = true := fin_tup_mem hv (by simp)
            simp [f_l_is_decision, sDec, hk, l_num hy]
          | y :: z :: r, hv =>
            have e1 : ¬ ((r.length : Int) + 1 + 1 + 1 = 0) := by omega
            have e2 : ¬ ((r.length : Int) + 1 + 1 + 1 = 2) := by omega
            simp [f_l_is_decision, sDec, hk, e1, e2]
        · cases r with
          | nil =>
            have hk2 : ¬ s_refuse = k := fun z => hk z.symm
            simp [f_l_is_decision, sDec, hk, hk2, cmp_in_tup, beq_str]
          | cons y r =>
            have e2 : ¬ ((r.length : Int) + 1 + 1 = 1) := by omega
            have e1 : ¬ ((r.length : Int) + 1 + 1 = 0) := by omega
            simp [f_l_is_decision, sDec, hk, e1, e2]
      | _ => simp [f_l_is_decision, sDec, e0]
  | _ => simp [f_l_is_decision, sDec]
end
end K
end S_M82j
section S_M82k
set_option linter.all false
set_option maxRecDepth 100000
/-! M82k: the law's actions, rules, books. -/
namespace K
open G T
section
variable {wf n : Nat} {S : List Cell} {top : Int} {v a b c : D}
theorem l_act (hv : v.fin = true) : ev wf (n + 4) 57 [v] S = .ok (.bl (sAct v)) S := by
  rw [show ev wf (n + 4) 57 [v] S = (evB (cx wf (n + 3)) f_l_is_action.body [.v v] S).out from rfl]
  cases hd : sDec v with
  | true => simp [f_l_is_action, l_dec hv, hd, sAct]
  | false =>
    simp [f_l_is_action, l_dec hv, hd, sAct]
    cases v with
    | loc _ => cases hv
    | exc _ _ => cases hv
    | tup xs =>
      match xs, hv, hd with
      | [], _, _ => simp
      | [x], hv, _ =>
        have hx : x.fin = true := fin_tup_mem hv List.mem_cons_self
        cases x with
        | loc _ => cases hx
        | exc _ _ => cases hx
        | str k => by_cases h : k = s_back <;> simp [h]
        | _ => simp
      | [x, y], hv, _ =>
        have hx : x.fin = true := fin_tup_mem hv List.mem_cons_self
        have hy : y.fin = true := fin_tup_mem hv (by simp)
        cases x with
        | loc _ => cases hx
        | exc _ _ => cases hx
        | str k =>
          by_cases h0 : k = s_back
          · subst h0
            simp [show ¬ s_back = s_jump from by decide, show ¬ s_back = s_mark from by decide, show ¬ s_back = s_count from by decide]
          · by_cases h1 : k = s_jump
            · simp [h1, l_word hy, show (s_jump == s_back) = false from by decide, show ¬ s_jump = s_back from by decide]
            · by_cases h2 : k = s_mark
              · subst h2
                simp [h0, h1, l_num hy]
                cases sNum 255 y <;> simp [show (s_mark == s_count) = false from by decide, show ¬ s_mark = s_count from by decide]
              · by_cases h3 : k = s_count
                · subst h3
                  simp [h0, h1, h2, l_num hy]
                · simp [h0, h1, h2, h3]
        | _ => simp
      | x :: y :: z :: r, hv, _ =>
        have hx : x.fin = true := fin_tup_mem hv List.mem_cons_self
        have e1 : ¬ ((r.length : Int) + 1 + 1 + 1 = 0) := by omega
        have e2 : ¬ ((r.length : Int) + 1 + 1 + 1 = 2) := by omega
        have e3 : ¬ ((r.length : Int) + 1 + 1 + 1 = 1) := by omega
        have e3' : ((r.length : Int) + 1 + 1 + 1 == 1) = false := by simpa using e3
        cases x with
        | loc _ => cases hx
        | exc _ _ => cases hx
        | str k => by_cases h : k = s_back <;> simp [e1, e2, e3, e3', h]
        | _ => simp [e1, e2, e3]
    | _ => simp
theorem l_rule (hv : v.fin = true) : ev wf (n + 5) 58 [v] S = .ok (.bl (sRule v)) S := by
  rw [show ev wf (n + 5) 58 [v] S = (evB (cx wf (n + 4)) f_l_is_rule.body [.v v, .nil] S).out from rfl]
  cases v with
  | loc _ => cases hv
  | exc _ _ => cases hv
  | tup xs =>
    match xs, hv with
    | [], _ => simp [f_l_is_rule, sRule]
    | [x], _ => simp [f_l_is_rule, sRule]
    | [x, y], hv =>
      have hx : x.fin = true := fin_tup_mem hv List.mem_cons_self
      have hy : y.fin = true := fin_tup_mem hv (by simp)
      cases x with
      | loc _ => cases hx
      | exc _ _ => cases hx
      | tup cs =>
        by_cases h4 : cs.length ≤ 4
        · have e4 : ¬ 4 < (cs.length : Int) := by omega
          simp [f_l_is_rule, e4]
          rw [compF (fun d => !sCond d) (fun d => d) (hl := ?hl) (h := ?h)]
          case hl => exact fin_tup_len hx
          case h =>
            intro d hd
            have hf := fin_tup_mem hx hd
            cases h : sCond d <;> simp [turn, l_cond hf, h, fin_pur hf]
          have fa := filt_all (ds := cs) (q := sCond)
          cases hc : cs.all sCond with
          | true =>
            rw [hc] at fa
            simp [fa, l_act hy, sRule, sConds, h4, hc]
          | false =>
            rw [hc] at fa
            simp [fa, sRule, sConds, h4, hc]
        · have e4 : 4 < (cs.length : Int) := by omega
          simp [f_l_is_rule, e4, sRule, sConds, h4]
      | _ => simp [f_l_is_rule, sRule, sConds]
    | x :: y :: z :: r, _ =>
      have e2 : ¬ ((r.length : Int) + 1 + 1 + 1 = 2) := by omega
      simp [f_l_is_rule, sRule, e2]
  | _ => simp [f_l_is_rule, sRule]
/-- the law's look at a chain -/
def chBody : List G.T := [.ife (.or [(.not (.tr (.blt (.isa .tup) [(.v 1)]))), (.tr (.cmp .ne (.blt .len [(.v 1)]) (.k (.int 3)))), (.not (.tr (.cal 54 [(.ix (.v 1) (.k (.int 0)))]))), (.not (.tr (.blt (.isa .tup) [(.ix (.v 1) (.k (.int 1)))])))]) [.ret (.k (.bl false))] [], .ife (.or [(.tr (.cmp .gt (.blt .len [(.ix (.v 1) (.k (.int 1)))]) (.k (.int 20)))), (.tr (.cmp .gt (.blt .len [(.comp (.s 5) (.e (.ix (.v 1) (.k (.int 1)))) (.v 5) [(.not (.tr (.cal 58 [(.v 5)])))])]) (.k (.int 0)))), (.not (.tr (.blt (.isa .tup) [(.ix (.v 1) (.k (.int 2)))])))]) [.ret (.k (.bl false))] [], .set 4 (.and [(.cmp .eq (.blt .len [(.ix (.v 1) (.k (.int 2)))]) (.k (.int 1))), (.blt (.isa .str) [(.ix (.ix (.v 1) (.k (.int 2))) (.k (.int 0)))]), (.cmp .eq (.ix (.ix (.v 1) (.k (.int 2))) (.k (.int 0))) (.k (.str s_back)))]), .ife (.and [(.not (.tr (.v 4))), (.not (.tr (.cal 56 [(.ix (.v 1) (.k (.int 2)))])))]) [.ret (.k (.bl false))] []]
theorem ch_turn {d val x y z u w : D} (hd : d.fin = true) {s1 s2 s3 s4 s5 : Sl} : if sChain d then ∃ t, turnS (cx wf (n + 6)) (.s 1) chBody d [.v val, s1, s2, s3, s4, s5] S = .nx [.v val, .v d, s2, s3, t, s5] S else turnS (cx wf (n + 6)) (.s 1) chBody d [.v val, s1, s2, s3, s4, s5] S = .ret (.bl false) S := by
  have bad : ∀ e, sChain e = false → (∀ ws, e = .tup ws → ws.length ≠ 3) → e.fin = true → turnS (cx wf (n + 6)) (.s 1) chBody e [.v val, s1, s2, s3, s4, s5] S = .ret (.bl false) S := by
    intro e _ hn he
    cases e with
    | loc _ => cases he
    | exc _ _ => cases he
    | tup ws =>
      have h3 : ¬ ((ws.length : Int) = 3) := by
        have := hn ws rfl
        omega
      simp [turnS, chBody, h3]
    | _ => simp [turnS, chBody]
  cases d with
  | loc _ => cases hd
  | exc _ _ => cases hd
  | tup xs =>
    match xs, hd with
    | [], hd => exact bad _ rfl (by simp) hd
    | [x], hd => exact bad _ rfl (by simp) hd
    | [x, y], hd =>
      have e0 : sChain (.tup [x, y]) = false := by simp [sChain]
      rw [if_neg (by rw [e0]; decide)]
      exact bad _ e0 (by simp) hd
    | x :: y :: z :: u :: r, hd =>
      have e0 : sChain (.tup (x :: y :: z :: u :: r)) = false := by simp [sChain]
      rw [if_neg (by rw [e0]; decide)]
      exact bad _ e0 (by simp) hd
    | [w, rs, e], hd =>
      have hw : w.fin = true := fin_tup_mem hd List.mem_cons_self
      have hr : rs.fin = true := fin_tup_mem hd (by simp)
      have he : e.fin = true := fin_tup_mem hd (by simp)
      cases h1 : sWord w with
      | false =>
        have : sChain (.tup [w, rs, e]) = false := by
          cases rs <;> simp [sChain, h1]
        simp [turnS, chBody, l_word hw, h1, this]
      | true =>
        cases rs with
        | loc _ => cases hr
        | exc _ _ => cases hr
        | tup rs =>
          by_cases h2 : rs.length ≤ 20
          · have e2 : ¬ 20 < (rs.length : Int) := by omega
            have cf : compL (turn (cx wf (n + 6)) (.s 5) (.v 5) [(.not (.tr (.cal 58 [(.v 5)])))] [.v val, .v (.tup [w, .tup rs, e]), s2, s3, s4, s5]) rs S [] = .ok ((rs.filter fun d => !sRule d).map fun d => d) S := by
              apply compF
              · exact fin_tup_len hr
              · intro d hd
                have hf := fin_tup_mem hr hd
                cases h : sRule d <;> simp [turn, l_rule hf, h, fin_pur hf]
            have fl := filt_le (ds := rs) (q := sRule)
            cases h3 : rs.all sRule with
            | false =>
              rw [h3] at fl
              have fl' : 0 < ((rs.filter fun d => !sRule d).length : Int) := of_decide_eq_true fl
              simp [turnS, chBody, l_word hw, h1, e2, cf, sChain, h2, h3, show 0 < (rs.filter fun d => !sRule d).length from by omega]
            | true =>
              rw [h3] at fl
              have fl' : ¬ 0 < ((rs.filter fun d => !sRule d).length : Int) := of_decide_eq_false fl
              have fl'' : ¬ 0 < (rs.filter fun d => !sRule d).length := by omega
              have back : (∃ k, e = .tup [.str k]) ∨ ¬ (∃ k, e = .tup [.str k]) := Classical.em _
              rcases back with ⟨k, rfl⟩ | nb
              · by_cases hk : k = s_back
                · subst hk
                  simp [turnS, chBody, l_word hw, h1, e2, cf, sChain, h2, h3, fl'', l_dec he]
                  exact .inl (by decide)
                · have b0 : isBack (.tup [.str k]) = false := by simp [isBack, hk]
                  simp [turnS, chBody, l_word hw, h1, e2, cf, sChain, h2, h3, fl'', hk, l_dec he, b0]
                  cases sDec (.tup [.str k]) <;> simp
              · cases e with
                | loc _ => cases he
                | exc _ _ => cases he
                | tup es =>
                  match es, he, hd, cf, nb with
                  | [], he, hd, cf, nb =>
                    simp [turnS, chBody, l_word hw, h1, e2, cf, sChain, h2, h3, fl'', l_dec he, isBack]
                    cases sDec (.tup []) <;> simp
                  | [g], he, hd, cf, nb =>
                    have hg := fin_tup_mem he List.mem_cons_self
                    cases g with
                    | loc _ => cases hg
                    | exc _ _ => cases hg
                    | str k => exact absurd ⟨k, rfl⟩ nb
                    | _ =>
                      simp [turnS, chBody, l_word hw, h1, e2, cf, sChain, h2, h3, fl'', l_dec he, isBack]
                      cases sDec _ <;> simp
                  | g :: g2 :: gs, he, hd, cf, nb =>
                    have e1 : ¬ ((gs.length : Int) + 1 + 1 = 1) := by omega
                    have e1' : ((gs.length : Int) + 1 + 1 == 1) = false := by simpa using e1
                    simp [turnS, chBody, l_word hw, h1, e2, cf, sChain, h2, h3, fl'', l_dec he, isBack, e1, e1']
                    cases sDec _ <;> simp
                | _ => simp [turnS, chBody, l_word hw, h1, e2, cf, sChain, h2, h3, fl'', isBack, sDec]
          · have e2 : 20 < (rs.length : Int) := by omega
            simp [turnS, chBody, l_word hw, h1, e2, sChain, h2]
        | _ => simp [turnS, chBody, l_word hw, h1, sChain]
  | _ => exact bad _ rfl (by intro ws h; cases h) hd
end
end K
end S_M82k
section S_M82l
set_option linter.all false
set_option maxRecDepth 100000
/-! M82l: the law's look at a book. -/
namespace K
open G T
section
variable {wf n : Nat} {S : List Cell} {top : Int} {v a b c : D}
theorem end_head {e : D} (h : (isBack e || sDec e) = true) : ∃ k r, e = .tup (.str k :: r) ∧ (k == s_back) = isBack e := by
  rw [Bool.or_eq_true] at h
  rcases h with h | h
  · unfold isBack at h
    split at h
    · rename_i s
      exact ⟨s, [], rfl, by simp [isBack, Bool.beq_eq_decide_eq]⟩
    · cases h
  · unfold sDec at h
    split at h
    · rename_i k r
      refine ⟨k, r, rfl, ?_⟩
      have hk : ¬ k = s_back := by
        intro hk
        subst hk
        simp [show ¬ s_back = s_refuse from by decide, show ¬ s_back = s_accept from by decide, show ¬ s_back = s_drop from by decide] at h
      cases r <;> simp [isBack, hk]
    · cases h
theorem chain_end {d : D} (h : sChain d = true) : ∃ w rs e, d = .tup [.str w, .tup rs, e] ∧ (isBack e || sDec e) = true := by
  unfold sChain at h
  split at h
  · rename_i w rs e
    simp only [Bool.and_eq_true] at h
    obtain ⟨⟨⟨hw, _⟩, _⟩, he⟩ := h
    have : ∃ k, w = .str k := by
      cases w <;> first | exact ⟨_, rfl⟩ | (simp [sWord] at hw)
    obtain ⟨k, rfl⟩ := this
    exact ⟨k, rs, e, rfl, he⟩
  · cases h
/-- the law's two loops over the rules -/
theorem l_well {xs : List D} (hv : (D.tup xs).fin = true) (hc : xs.all sChain = true) {p q : Sl} {body : List G.T}
    (hb : body = [.ife (.and [(.tr (.cmp .eq (.ix (.ix (.v 5) (.k (.int 1))) (.k (.int 0))) (.k (.str s_back)))), (.tr (.cmp .eq (.v 3) (.k (.int 0))))]) [.ret (.k (.bl false))] [], .ife (.and [(.tr (.cmp .eq (.ix (.ix (.v 5) (.k (.int 1))) (.k (.int 0))) (.k (.str s_jump)))), (.tr (.cmp .notin (.ix (.ix (.v 5) (.k (.int 1))) (.k (.int 1))) (.sl (.v 2) (some (.bin .add (.v 3) (.k (.int 1)))) none)))]) [.ret (.k (.bl false))] []]) :
    if sWell xs then ∃ s3 s5, forL (turnS (cx wf n) (.s 3) [.for_ (.s 5) (.e (.ix (.ix (.v 0) (.v 3)) (.k (.int 1)))) body]) ((List.range xs.length).map fun (k : Nat) => .int ((0 : Int) + (k : Int))) [.v (.tup xs), p, .v (.lst ((xs.map wordOf).map .str)), .nil, q, .nil] S = .nx [.v (.tup xs), p, .v (.lst ((xs.map wordOf).map .str)), s3, q, s5] S
    else forL (turnS (cx wf n) (.s 3) [.for_ (.s 5) (.e (.ix (.ix (.v 0) (.v 3)) (.k (.int 1)))) body]) ((List.range xs.length).map fun (k : Nat) => .int ((0 : Int) + (k : Int))) [.v (.tup xs), p, .v (.lst ((xs.map wordOf).map .str)), .nil, q, .nil] S = .ret (.bl false) S := by
  have step := forL_all (S := S) (f := turnS (cx wf n) (.s 3) [.for_ (.s 5) (.e (.ix (.ix (.v 0) (.v 3)) (.k (.int 1)))) body]) (r := .bl false) (fun sl => ∃ s3 s5, sl = [.v (.tup xs), p, .v (.lst ((xs.map wordOf).map .str)), s3, q, s5])
    (fun d => match d with | .int k => wellAt xs k.toNat | _ => true) (ds := (List.range xs.length).map fun (k : Nat) => .int ((0 : Int) + (k : Int))) ?_ [.v (.tup xs), p, .v (.lst ((xs.map wordOf).map .str)), .nil, q, .nil] ⟨_, _, rfl⟩
  · have e : (((List.range xs.length).map fun (k : Nat) => D.int ((0 : Int) + (k : Int))).all fun d => match d with | .int k => wellAt xs k.toNat | _ => true) = sWell xs := by
      rw [List.all_map]
      simp [sWell, Function.comp_def]
    rw [e] at step
    cases hw : sWell xs with
    | true =>
      rw [hw] at step
      obtain ⟨sl', ⟨p, q, rfl⟩, e2⟩ := step
      exact ⟨_, _, e2⟩
    | false =>
      rw [hw] at step
      simpa using step
  · intro d hd sl ⟨s3, s5, e⟩
    subst e
    obtain ⟨k, hk, rfl⟩ := List.mem_map.mp hd
    have hk : k < xs.length := List.mem_range.mp hk
    have g1 : xs[k]? = some xs[k] := List.getElem?_eq_getElem hk
    have i1 : atI xs (k : Int) = some xs[k] := by rw [atI_nat, g1]
    have hm := List.getElem_mem hk
    have hch := List.all_eq_true.mp hc _ hm
    have hw : wellAt xs k = (rulesOf xs[k]).all (ruleOk ((xs.map wordOf).drop (k + 1)) (k == 0)) := by
      unfold wellAt
      rw [g1]
    simp only [Int.zero_add, Int.toNat_natCast, hw]
    generalize xs[k] = c at i1 hch hm ⊢
    obtain ⟨w, rs, e, rfl, hrs, _⟩ := chain_form hch
    have hcut : cut ((xs.map wordOf).map D.str) (some ((k : Int) + 1)) none = ((xs.map wordOf).drop (k + 1)).map .str := by
      have := cut_from (xs := (xs.map wordOf).map D.str) (k := k + 1)
      rw [← List.map_drop] at this
      exact this
    simp [turnS, i1, rulesOf, -List.map_map, -List.all_eq_true]
    have inner := forL_all (S := S) (f := turnS (cx wf n) (.s 5) body) (r := .bl false) (fun sl => ∃ u, sl = [.v (.tup xs), p, .v (.lst ((xs.map wordOf).map .str)), .v (.int (k : Int)), q, u])
      (ruleOk ((xs.map wordOf).drop (k + 1)) (k == 0)) (ds := rs) ?_ [.v (.tup xs), p, .v (.lst ((xs.map wordOf).map .str)), .v (.int (k : Int)), q, s5] ⟨_, rfl⟩
    · cases ha : rs.all (ruleOk ((xs.map wordOf).drop (k + 1)) (k == 0)) with
      | true =>
        rw [ha] at inner
        obtain ⟨sl', ⟨u', rfl⟩, e2⟩ := inner
        rw [e2]
        simp
      | false =>
        rw [ha] at inner
        simp only [Bool.false_eq_true, if_false] at inner ⊢
        rw [inner]
        rfl
    · intro d hd sl ⟨u, e⟩
      subst e
      subst hb
      obtain ⟨a, kw, r, rfl, hj⟩ := act_form (List.all_eq_true.mp hrs d hd)
      have k0 : ((k : Int) == 0) = (k == 0) := by
        cases k with
        | zero => rfl
        | succ k =>
          have : ¬ ((k : Int) + 1 = 0) := by omega
          simp [this]
      by_cases h1 : kw = s_jump
      · obtain ⟨w2, rfl⟩ := hj h1
        subst h1
        by_cases h2 : w2 ∈ (xs.map wordOf).drop (k + 1)
        · simp only [ruleOk, h2]
          simp [turnS, pSl, hcut, cmp_notin, cmp_in_strs, h2, show (s_jump == s_back) = false from by decide, show ¬ s_jump = s_back from by decide, -List.map_map, -List.map_drop]
        · simp only [ruleOk, h2]
          simp [turnS, pSl, hcut, cmp_notin, cmp_in_strs, h2, show (s_jump == s_back) = false from by decide, show ¬ s_jump = s_back from by decide, -List.map_map, -List.map_drop]
      · have h1' : (kw == s_jump) = false := by simpa using h1
        by_cases h2 : kw = s_back
        · subst h2
          cases hk0 : k == 0 with
          | true => simp [turnS, ruleOk, h1', h1, k0, hk0]
          | false => simp [turnS, ruleOk, h1', h1, k0, hk0]
        · have h2' : (kw == s_back) = false := by simpa using h2
          simp [turnS, ruleOk, h1', h1, h2, h2']
theorem l_book (hv : v.fin = true) : ev wf (n + 7) 59 [v] S = .ok (.bl (sBook v)) S := by
  rw [show ev wf (n + 7) 59 [v] S = (evB (cx wf (n + 6)) f_l_is_book.body [.v v, .nil, .nil, .nil, .nil, .nil] S).out from rfl]
  cases v with
  | loc _ => cases hv
  | exc _ _ => cases hv
  | tup xs =>
    by_cases h1 : 1 ≤ xs.length
    · have h1' : ¬ (xs.length : Int) < 1 := by omega
      by_cases h2 : xs.length ≤ 6
      · have h3 : ¬ 6 < (xs.length : Int) := by omega
        simp [f_l_is_book, h1', h3, -List.all_eq_true]
        rw [show ([.ife (.or [(.not (.tr (.blt (.isa .tup) [(.v 1)]))), (.tr (.cmp .ne (.blt .len [(.v 1)]) (.k (.int 3)))), (.not (.tr (.cal 54 [(.ix (.v 1) (.k (.int 0)))]))), (.not (.tr (.blt (.isa .tup) [(.ix (.v 1) (.k (.int 1)))])))]) [.ret (.k (.bl false))] [], .ife (.or [(.tr (.cmp .gt (.blt .len [(.ix (.v 1) (.k (.int 1)))]) (.k (.int 20)))), (.tr (.cmp .gt (.blt .len [(.comp (.s 5) (.e (.ix (.v 1) (.k (.int 1)))) (.v 5) [(.not (.tr (.cal 58 [(.v 5)])))])]) (.k (.int 0)))), (.not (.tr (.blt (.isa .tup) [(.ix (.v 1) (.k (.int 2)))])))]) [.ret (.k (.bl false))] [], .set 4 (.and [(.cmp .eq (.blt .len [(.ix (.v 1) (.k (.int 2)))]) (.k (.int 1))), (.blt (.isa .str) [(.ix (.ix (.v 1) (.k (.int 2))) (.k (.int 0)))]), (.cmp .eq (.ix (.ix (.v 1) (.k (.int 2))) (.k (.int 0))) (.k (.str s_back)))]), .ife (.and [(.not (.tr (.v 4))), (.not (.tr (.cal 56 [(.ix (.v 1) (.k (.int 2)))])))]) [.ret (.k (.bl false))] []] : List G.T) = chBody from rfl]
        have lp := forL_all (S := S) (f := turnS (cx wf (n + 6)) (.s 1) chBody) (r := .bl false) (fun sl => ∃ p q, sl = [.v (.tup xs), p, .nil, .nil, q, .nil]) sChain (ds := xs) ?_ [.v (.tup xs), .nil, .nil, .nil, .nil, .nil] ⟨_, _, rfl⟩
        · cases hc : xs.all sChain with
          | false =>
            rw [hc] at lp
            simp only [Bool.false_eq_true, if_false] at lp
            rw [lp]
            simp [sBook, hc]
          | true =>
            rw [hc] at lp
            obtain ⟨sl', ⟨p, q, rfl⟩, e2⟩ := lp
            rw [e2]
            simp [-List.all_eq_true]
            rw [compA (fun d => .str (wordOf d)) (hl := ?hl) (h := ?h)]
            case hl => exact fin_tup_len hv
            case h =>
              intro d hd
              obtain ⟨w, rs, e, rfl, _⟩ := chain_form (List.all_eq_true.mp hc d hd)
              simp [turn, wordOf]
            have g0 : xs[0]? = some xs[0] := List.getElem?_eq_getElem h1
            have hx : sChain xs[0] = true := List.all_eq_true.mp hc _ (List.getElem_mem h1)
            obtain ⟨w, rs, e, ee, hend⟩ := chain_end hx
            obtain ⟨k, r, rfl, hk⟩ := end_head hend
            rw [ee] at g0
            have hh : headLast xs = !isBack (.tup (.str k :: r)) := by
              unfold headLast
              rw [g0]
              rfl
            have hr : rngOk (xs.length : Int) = true := by
              have := rngOk_len (fin_tup_len hv) (k := 0) (by omega) (by omega)
              simpa using this
            simp [lenset_words h2, g0, -List.all_eq_true, pRng, hr]
            have lw := l_well (wf := wf) (n := n + 6) (S := S) hv hc (p := p) (q := q) rfl
            rw [upto_eq]
            have nd : ((ddup (xs.map wordOf)).length = xs.length) ↔ (xs.map wordOf).Nodup := by
              rw [← ddup_nodup_iff, List.length_map]
            rw [show (List.map (fun d => D.str (wordOf d)) xs) = (xs.map wordOf).map .str by simp]
            have nd2 : (((ddup (xs.map wordOf)).length : Int) = (xs.length : Int)) ↔ (xs.map wordOf).Nodup := by
              rw [← nd]
              exact Int.ofNat_inj
            by_cases hn : (xs.map wordOf).Nodup
            · rw [if_pos (nd2.mpr hn)]
              by_cases hkb : k = s_back
              · rw [if_pos hkb]
                have hb : isBack (.tup (.str k :: r)) = true := by
                  rw [← hk]
                  simp [hkb]
                simp [sBook, hh, hb]
              · rw [if_neg hkb]
                have hb : isBack (.tup (.str k :: r)) = false := by
                  rw [← hk]
                  simp [hkb]
                cases hw : sWell xs with
                | true =>
                  rw [hw] at lw
                  obtain ⟨s3, s5, e3⟩ := lw
                  rw [e3]
                  simp [sBook, hh, hb, hw, h1, h2, hc, hn, -List.all_eq_true]
                | false =>
                  rw [hw] at lw
                  simp only [Bool.false_eq_true, if_false] at lw
                  rw [lw]
                  simp [sBook, hw]
            · rw [if_neg (fun h => hn (nd2.mp h))]
              simp [sBook, hn]
        · intro d hd sl ⟨p, q, e⟩
          subst e
          have := ch_turn (wf := wf) (n := n) (S := S) (val := .tup xs) (fin_tup_mem hv hd) (x := .bl false) (y := .bl false) (z := .bl false) (u := .bl false) (w := .bl false) (s1 := p) (s2 := .nil) (s3 := .nil) (s4 := q) (s5 := .nil)
          cases hs : sChain d with
          | true =>
            rw [hs] at this
            obtain ⟨t, h⟩ := this
            exact ⟨_, ⟨_, _, rfl⟩, .inl h⟩
          | false =>
            rw [hs] at this
            simpa using this
      · have h3 : 6 < (xs.length : Int) := by omega
        simp [f_l_is_book, h1', h3, sBook, h2]
    · have h1' : (xs.length : Int) < 1 := by omega
      simp [f_l_is_book, h1', sBook, h1]
  | _ => simp [f_l_is_book, sBook]
end
end K
end S_M82l
section S_M82m
set_option linter.all false
set_option maxRecDepth 100000
/-! M82m: the law's exchanges. -/
namespace K
open G T
section
variable {wf n : Nat} {S : List Cell} {top : Int} {v a b c : D}
theorem l_last (h : sPre v = true) : ev wf (n + 2) 40 [v] S = .ok (.int (ival v).2) S := by
  obtain ⟨a, l, rfl, h0, h1, h2, h3⟩ := pre_form h
  rw [show ev wf (n + 2) 40 [.tup [.int a, .int l]] S = (evB (cx wf (n + 1)) f_l_last.body [.v (.tup [.int a, .int l])] S).out from rfl]
  simp [f_l_last, l_power (k := 16 - l) (by omega) (by omega), ival, spanI]
theorem pre_le (h : sPre v = true) : (ival v).1 ≤ (ival v).2 := by
  obtain ⟨a, l, rfl, h0, h1, h2, h3⟩ := pre_form h
  have := span_pos l
  simp only [ival]
  omega
theorem pre_fst (h : sPre v = true) : ∃ l, v = .tup [.int (ival v).1, .int l] := by
  obtain ⟨a, l, rfl, h0, h1, h2, h3⟩ := pre_form h
  exact ⟨l, rfl⟩
theorem over_iff {p q : Int × Int} (hp : p.1 ≤ p.2) (hq : q.1 ≤ q.2) : (!overlap p q) = (decide (p.2 < q.1) || decide (q.2 < p.1)) := by
  unfold overlap meet
  rw [Bool.eq_iff_iff]
  simp
  split <;> split <;> omega
theorem l_apart (ha : sPre a = true) (hb : sPre b = true) : ev wf (n + 3) 41 [a, b] S = .ok (.bl (!overlap (ival a) (ival b))) S := by
  rw [over_iff (pre_le ha) (pre_le hb)]
  rw [show ev wf (n + 3) 41 [a, b] S = (evB (cx wf (n + 2)) f_l_apart.body [.v a, .v b] S).out from rfl]
  obtain ⟨l, e1⟩ := pre_fst ha
  obtain ⟨m, e2⟩ := pre_fst hb
  have la := l_last (wf := wf) (n := n) (S := S) ha
  have lb := l_last (wf := wf) (n := n) (S := S) hb
  generalize (ival a) = p at *
  generalize (ival b) = q at *
  subst e1
  subst e2
  simp [f_l_apart, la, lb]
  by_cases h : p.2 < q.1 <;> simp [h]
theorem apart_snoc {ps : List (Int × Int)} {p : Int × Int} {k j : Nat} (hk : k < ps.length) (hj : j < ps.length) : apartAt (ps ++ [p]) k j = apartAt ps k j := by
  unfold apartAt
  rw [List.getElem?_append_left hk, List.getElem?_append_left hj]
theorem all_congr' {α : Type} {l : List α} {f g : α → Bool} (h : ∀ x ∈ l, f x = g x) : l.all f = l.all g := by
  induction l with
  | nil => rfl
  | cons x r ih =>
    rw [List.all_cons, List.all_cons, h x List.mem_cons_self, ih fun y hy => h y (List.mem_cons_of_mem _ hy)]
theorem all_range {ps : List (Int × Int)} {f : Int × Int → Bool} : ((List.range ps.length).all fun j => match ps[j]? with | some q => f q | none => true) = ps.all f := by
  rw [Bool.eq_iff_iff]
  simp only [List.all_eq_true, List.mem_range]
  constructor
  · intro h x hx
    obtain ⟨j, hj, e⟩ := List.mem_iff_getElem.mp hx
    have := h j hj
    rw [List.getElem?_eq_getElem hj] at this
    rw [← e]
    exact this
  · intro h j hj
    rw [List.getElem?_eq_getElem hj]
    exact h _ (List.getElem_mem hj)
theorem noMeet_snoc {ps : List (Int × Int)} {p : Int × Int} : noMeet (ps ++ [p]) = (noMeet ps && ps.all fun q => !overlap p q) := by
  unfold noMeet
  rw [List.length_append, List.length_singleton, List.range_succ, List.all_append]
  congr 1
  · apply all_congr'
    intro k hk
    have hk := List.mem_range.mp hk
    apply all_congr'
    intro j hj
    have hj := List.mem_range.mp hj
    exact apart_snoc hk (by omega)
  · rw [List.all_cons, List.all_nil, Bool.and_true, ← all_range]
    apply all_congr'
    intro j hj
    have hj := List.mem_range.mp hj
    unfold apartAt
    rw [List.getElem?_append_right (Nat.le_refl _), List.getElem?_append_left hj, Nat.sub_self]
    rw [List.getElem?_eq_getElem hj]
    rfl
theorem noMeet_pre {ps qs : List (Int × Int)} (h : noMeet ps = false) : noMeet (ps ++ qs) = false := by
  induction qs generalizing ps with
  | nil => simpa using h
  | cons q qs ih =>
    have := ih (ps := ps ++ [q]) (by rw [noMeet_snoc, h]; rfl)
    simpa using this
theorem pre_pur (h : sPre v = true) : v.pur = true := by
  obtain ⟨a, l, rfl, _⟩ := pre_form h
  simp
def lx3 : List G.T := [.ife (.tr (.cmp .gt (.blt .len [(.comp (.s 4) (.e (.b 1)) (.v 4) [(.not (.tr (.cal 41 [(.v 3), (.v 4)])))])]) (.k (.int 0)))) [.ret (.k (.bl false))] [], .app (.b 1) (.v 3)]
def lx2 : List G.T := [.ife (.or [(.not (.tr (.blt (.isa .tup) [(.v 2)]))), (.tr (.cmp .ne (.blt .len [(.v 2)]) (.k (.int 2)))), (.not (.tr (.cal 39 [(.ix (.v 2) (.k (.int 0)))]))), (.not (.tr (.cal 39 [(.ix (.v 2) (.k (.int 1)))])))]) [.ret (.k (.bl false))] [], .ife (.tr (.cmp .ne (.ix (.ix (.v 2) (.k (.int 0))) (.k (.int 1))) (.ix (.ix (.v 2) (.k (.int 1))) (.k (.int 1))))) [.ret (.k (.bl false))] [], .for_ (.s 3) (.e (.v 2)) lx3]
/-- one prefix set beside those known -/
theorem lx_one {val y p : D} {x z : Sl} {known : List D} (hk : known.all sPre = true) (hp : sPre p = true) (hl : known.length + 1 ≤ lim) :
    turnS (cx wf (n + 3)) (.s 3) lx3 p [.v val, .own known, .v y, x, z] S = if (known.map ival).all (fun q => !overlap (ival p) q) then .nx [.v val, .own (known ++ [p]), .v y, .v p, z] S else .ret (.bl false) S := by
  have cf : compL (turn (cx wf (n + 3)) (.s 4) (.v 4) [(.not (.tr (.cal 41 [(.v 3), (.v 4)])))] [.v val, .own known, .v y, .v p, z]) known S [] = .ok ((known.filter fun d => !(!overlap (ival p) (ival d))).map fun d => d) S := by
    apply compF
    · omega
    · intro d hd
      have hs := List.all_eq_true.mp hk d hd
      cases h : overlap (ival p) (ival d) <;> simp [turn, l_apart hp hs, h, pre_pur hs]
  have fl := filt_le (ds := known) (q := fun d => !overlap (ival p) (ival d))
  rw [List.map_id'] at cf
  generalize (known.filter fun d => !(!overlap (ival p) (ival d))) = ys at cf fl
  rw [List.all_map]
  rw [show ((fun q => !overlap (ival p) q) ∘ ival) = fun d => !overlap (ival p) (ival d) from rfl]
  cases h3 : known.all fun d => !overlap (ival p) (ival d) with
  | false =>
    rw [h3] at fl
    have fl' : 0 < (ys.length : Int) := of_decide_eq_true fl
    have fl2 : 0 < ys.length := by omega
    simp [turnS, lx3]
    rw [cf]
    simp [fl2]
  | true =>
    rw [h3] at fl
    have fl' : ¬ 0 < (ys.length : Int) := of_decide_eq_false fl
    have fl2 : ¬ 0 < ys.length := by omega
    simp [turnS, lx3]
    rw [cf]
    simp [fl2, lstAt, chg, show known.length < lim by omega, pre_pur hp]
def pfx : D → List D
  | .tup [p, q] => [p, q]
  | _ => []
theorem pfx_ival {d : D} (h : pairOk d = true) : (pfx d).map ival = ivals d := by
  unfold pairOk at h
  split at h
  · rfl
  · cases h
theorem pfx_pre {d : D} (h : pairOk d = true) : (pfx d).all sPre = true := by
  unfold pairOk at h
  split at h
  · simp only [Bool.and_eq_true] at h
    simp [pfx, h.1.1, h.1.2]
  · cases h
/-- the law's look at one pair -/
theorem lx_turn {d val : D} {x y z : Sl} {known : List D} (hd : d.fin = true) (hk : known.all sPre = true) (hn : noMeet (known.map ival) = true) (hl : known.length + 2 ≤ lim) :
    if pairOk d && noMeet (known.map ival ++ ivals d) then ∃ x' z', turnS (cx wf (n + 3)) (.s 2) lx2 d [.v val, .own known, y, x, z] S = .nx [.v val, .own (known ++ pfx d), .v d, x', z'] S else turnS (cx wf (n + 3)) (.s 2) lx2 d [.v val, .own known, y, x, z] S = .ret (.bl false) S := by
  cases d with
  | loc _ => cases hd
  | exc _ _ => cases hd
  | tup xs =>
    match xs, hd with
    | [], _ => simp [turnS, lx2, pairOk]
    | [x], _ => simp [turnS, lx2, pairOk]
    | x :: y :: z :: r, _ =>
      have e2 : ¬ ((r.length : Int) + 1 + 1 + 1 = 2) := by omega
      simp [turnS, lx2, pairOk, e2]
    | [p, q], hd =>
      have hp : p.fin = true := fin_tup_mem hd List.mem_cons_self
      have hq : q.fin = true := fin_tup_mem hd (by simp)
      cases h1 : sPre p with
      | false =>
        have : pairOk (.tup [p, q]) = false := by
          unfold pairOk
          split
          · rename_i heq
            cases heq
            simp [h1]
          · rfl
        simp [turnS, lx2, l_pre hp, h1, this]
      | true =>
        cases h2 : sPre q with
        | false =>
          have : pairOk (.tup [p, q]) = false := by
            unfold pairOk
            split
            · rename_i heq
              cases heq
              simp [h2]
            · rfl
          simp [turnS, lx2, l_pre hp, l_pre hq, h1, h2, this]
        | true =>
          obtain ⟨a, l, e1, _⟩ := pre_form h1
          obtain ⟨b, m, e2, _⟩ := pre_form h2
          by_cases hlm : l = m
          · subst hlm
            have pk : pairOk (.tup [p, q]) = true := by
              subst e1 e2
              simp [pairOk, h1, h2]
            have o1 := lx_one (wf := wf) (n := n) (S := S) (val := val) (y := .tup [p, q]) (x := x) (z := z) hk h1 (by omega)
            have o2 := fun x' => lx_one (wf := wf) (n := n) (S := S) (val := val) (y := .tup [p, q]) (x := x') (z := z) (known := known ++ [p]) (by simp [hk, h1]) h2 (by rw [List.length_append, List.length_singleton]; omega)
            have start : turnS (cx wf (n + 3)) (.s 2) lx2 (.tup [p, q]) [.v val, .own known, y, x, z] S = (forL (turnS (cx wf (n + 3)) (.s 3) lx3) [p, q] [.v val, .own known, .v (.tup [p, q]), x, z] S).nxt fun sl S => .nx sl S := by
              subst e1 e2
              simp [turnS, lx2, l_pre hp, l_pre hq, h1, h2]
            rw [start, pk]
            rw [show ivals (.tup [p, q]) = [ival p] ++ [ival q] from rfl, ← List.append_assoc, noMeet_snoc, noMeet_snoc, hn]
            rw [List.map_append, List.map_singleton] at o2
            rw [show pfx (.tup [p, q]) = [p] ++ [q] from rfl]
            have sym : ∀ u w : Int × Int, overlap u w = overlap w u := by
              intro u w
              unfold overlap meet
              simp only
              congr 1
              apply propext
              split <;> split <;> split <;> split <;> omega
            have a1 : (known.map ival).all (fun q => !overlap q (ival p)) = (known.map ival).all (fun q => !overlap (ival p) q) := by
              congr 1
              funext u
              rw [sym]
            have a2 : (known.map ival ++ [ival p]).all (fun u => !overlap u (ival q)) = (known.map ival ++ [ival p]).all (fun u => !overlap (ival q) u) := by
              congr 1
              funext u
              rw [sym]
            simp only [forL, o1]
            cases c1 : (known.map ival).all (fun q => !overlap (ival p) q) with
            | false =>
              simp
            | true =>
              cases c2 : (known.map ival ++ [ival p]).all (fun u => !overlap (ival q) u) with
              | false =>
                rw [c2] at o2
                simp [o2]
              | true =>
                rw [c2] at o2
                simp [o2]
          · have pk : pairOk (.tup [p, q]) = false := by
              subst e1 e2
              simp [pairOk, hlm]
            rw [pk]
            subst e1 e2
            simp [turnS, lx2, l_pre hp, l_pre hq, h1, h2, hlm]
  | _ => simp [turnS, lx2, pairOk]
theorem lx_loop {val : D} : ∀ {xs : List D} {known : List D} {y x z : Sl}, (∀ d ∈ xs, d.fin = true) → known.all sPre = true → noMeet (known.map ival) = true → known.length + 2 * xs.length ≤ lim →
    if xs.all pairOk && noMeet (known.map ival ++ xs.flatMap ivals) then ∃ sl', forL (turnS (cx wf (n + 3)) (.s 2) (lx2)) xs [.v val, .own known, y, x, z] S = .nx sl' S else forL (turnS (cx wf (n + 3)) (.s 2) lx2) xs [.v val, .own known, y, x, z] S = .ret (.bl false) S
  | [], known, y, x, z, _, _, hn, _ => by
    simp [forL, hn]
  | d :: r, known, y, x, z, hf, hk, hn, hl => by
    rw [List.length_cons] at hl
    have t := lx_turn (wf := wf) (n := n) (S := S) (val := val) (x := x) (y := y) (z := z) (hf d List.mem_cons_self) hk hn (by omega)
    unfold forL
    cases hp : pairOk d with
    | false =>
      rw [hp] at t
      simp only [Bool.false_and, Bool.false_eq_true, if_false] at t
      rw [t]
      simp [hp]
    | true =>
      rw [hp] at t
      rw [List.flatMap_cons, ← List.append_assoc]
      cases hm : noMeet (known.map ival ++ ivals d) with
      | false =>
        rw [hm] at t
        simp only [Bool.and_false, Bool.false_eq_true, if_false] at t
        rw [t, noMeet_pre hm]
        simp
      | true =>
        rw [hm] at t
        obtain ⟨x', z', t⟩ := t
        rw [t]
        have pl : (pfx d).length = (ivals d).length := by rw [← pfx_ival hp, List.length_map]
        have il : (ivals d).length ≤ 2 := by
          unfold ivals
          split <;> simp
        have e : (known ++ pfx d).map ival = known.map ival ++ ivals d := by rw [List.map_append, pfx_ival hp]
        have ih := lx_loop (val := val) (xs := r) (known := known ++ pfx d) (y := .v d) (x := x') (z := z') (fun e he => hf e (List.mem_cons_of_mem _ he)) (by rw [List.all_append, hk, pfx_pre hp]; rfl) (by rw [e]; exact hm) (by rw [List.length_append]; omega)
        rw [e] at ih
        rw [List.all_cons, hp, Bool.true_and]
        exact ih
theorem l_exch (hv : v.fin = true) : ev wf (n + 4) 42 [v] S = .ok (.bl (sExch v)) S := by
  rw [show ev wf (n + 4) 42 [v] S = (evB (cx wf (n + 3)) [.ife (.not (.tr (.blt (.isa .tup) [(.v 0)]))) [.ret (.k (.bl false))] [], .setO 1 (.lst []), .for_ (.s 2) (.e (.v 0)) lx2, .ret (.k (.bl true))] [.v v, .nil, .nil, .nil, .nil] S).out from rfl]
  cases v with
  | loc _ => cases hv
  | exc _ _ => cases hv
  | tup xs =>
    have lf := fin_tup_lf hv
    have l1 := lx_loop (wf := wf) (n := n) (S := S) (val := .tup xs) (xs := xs) (known := []) (y := .nil) (x := .nil) (z := .nil) (fun d hd => fin_tup_mem hv hd) rfl rfl (by unfold flim at lf; unfold lim; simp; omega)
    simp only [List.map_nil, List.nil_append] at l1
    cases h1 : xs.all pairOk && noMeet (xs.flatMap ivals) with
    | false =>
      rw [h1] at l1
      simp only [Bool.false_eq_true, if_false] at l1
      simp only [sExch, h1]
      simp [l1]
    | true =>
      rw [h1] at l1
      obtain ⟨sl', l1⟩ := l1
      simp only [sExch, h1]
      simp [l1]
  | _ => simp [sExch]
end
end K
end S_M82m
section S_M82n
set_option linter.all false
set_option maxRecDepth 100000
/-! M82n: the law's entries and journals. -/
namespace K
open G T
section
variable {wf n : Nat} {S : List Cell} {top : Int} {v a b c : D}
def lkB : List G.T := [.ife (.or [(.tr (.cmp .ne (.blt .len [(.v 0)]) (.k (.int 2)))), (.not (.tr (.blt (.isa .tup) [(.v 2)]))), (.tr (.cmp .ne (.blt .len [(.v 2)]) (.k (.int 3)))), (.not (.tr (.blt (.isa .tup) [(.ix (.v 2) (.k (.int 1)))]))), (.not (.tr (.blt (.isa .tup) [(.ix (.v 2) (.k (.int 2)))]))), (.tr (.cmp .ne (.blt .len [(.bin .add (.ix (.v 2) (.k (.int 1))) (.ix (.v 2) (.k (.int 2))))]) (.k (.int 4)))), (.tr (.cmp .ne (.blt .len [(.ix (.v 2) (.k (.int 1)))]) (.k (.int 2))))]) [.ret (.k (.bl false))] [], .ret (.and [(.cal 45 [(.ix (.v 2) (.k (.int 0))), (.k (.int 255))]), (.cmp .eq (.blt .len [(.comp (.s 3) (.e (.bin .add (.ix (.v 2) (.k (.int 1))) (.ix (.v 2) (.k (.int 2))))) (.v 3) [(.not (.tr (.cal 45 [(.v 3), (.k (.int 65535))])))])]) (.k (.int 0))), (.cmp .isin (.ix (.v 2) (.k (.int 0))) (.tup [(.k (.int 6)), (.k (.int 17))])), (.cmp .lt (.ix (.ix (.v 2) (.k (.int 1))) (.k (.int 0))) (.ix (.ix (.v 2) (.k (.int 2))) (.k (.int 0))))])]
theorem add_tt {xs ys : List D} (h : xs.length + ys.length ≤ lim) : pBin .add (.tup xs) (.tup ys) = some (.tup (xs ++ ys)) := by
  simp [pBin, h]
theorem l_keyb {y x0 : D} (hy : y.fin = true) : evB (cx wf (n + 3)) lkB [.v (.tup [x0, y]), .nil, .v y, .nil] S = .ret (.bl (sKey y)) S := by
  cases y with
  | loc _ => cases hy
  | exc _ _ => cases hy
  | tup xs =>
    match xs, hy with
    | [], _ => simp [lkB, sKey]
    | [x], _ => simp [lkB, sKey]
    | [x, y], _ => simp [lkB, sKey]
    | x :: y :: z :: u :: r, _ =>
      have e2 : ¬ ((r.length : Int) + 1 + 1 + 1 + 1 = 3) := by omega
      simp [lkB, sKey, e2]
    | [k, a, b], hv =>
      have hk : k.fin = true := fin_tup_mem hv List.mem_cons_self
      have ha : a.fin = true := fin_tup_mem hv (by simp)
      have hb : b.fin = true := fin_tup_mem hv (by simp)
      cases a with
      | loc _ => cases ha
      | exc _ _ => cases ha
      | tup as =>
        cases b with
        | loc _ => cases hb
        | exc _ _ => cases hb
        | tup bs =>
          have la := fin_tup_lf ha
          have lb := fin_tup_lf hb
          have ad : pBin .add (.tup as) (.tup bs) = some (.tup (as ++ bs)) := add_tt (by unfold flim at la lb; unfold lim; omega)
          by_cases h2 : as.length = 2
          · by_cases h4 : bs.length = 2
            · match as, bs, h2, h4 with
              | [p, q], [r, s], _, _ =>
                have hp : p.fin = true := fin_tup_mem ha (by simp)
                have hq : q.fin = true := fin_tup_mem ha (by simp)
                have hr : r.fin = true := fin_tup_mem hb (by simp)
                have hs : s.fin = true := fin_tup_mem hb (by simp)
                have cf : ∀ S, compL (turn (cx wf (n + 3)) (.s 3) (.v 3) [(.not (.tr (.cal 45 [.v 3, .k (.int 65535)])))] [.v (.tup [x0, .tup [k, .tup [p, q], .tup [r, s]]]), .nil, .v (.tup [k, .tup [p, q], .tup [r, s]]), .nil]) [p, q, r, s] S [] = .ok (([p, q, r, s].filter fun d => !sNum 65535 d).map fun d => d) S := by
                  intro S
                  apply compF
                  · simp [lim]
                  · intro d hd
                    have hf : d.fin = true := by
                      simp only [List.mem_cons, List.not_mem_nil, or_false] at hd
                      rcases hd with rfl | rfl | rfl | rfl <;> assumption
                    cases h : sNum 65535 d <;> simp [turn, l_num hf, h, fin_pur hf]
                have fa := filt_all (ds := [p, q, r, s]) (q := sNum 65535)
                rw [show ([p, q, r, s].all (sNum 65535)) = (sEnd (.tup [p, q]) && sEnd (.tup [r, s])) by simp [sEnd, Bool.and_assoc]] at fa
                simp only [List.map_id'] at cf
                generalize ([p, q, r, s].filter fun d => !sNum 65535 d) = ys at fa cf
                have fa2 : ys = [] ↔ (sEnd (.tup [p, q]) && sEnd (.tup [r, s])) = true := by
                  rw [← fa]
                  simp
                simp [lkB, ad, cf]
                cases k with
                | int i =>
                  by_cases h2 : i = 6 ∨ i = 17
                  · have h1 : sNum 255 (.int i) = true := by
                      rcases h2 with rfl | rfl <;> rfl
                    cases h3 : sEnd (.tup [p, q]) with
                    | false =>
                      rw [h3] at fa2
                      simp at fa2
                      simp [l_num hk, h1, fa2, sKey, h3]
                    | true =>
                      cases h4 : sEnd (.tup [r, s]) with
                      | false =>
                        rw [h3, h4] at fa2
                        simp at fa2
                        simp [l_num hk, h1, fa2, sKey, h3, h4]
                      | true =>
                        rw [h3, h4] at fa2
                        simp at fa2
                        obtain ⟨x, y, e1⟩ := end_form h3
                        obtain ⟨z, u, e2⟩ := end_form h4
                        cases e1
                        cases e2
                        rcases h2 with rfl | rfl <;> simp [l_num hk, h1, fa2, sKey, h3, h4, cmp_in_tup]
                  · have n6 : ¬ i = 6 := fun z => h2 (.inl z)
                    have n17 : ¬ i = 17 := fun z => h2 (.inr z)
                    cases h1 : sNum 255 (.int i) <;> cases h3 : (sEnd (.tup [p, q]) && sEnd (.tup [r, s])) <;> rw [h3] at fa2 <;> simp at fa2 <;> simp [l_num hk, h1, fa2, sKey, n6, n17, cmp_in_tup, show ¬ (6 : Int) = i from fun z => n6 z.symm, show ¬ (17 : Int) = i from fun z => n17 z.symm]
                | loc _ => cases hk
                | exc _ _ => cases hk
                | _ => simp [l_num hk, sKey, sNum]
            · have e4 : ¬ ((as.length : Int) + bs.length = 4) := by omega
              have : sEnd (.tup bs) = false := by
                unfold sEnd
                split
                · rename_i heq; cases heq; simp at h4
                · rfl
              simp [lkB, ad, e4, sKey, this]
          · have e4 : ¬ ((as.length : Int) = 2) := by omega
            have : sEnd (.tup as) = false := by
              unfold sEnd
              split
              · rename_i heq; cases heq; simp at h2
              · rfl
            simp [lkB, ad, e4, sKey, this]
        | _ => simp [lkB, sKey, sEnd]
      | _ => simp [lkB, sKey, sEnd]
  | _ => simp [lkB, sKey]
def lrB : List G.T := [.ife (.or [(.not (.tr (.blt (.isa .tup) [(.v 1)]))), (.tr (.cmp .lt (.blt .len [(.v 1)]) (.k (.int 2)))), (.not (.tr (.blt (.isa .str) [(.ix (.v 1) (.k (.int 0)))])))]) [.ret (.k (.bl false))] [],
.ife (.tr (.cmp .eq (.ix (.v 1) (.k (.int 0))) (.k (.str s_dropped)))) [.ret (.and [(.cmp .eq (.blt .len [(.v 1)]) (.k (.int 2))), (.blt (.isa .str) [(.ix (.v 1) (.k (.int 1)))])])] [],
.ret (.and [(.cmp .isin (.ix (.v 1) (.k (.int 0))) (.tup [(.k (.str s_out)), (.k (.str s_back))])), (.cmp .eq (.blt .len [(.v 1)]) (.k (.int 3))), (.cal 45 [(.ix (.v 1) (.k (.int 1))), (.k (.int 1))]), (.cal 46 [(.ix (.v 1) (.k (.int 2)))])])]
theorem l_resb {v w : D} (hw : w.fin = true) : evB (cx wf (n + 3)) lrB [.v v, .v w, .nil, .nil] S = .ret (.bl (sRes w)) S := by
  cases w with
  | loc _ => cases hw
  | exc _ _ => cases hw
  | tup xs =>
    match xs, hw with
    | [], _ => simp [lrB, sRes]
    | [x], _ => simp [lrB, sRes]
    | x :: y :: r, hv =>
      have hx : x.fin = true := fin_tup_mem hv List.mem_cons_self
      have hy : y.fin = true := fin_tup_mem hv (by simp)
      have e1 : ¬ ((r.length : Int) + 1 + 1 < 2) := by omega
      cases x with
      | loc _ => cases hx
      | exc _ _ => cases hx
      | str s =>
        by_cases hs : s = s_dropped
        · subst hs
          match r with
          | [] =>
            cases y with
            | loc _ => cases hy
            | exc _ _ => cases hy
            | _ => simp [lrB, sRes]
          | [z] => simp [lrB, sRes]
          | z :: u :: r =>
            have e2 : ¬ ((r.length : Int) + 1 + 1 + 1 + 1 = 2) := by omega
            have e3 : ¬ ((r.length : Int) + 1 + 1 + 1 + 1 < 2) := by omega
            have e2' : ((r.length : Int) + 1 + 1 + 1 + 1 == 2) = false := by simpa using e2
            simp [lrB, sRes, e2, e3, e2']
        · have hs' : (s == s_dropped) = false := by simpa using hs
          have mem : pCmp .isin (.str s) (.tup [.str s_out, .str s_back]) = some (decide (s = s_out) || decide (s = s_back)) := by
            rw [cmp_in_tup (by simp) (by simp)]
            simp [beq_str]
          match r, hv with
          | [], _ =>
            simp [lrB, sRes, hs, hs', mem]
          | [z], hv =>
            have hz : z.fin = true := fin_tup_mem hv (by simp)
            simp [lrB, sRes, hs, hs', mem, l_num hy, l_row hz]
            by_cases m1 : s = s_out <;> by_cases m2 : s = s_back <;> cases sNum 1 y <;> simp [m1, m2]
          | z :: u :: r, _ =>
            have e2 : ¬ ((r.length : Int) + 1 + 1 + 1 + 1 = 3) := by omega
            have e3 : ¬ ((r.length : Int) + 1 + 1 + 1 + 1 < 2) := by omega
            simp [lrB, sRes, hs, hs', mem, e2, e3]
            have e4 : ((r.length : Int) + 1 + 1 + 1 + 1 == 3) = false := by simpa using e2
            by_cases m1 : s = s_out <;> by_cases m2 : s = s_back <;> simp [m1, m2, e4]
            all_goals omega
      | _ => simp [lrB, sRes, e1]
  | _ => simp [lrB, sRes]
theorem l_ent (hv : v.fin = true) : ev wf (n + 8) 64 [v] S = .ok (.bl (sEnt v)) S := by
  rw [show ev wf (n + 8) 64 [v] S = (evB (cx wf (n + 7)) f_l_is_entry.body [.v v, .nil, .nil, .nil] S).out from rfl]
  cases v with
  | loc _ => cases hv
  | exc _ _ => cases hv
  | tup xs =>
    match xs, hv with
    | [], _ => simp [f_l_is_entry, sEnt]
    | [x], _ => simp [f_l_is_entry, sEnt]
    | x :: y :: r, hv =>
      have hx : x.fin = true := fin_tup_mem hv List.mem_cons_self
      have hy : y.fin = true := fin_tup_mem hv (by simp)
      have e1 : ¬ ((r.length : Int) + 1 + 1 < 2) := by omega
      cases x with
      | loc _ => cases hx
      | exc _ _ => cases hx
      | str s =>
        by_cases hb : s = s_book
        · subst hb
          match r with
          | [] =>
            simp [f_l_is_entry, sEnt, l_book hy, show ¬ s_book = s_in from by decide, show ¬ s_book = s_forget from by decide]
          | z :: r =>
            have e2 : ¬ ((r.length : Int) + 1 + 1 + 1 = 2) := by omega
            have e3 : ¬ ((r.length : Int) + 1 + 1 + 1 < 2) := by omega
            have e2' : ((r.length : Int) + 1 + 1 + 1 == 2) = false := by simpa using e2
            have e4 : sEnt (.tup (.str s_book :: y :: z :: r)) = false := by
              unfold sEnt
              split
              · rename_i heq; cases heq
              · rename_i heq; cases heq; simp [show ¬ s_book = s_in from by decide]
              · rfl
            simp [f_l_is_entry, e2, e3, e4, e2']
        · have hb' : (s == s_book) = false := by simpa using hb
          by_cases hf : s = s_forget
          · subst hf
            match r with
            | [] =>
              have kb := l_keyb (wf := wf) (n := n + 4) (S := S) (x0 := .str s_forget) hy
              simp [lkB] at kb
              simp [f_l_is_entry, sEnt, hb, hb', kb, show ¬ s_forget = s_in from by decide]
            | z :: r =>
              have e2 : ¬ ((r.length : Int) + 1 + 1 + 1 = 2) := by omega
              have e3 : ¬ ((r.length : Int) + 1 + 1 + 1 < 2) := by omega
              have e4 : sEnt (.tup (.str s_forget :: y :: z :: r)) = false := by
                unfold sEnt
                split
                · rename_i heq; cases heq
                · rename_i heq; cases heq; simp [show ¬ s_forget = s_in from by decide]
                · rfl
              simp [f_l_is_entry, e2, e3, e4, hb, hb']
          · have hf' : (s == s_forget) = false := by simpa using hf
            by_cases hs : s = s_in
            · subst hs
              match r, hv with
              | [], _ => simp [f_l_is_entry, sEnt, hb, hb', hf, hf']
              | [z], _ => simp [f_l_is_entry, sEnt, hb, hb', hf, hf']
              | [z, w], hv =>
                have hz : z.fin = true := fin_tup_mem hv (by simp)
                have hw : w.fin = true := fin_tup_mem hv (by simp)
                have rb := l_resb (wf := wf) (n := n + 4) (S := S) (v := .tup [.str s_in, y, z, w]) hw
                simp [lrB] at rb
                cases h1 : sNum 1 y with
                | false => simp [f_l_is_entry, sEnt, hb, hb', hf, hf', l_num hy, h1]
                | true =>
                  cases h2 : sRow z with
                  | false => simp [f_l_is_entry, sEnt, hb, hb', hf, hf', l_num hy, h1, l_row hz, h2]
                  | true =>
                    simp [f_l_is_entry, sEnt, hb, hb', hf, hf', l_num hy, h1, l_row hz, h2, rb]
              | z :: w :: u :: r, _ =>
                have e2 : ¬ ((r.length : Int) + 1 + 1 + 1 + 1 + 1 = 4) := by omega
                have e3 : ¬ ((r.length : Int) + 1 + 1 + 1 + 1 + 1 < 2) := by omega
                simp [f_l_is_entry, sEnt, hb, hb', hf, hf', e2, e3]
            · have hs' : (s == s_in) = false := by simpa using hs
              have e4 : sEnt (.tup (.str s :: y :: r)) = false := by
                unfold sEnt
                split
                · rename_i heq; cases heq; simp [hf, hb]
                · rename_i heq; cases heq; simp [hs]
                · rfl
              simp [f_l_is_entry, e1, e4, hb, hb', hf, hf', hs, hs']
      | _ => simp [f_l_is_entry, sEnt, e1]
  | _ => simp [f_l_is_entry, sEnt]
theorem l_jou (hv : v.fin = true) : ev wf (n + 9) 65 [v] S = .ok (.bl (sJou v)) S := by
  rw [show ev wf (n + 9) 65 [v] S = (evB (cx wf (n + 8)) f_l_is_journal.body [.v v, .nil] S).out from rfl]
  cases v with
  | loc _ => cases hv
  | exc _ _ => cases hv
  | tup xs =>
    match xs, hv with
    | [], _ => simp [f_l_is_journal, sJou]
    | [x], _ => simp [f_l_is_journal, sJou]
    | [x, y], _ => simp [f_l_is_journal, sJou]
    | [x, y, z], hv =>
      have hx : x.fin = true := fin_tup_mem hv List.mem_cons_self
      have hy : y.fin = true := fin_tup_mem hv (by simp)
      have hz : z.fin = true := fin_tup_mem hv (by simp)
      cases h1 : sBook x with
      | false => cases z <;> simp [f_l_is_journal, l_book hx, h1, sJou]
      | true =>
        cases h2 : sExch y with
        | false => cases z <;> simp [f_l_is_journal, l_book hx, l_exch hy, h1, h2, sJou]
        | true =>
          cases z with
          | loc _ => cases hz
          | exc _ _ => cases hz
          | tup es =>
            simp [f_l_is_journal, l_book hx, l_exch hy, h1, h2]
            rw [compF (fun d => !sEnt d) (fun d => d) (hl := ?hl) (h := ?h)]
            case hl => exact fin_tup_len hz
            case h =>
              intro d hd
              have hf := fin_tup_mem hz hd
              cases h : sEnt d <;> simp [turn, l_ent hf, h, fin_pur hf]
            simp [sJou, h1, h2, filt_all]
          | _ => simp [f_l_is_journal, l_book hx, l_exch hy, h1, h2, sJou]
    | x :: y :: z :: u :: r, _ =>
      have e2 : ¬ ((r.length : Int) + 1 + 1 + 1 + 1 = 3) := by omega
      simp [f_l_is_journal, sJou, e2]
  | _ => simp [f_l_is_journal, sJou]
end
end K
end S_M82n
section S_M82o
set_option linter.all false
set_option maxRecDepth 100000
/-! M82o: the draws. -/
namespace K
open G T
section
variable {wf n : Nat} {S : List Cell} {top : Int} {v a b c : D}
/-- the pool: its script, place, rest, count, salt -/
def pool (s : List Int) (p t q z : Int) : List Cell := [.lst [.lst (s.map .int), .int p, .int t, .int q, .int z]]
def PoolOk (S : List Cell) : Prop := ∃ s p t q z, S = pool s p t q z ∧ 0 ≤ p ∧ s.length ≤ 100
theorem b_mod {i j : Int} (h : 0 < j) : pBin .mod (.int i) (.int j) = some (.int (i % j)) := by
  simp [pBin, h]
theorem b_mul {i j : Int} (h : smallI j = true) : pBin .mul (.int i) (.int j) = some (.int (i * j)) := by
  simp [pBin, h]
theorem b_add {i j : Int} : pBin .add (.int i) (.int j) = some (.int (i + j)) := (rfl)
theorem b_int {i : Int} : pB .int [.int i] = some (.int i) := (rfl)
theorem b_fdiv {i j : Int} (h : 0 < j) (h2 : j < 2 ^ 63) : pBin .fdiv (.int i) (.int j) = some (.int (i / j)) := by
  have : j.natAbs < 2 ^ 63 := by omega
  simp only [pBin]
  rw [if_pos ⟨h, this⟩]
theorem l_spread {x : Int} : ∃ r, ev wf (n + 1) 30 [.int x] S = .ok (.int r) S := by
  rw [show ev wf (n + 1) 30 [.int x] S = (evB (cx wf n) f_l_spread.body [.v (.int x), .nil, .nil, .nil] S).out from rfl]
  simp [f_l_spread, pRng, upto, forL, turnS, b_mod, b_mul, b_add, b_int, show rngOk 4 = true from by decide, show smallI 48271 = true from by decide, show smallI 2147483647 = true from by decide]
theorem dr_l0 {xs : List D} {S : List Cell} : dr (.lst xs :: S) (.loc 0) = .lst xs := (rfl)
theorem lstAt0 {xs : List D} {S : List Cell} {sl : List Sl} : lstAt (.b 0) (.v (.loc 0) :: sl) (.lst xs :: S) = true := (rfl)
theorem chg0 {f : List D → Option (List D)} {C : Cx} {xs : List D} {S : List Cell} {sl : List Sl} : chg (.b 0) f C (.v (.loc 0) :: sl) (.lst xs :: S) = match f xs with | some ys => .nx (.v (.loc 0) :: sl) (.lst ys :: S) | none => .stk := (rfl)
def drTail : List G.T := [.sub (.b 0) (.k (.int 3)) (.bin .add (.ix (.v 0) (.k (.int 3))) (.k (.int 1))),
.ife (.tr (.cmp .le (.ix (.v 0) (.k (.int 2))) (.k (.int 0)))) [.set 4 (.bin .mod (.blt .int [(.bin .add (.bin .add (.bin .mul (.ix (.v 0) (.k (.int 4))) (.k (.int 48271))) (.bin .mul (.ix (.v 0) (.k (.int 3))) (.k (.int 69621)))) (.k (.int 1)))]) (.k (.int 2147483647))), .set 4 (.bin .mod (.blt .int [(.bin .add (.bin .mul (.v 4) (.k (.int 16807))) (.ix (.v 0) (.k (.int 3))))]) (.k (.int 2147483629))), .ret (.bin .mod (.bin .fdiv (.v 4) (.k (.int 5))) (.v 1))] [],
.set 2 (.bin .mod (.blt .int [(.ix (.v 0) (.k (.int 2)))]) (.v 1)),
.sub (.b 0) (.k (.int 2)) (.bin .fdiv (.ix (.v 0) (.k (.int 2))) (.v 1)),
.ret (.v 2)]
def drHead : G.T := .ife (.and [(.tr (.cmp .le (.ix (.v 0) (.k (.int 2))) (.k (.int 0)))), (.tr (.cmp .lt (.ix (.v 0) (.k (.int 1))) (.blt .len [(.ix (.v 0) (.k (.int 0)))])))]) [.set 3 (.ix (.ix (.v 0) (.k (.int 0))) (.ix (.v 0) (.k (.int 1)))), .sub (.b 0) (.k (.int 1)) (.bin .add (.ix (.v 0) (.k (.int 1))) (.k (.int 1))), .sub (.b 0) (.k (.int 2)) (.v 3), .ife (.tr (.cmp .lt (.v 3) (.k (.int 1000000000000000000)))) [.sub (.b 0) (.k (.int 2)) (.cal 30 [(.v 3)])] []] []
theorem draw_tail {m p t q z : Int} {s : List Int} {w : Sl} (hp : 0 ≤ p) (hs : s.length ≤ 100) (h0 : 0 < m) (h1 : m < 2 ^ 63) : ∃ r S', evB (cx wf (n + 1)) drTail [.v (.loc 0), .v (.int m), .nil, w, .nil] (pool s p t q z) = .ret (.int r) S' ∧ PoolOk S' ∧ 0 ≤ r ∧ r < m := by
  by_cases ht : t ≤ 0
  · simp [drTail, pool, b_mod, b_mul, b_add, b_int, b_fdiv h0 h1, dr_l0, lstAt0, chg0, ixN, ht, show smallI 48271 = true from by decide, show smallI 69621 = true from by decide, show smallI 16807 = true from by decide, h0, b_fdiv (j := 5) (by decide) (by decide)]
    exact ⟨_, _, ⟨rfl, rfl⟩, ⟨s, p, t, q + 1, z, rfl, hp, hs⟩, Int.emod_nonneg _ (by omega), Int.emod_lt_of_pos _ h0⟩
  · simp [drTail, pool, b_mod, b_mul, b_add, b_int, b_fdiv h0 h1, dr_l0, lstAt0, chg0, ixN, ht, h0]
    exact ⟨_, _, ⟨rfl, rfl⟩, ⟨s, p, t / m, q + 1, z, rfl, hp, hs⟩, Int.emod_nonneg _ (by omega), Int.emod_lt_of_pos _ h0⟩
theorem l_draw {m : Int} (h : PoolOk S) (h0 : 0 < m) (h1 : m < 2 ^ 63) : ∃ r S', ev wf (n + 2) 31 [.loc 0, .int m] S = .ok (.int r) S' ∧ PoolOk S' ∧ 0 ≤ r ∧ r < m := by
  obtain ⟨s, p, t, q, z, rfl, hp, hs⟩ := h
  rw [show ev wf (n + 2) 31 [.loc 0, .int m] (pool s p t q z) = (evB (cx wf (n + 1)) f_l_draw.body [.v (.loc 0), .v (.int m), .nil, .nil, .nil] (pool s p t q z)).out from rfl]
  have tail : ∀ (p t q z : Int) (w : Sl), 0 ≤ p → ∃ r S', (evB (cx wf (n + 1)) drTail [.v (.loc 0), .v (.int m), .nil, w, .nil] (pool s p t q z)).out = .ok (.int r) S' ∧ PoolOk S' ∧ 0 ≤ r ∧ r < m := by
    intro p t q z w hp
    obtain ⟨r, S', e, hh⟩ := draw_tail (wf := wf) (n := n) (m := m) (p := p) (t := t) (q := q) (z := z) (s := s) (w := w) hp hs h0 h1
    exact ⟨r, S', by rw [e]; rfl, hh⟩
  rw [show f_l_draw.body = drHead :: drTail from rfl]
  rw [evB_cons]
  by_cases ht : t ≤ 0
  · by_cases hl : p < s.length
    · obtain ⟨x, hx⟩ : ∃ x, atI (s.map D.int) p = some (.int x) := by
        obtain ⟨k, rfl⟩ := Int.eq_ofNat_of_zero_le hp
        have hk : k < s.length := by omega
        exact ⟨s[k], by rw [atI_nat, List.getElem?_map, List.getElem?_eq_getElem hk]; rfl⟩
      by_cases hx1 : x < 1000000000000000000
      · obtain ⟨y, hy⟩ := l_spread (wf := wf) (n := n) (S := pool s (p + 1) x q z) (x := x)
        have := tail (p + 1) y q z (.v (.int x)) (by omega)
        simp [pool] at this hy ⊢
        simp [drHead, b_add, dr_l0, lstAt0, chg0, ixN, ht, hl, hx, hx1, hy, this]
      · have := tail (p + 1) x q z (.v (.int x)) (by omega)
        simp [pool] at this ⊢
        simp [drHead, b_add, dr_l0, lstAt0, chg0, ixN, ht, hl, hx, hx1, this]
    · have := tail p t q z .nil hp
      simp [pool] at this ⊢
      simp [drHead, b_add, dr_l0, lstAt0, chg0, ixN, ht, hl, this]
  · have := tail p t q z .nil hp
    simp [pool] at this ⊢
    simp [drHead, b_add, dr_l0, lstAt0, chg0, ixN, ht, this]
theorem l_pick {xs : List D} (h : PoolOk S) (h0 : xs ≠ []) (h1 : xs.length ≤ lim) : ∃ x S', ev wf (n + 3) 32 [.loc 0, .tup xs] S = .ok x S' ∧ PoolOk S' ∧ x ∈ xs := by
  have hl : 0 < xs.length := List.length_pos_iff.mpr h0
  obtain ⟨r, S', e, hS, r0, r1⟩ := l_draw (wf := wf) (n := n) (S := S) (m := (xs.length : Int)) h (by omega) (by unfold lim at h1; omega)
  obtain ⟨k, rfl⟩ := Int.eq_ofNat_of_zero_le r0
  have hk : k < xs.length := by omega
  refine ⟨xs[k], S', ?_, hS, List.getElem_mem hk⟩
  rw [show ev wf (n + 3) 32 [.loc 0, .tup xs] S = (evB (cx wf (n + 2)) f_l_pick.body [.v (.loc 0), .v (.tup xs)] S).out from rfl]
  have i1 : atI xs (k : Int) = some xs[k] := by rw [atI_nat, List.getElem?_eq_getElem hk]
  simp [f_l_pick, e, i1]
end
end K
end S_M82o
section S_M82p
set_option linter.all false
set_option maxRecDepth 100000
/-! M82p: weights of drawn data. -/
namespace K
open G T
open PySem
mutual
def W : D → Nat
  | .non => 0
  | .bl _ => 0
  | .int i => if i.natAbs < 10 ^ 30 then 0 else if i.natAbs < 10 ^ 40 then 10 ^ 5 else 10 ^ 9
  | .str s => if s.all (fun c => decide (c < 16 ^ 8)) then s.length else 10 ^ 9
  | .tup xs => WL xs
  | .lst xs => WL xs
  | .loc _ => 10 ^ 9
  | .exc _ _ => 10 ^ 9
def WL : List D → Nat
  | [] => 0
  | x :: xs => W x + 1 + WL xs
end
theorem WL_len : ∀ xs : List D, xs.length ≤ WL xs
  | [] => Nat.zero_le _
  | x :: xs => by
    have := WL_len xs
    simp only [WL, List.length_cons]
    omega
mutual
theorem W_fin : ∀ d : D, W d ≤ 10 ^ 6 → d.fin = true
  | .non, _ => rfl
  | .bl _, _ => rfl
  | .int _, _ => rfl
  | .loc _, h => by simp [W] at h
  | .exc _ _, h => by simp [W] at h
  | .str s, h => by
    simp only [W] at h
    split at h
    · rw [fin_str, decide_eq_true_eq]
      exact h
    · omega
  | .tup xs, h => by
    simp only [W] at h
    have := WL_len xs
    rw [fin_tup, W_finL xs h, Bool.and_true, decide_eq_true_eq]
    unfold flim
    omega
  | .lst xs, h => by
    simp only [W] at h
    have := WL_len xs
    rw [fin_lst, W_finL xs h, Bool.and_true, decide_eq_true_eq]
    unfold flim
    omega
theorem W_finL : ∀ xs : List D, WL xs ≤ 10 ^ 6 → D.finL xs = true
  | [], _ => rfl
  | x :: xs, h => by
    simp only [WL] at h
    rw [finL_cons, W_fin x (by omega), W_finL xs (by omega)]
    rfl
end
theorem log_le {a k : Nat} (h : a < 10 ^ 40) : a.log2 < 133 := by
  by_cases h0 : a = 0
  · subst h0; decide
  · rw [Nat.log2_lt h0]
    exact Nat.lt_of_lt_of_le h (by decide)
mutual
theorem W_py : ∀ d : D, W d ≤ 10 ^ 6 → d.py.showable = true ∧ d.py.leavesShort 41 = true ∧ d.py.bulk ≤ W d
  | .non, _ => ⟨rfl, rfl, Nat.le_refl _⟩
  | .bl _, _ => ⟨rfl, rfl, Nat.le_refl _⟩
  | .int i, h => by
    by_cases hi : i.natAbs < 10 ^ 40
    · have hl := log_le (k := 0) hi
      have ht := int_text_length_le10 (a := i) (k := 40) (by decide) hi
      refine ⟨?_, ?_, ?_⟩
      · simp only [D.py, PyData.showable]
        simp
        omega
      · simp only [D.py, PyData.leavesShort]
        simp
        have e : (PyData.shown (.int i)).length = (toString i).length := by
          simp only [PyData.shown]
          rw [ofString_length]
        omega
      · simp only [D.py, PyData.bulk]
        exact Nat.zero_le _
    · simp only [W] at h
      rw [if_neg (by omega), if_neg hi] at h
      omega
  | .loc _, h => by simp [W] at h
  | .exc _ _, h => by simp [W] at h
  | .str s, h => by
    simp only [W] at h
    split at h
    · rename_i hs
      refine ⟨rfl, ?_, ?_⟩
      · simp only [D.py, PyData.leavesShort]
        simpa using hs
      · simp only [D.py, PyData.bulk, W]
        rw [if_pos hs]
        simp
    · omega
  | .tup xs, h => by
    simp only [W] at h
    have := W_pyL xs h
    simpa only [D.py, PyData.showable, PyData.leavesShort, PyData.bulk, W] using this
  | .lst xs, h => by
    simp only [W] at h
    have := W_pyL xs h
    simpa only [D.py, PyData.showable, PyData.leavesShort, PyData.bulk, W] using this
theorem W_pyL : ∀ xs : List D, WL xs ≤ 10 ^ 6 → PyData.showableAll (D.pyL xs) = true ∧ PyData.leavesShortAll 41 (D.pyL xs) = true ∧ PyData.bulkAll (D.pyL xs) ≤ WL xs
  | [], _ => ⟨rfl, rfl, Nat.le_refl _⟩
  | x :: xs, h => by
    simp only [WL] at h
    obtain ⟨a1, a2, a3⟩ := W_py x (by omega)
    obtain ⟨b1, b2, b3⟩ := W_pyL xs (by omega)
    simp only [D.pyL, PyData.showableAll, PyData.leavesShortAll, PyData.bulkAll, WL, a1, a2, b1, b2]
    refine ⟨rfl, rfl, ?_⟩
    omega
end
theorem W_shown {d : D} (h : W d ≤ 380000) : d.py.shown.length ≤ lim := by
  obtain ⟨h1, h2, h3⟩ := W_py d (by omega)
  have := PyData.shown_le_bulk 41 (by decide) d.py h2
  unfold lim
  omega
end K
end S_M82p
section S_M82q
set_option linter.all false
set_option maxRecDepth 100000
/-! M82q: what a draw gives: rules. -/
namespace K
open G T
section
variable {α β : Type} {wf n : Nat} {S : List Cell} {sl : List Sl} {top : Int} {v a b c : D}
def Gd (m : Rs α) (P : α → Prop) : Prop := ∃ x S', m = .ok x S' ∧ PoolOk S' ∧ P x
def GF (m : Fl) (I : List Sl → Prop) (R : D → Prop) : Prop := (∃ sl S', m = .nx sl S' ∧ PoolOk S' ∧ I sl) ∨ (∃ d S', m = .ret d S' ∧ PoolOk S' ∧ R d)
theorem gd_ok {P : α → Prop} {x : α} (h : PoolOk S) (p : P x) : Gd (.ok x S) P := ⟨x, S, rfl, h, p⟩
theorem gd_bind {m : Rs α} {f : α → List Cell → Rs β} {P : α → Prop} {Q : β → Prop} (h : Gd m P) (k : ∀ x S, PoolOk S → P x → Gd (f x S) Q) : Gd (m.bind f) Q := by
  obtain ⟨x, S', rfl, h1, h2⟩ := h
  exact k x S' h1 h2
theorem gd_mono {m : Rs α} {P Q : α → Prop} (h : Gd m P) (k : ∀ x, P x → Q x) : Gd m Q := by
  obtain ⟨x, S', rfl, h1, h2⟩ := h
  exact ⟨x, S', rfl, h1, k x h2⟩
theorem gf_fl {m : Rs α} {f : α → List Cell → Fl} {P : α → Prop} {I R} (h : Gd m P) (k : ∀ x S, PoolOk S → P x → GF (f x S) I R) : GF (m.fl sl f) I R := by
  obtain ⟨x, S', rfl, h1, h2⟩ := h
  exact k x S' h1 h2
theorem gf_nxt {m : Fl} {g : List Sl → List Cell → Fl} {I' I : List Sl → Prop} {R} (h : GF m I' R) (k : ∀ sl S, PoolOk S → I' sl → GF (g sl S) I R) : GF (m.nxt g) I R := by
  rcases h with ⟨x, S', rfl, h1, h2⟩ | ⟨x, S', rfl, h1, h2⟩
  · exact k x S' h1 h2
  · exact .inr ⟨x, S', rfl, h1, h2⟩
theorem gf_nx {I R} (h : PoolOk S) (p : I sl) : GF (.nx sl S) I R := .inl ⟨_, _, rfl, h, p⟩
theorem gf_ret {I R} {d : D} (h : PoolOk S) (p : R d) : GF (.ret d S) I R := .inr ⟨_, _, rfl, h, p⟩
theorem gf_out {m : Fl} {R : D → Prop} (h : GF m (fun _ => R .non) R) : Gd m.out R := by
  rcases h with ⟨x, S', rfl, h1, h2⟩ | ⟨x, S', rfl, h1, h2⟩
  · exact ⟨_, _, rfl, h1, h2⟩
  · exact ⟨_, _, rfl, h1, h2⟩
@[simp] theorem bind_bind {γ : Type} {m : Rs α} {f : α → List Cell → Rs β} {g : β → List Cell → Rs γ} : (m.bind f).bind g = m.bind fun a S => (f a S).bind g := by cases m <;> rfl
@[simp] theorem bind_fl {m : Rs α} {f : α → List Cell → Rs β} {g : β → List Cell → Fl} : (m.bind f).fl sl g = m.fl sl fun a S => (f a S).fl sl g := by cases m <;> rfl
@[simp] theorem fl_nxt {m : Rs α} {f : α → List Cell → Fl} {g} : (m.fl sl f).nxt g = m.fl sl fun a S => (f a S).nxt g := by cases m <;> rfl
@[simp] theorem nxt_nxt {m : Fl} {f g} : (m.nxt f).nxt g = m.nxt fun sl S => (f sl S).nxt g := by cases m <;> rfl
theorem gf_for {f : D → List Sl → List Cell → Fl} {R : D → Prop} (I : Nat → List Sl → Prop) : ∀ (ds : List D) (k : Nat) (sl : List Sl) (S : List Cell), PoolOk S → I k sl → (∀ (j : Nat) d sl S, ds[j]? = some d → PoolOk S → I (k + j) sl → GF (f d sl S) (I (k + j + 1)) R) → GF (forL f ds sl S) (I (k + ds.length)) R
  | [], k, sl, S, h, hI, _ => gf_nx h hI
  | d :: ds, k, sl, S, h, hI, step => by
    rcases step 0 d sl S rfl h hI with ⟨sl', S', e, h1, h2⟩ | ⟨x, S', e, h1, h2⟩
    · unfold forL
      rw [e]
      have := gf_for I ds (k + 1) sl' S' h1 h2 fun j d' sl'' S'' z1 z2 z3 => by
        rw [show k + 1 + j = k + (j + 1) from by omega] at z3 ⊢
        exact step (j + 1) d' sl'' S'' (by simpa using z1) z2 z3
      rw [show k + (d :: ds).length = k + 1 + ds.length from by rw [List.length_cons]; omega]
      exact this
    · unfold forL
      rw [e]
      exact gf_ret h1 h2
theorem gd_comp {f : D → List Cell → Rs (Option D)} {P : D → Prop} : ∀ {ds : List D} {acc : List D} {S : List Cell}, PoolOk S → (∀ d ∈ ds, ∀ S, PoolOk S → Gd (f d S) fun o => ∀ y, o = some y → P y) → (∀ y ∈ acc, P y) → acc.length + ds.length ≤ lim → Gd (compL f ds S acc) fun ys => (∀ y ∈ ys, P y) ∧ ys.length ≤ acc.length + ds.length
  | [], acc, S, h, _, ha, _ => gd_ok h ⟨ha, by simp⟩
  | d :: ds, acc, S, h, hs, ha, hl => by
    rw [List.length_cons] at hl ⊢
    obtain ⟨o, S', e, h1, h2⟩ := hs d List.mem_cons_self S h
    unfold compL
    rw [e]
    cases o with
    | none => exact gd_mono (gd_comp h1 (fun d hd => hs d (List.mem_cons_of_mem _ hd)) ha (by omega)) fun x hx => ⟨hx.1, by omega⟩
    | some y =>
      dsimp only
      rw [if_pos (by omega)]
      refine gd_mono (gd_comp h1 (fun d hd => hs d (List.mem_cons_of_mem _ hd)) (acc := acc ++ [y]) ?_ (by rw [List.length_append, List.length_singleton]; omega)) fun x hx => ⟨hx.1, ?_⟩
      · intro z hz
        rcases List.mem_append.mp hz with hz | hz
        · exact ha z hz
        · rw [List.mem_singleton.mp hz]
          exact h2 y rfl
      · have := hx.2
        rw [List.length_append, List.length_singleton] at this
        omega
/-- exact length, where nothing is left out -/
theorem gd_compE {f : D → List Cell → Rs (Option D)} {P : D → Prop} : ∀ {ds : List D} {acc : List D} {S : List Cell}, PoolOk S → (∀ d ∈ ds, ∀ S, PoolOk S → Gd (f d S) fun o => ∃ y, o = some y ∧ P y) → (∀ y ∈ acc, P y) → acc.length + ds.length ≤ lim → Gd (compL f ds S acc) fun ys => (∀ y ∈ ys, P y) ∧ ys.length = acc.length + ds.length
  | [], acc, S, h, _, ha, _ => gd_ok h ⟨ha, by simp⟩
  | d :: ds, acc, S, h, hs, ha, hl => by
    rw [List.length_cons] at hl ⊢
    obtain ⟨o, S', e, h1, y, rfl, h2⟩ := hs d List.mem_cons_self S h
    unfold compL
    rw [e]
    dsimp only
    rw [if_pos (by omega)]
    refine gd_mono (gd_compE h1 (fun d hd => hs d (List.mem_cons_of_mem _ hd)) (acc := acc ++ [y]) ?_ (by rw [List.length_append, List.length_singleton]; omega)) fun x hx => ⟨hx.1, ?_⟩
    · intro z hz
      rcases List.mem_append.mp hz with hz | hz
      · exact ha z hz
      · rw [List.mem_singleton.mp hz]
        exact h2
    · have := hx.2
      rw [List.length_append, List.length_singleton] at this
      omega
theorem at_mem {xs : List D} {r : Int} (h0 : 0 ≤ r) (h1 : r < xs.length) : ∃ x, atI xs r = some x ∧ x ∈ xs := by
  obtain ⟨k, rfl⟩ := Int.eq_ofNat_of_zero_le h0
  have hk : k < xs.length := by omega
  exact ⟨xs[k], by rw [atI_nat, List.getElem?_eq_getElem hk], List.getElem_mem hk⟩
/-- a pick out of written items -/
theorem gd_at {xs : List D} {r : Int} {P : D → Prop} (h : PoolOk S) (h0 : 0 ≤ r) (h1 : r < xs.length) (p : ∀ x ∈ xs, P x) : Gd (.of S (atI xs r)) P := by
  obtain ⟨x, e, m⟩ := at_mem h0 h1
  rw [e]
  exact gd_ok h (p x m)
@[simp] theorem W_non : W .non = 0 := (rfl)
@[simp] theorem W_bl {b} : W (.bl b) = 0 := (rfl)
@[simp] theorem W_tup {xs} : W (.tup xs) = WL xs := (rfl)
@[simp] theorem W_lst {xs} : W (.lst xs) = WL xs := (rfl)
@[simp] theorem WL_nil : WL [] = 0 := (rfl)
@[simp] theorem WL_cons {x xs} : WL (x :: xs) = W x + 1 + WL xs := (rfl)
theorem WL_app : ∀ {xs ys : List D}, WL (xs ++ ys) = WL xs + WL ys
  | [], ys => by simp
  | x :: xs, ys => by rw [List.cons_append, WL_cons, WL_cons, WL_app]; omega
theorem WL_all {c : Nat} : ∀ {xs : List D}, (∀ x ∈ xs, W x ≤ c) → WL xs ≤ xs.length * (c + 1)
  | [], _ => by simp
  | x :: xs, h => by
    rw [WL_cons, List.length_cons, Nat.succ_mul]
    have h1 := h x List.mem_cons_self
    have h2 := WL_all (fun y hy => h y (List.mem_cons_of_mem _ hy)) (xs := xs)
    omega
theorem W_int {i : Int} (h : i.natAbs < 10 ^ 30) : W (.int i) = 0 := by
  simp only [W]
  rw [if_pos h]
theorem depL_all {c : Nat} : ∀ {xs : List D}, (∀ x ∈ xs, x.dep ≤ c) → D.depL xs ≤ c
  | [], _ => by simp
  | x :: xs, h => by
    rw [depL_cons]
    have h1 := h x List.mem_cons_self
    have h2 := depL_all (fun y hy => h y (List.mem_cons_of_mem _ hy)) (xs := xs)
    omega
theorem depL_app : ∀ {xs ys : List D}, D.depL (xs ++ ys) = max (D.depL xs) (D.depL ys)
  | [], ys => by simp
  | x :: xs, ys => by rw [List.cons_append, depL_cons, depL_cons, depL_app]; omega
/-- small -/
def Sm (w d : Nat) (x : D) : Prop := W x ≤ w ∧ x.dep ≤ d
theorem sm_mono {w d w' d' : Nat} {x : D} (h : Sm w d x) (h1 : w ≤ w') (h2 : d ≤ d') : Sm w' d' x := ⟨Nat.le_trans h.1 h1, Nat.le_trans h.2 h2⟩
theorem sm_fin {w d : Nat} {x : D} (h : Sm w d x) (h1 : w ≤ 10 ^ 6) : x.fin = true := W_fin x (Nat.le_trans h.1 h1)
theorem sm_pur {w d : Nat} {x : D} (h : Sm w d x) (h1 : w ≤ 10 ^ 6) : x.pur = true := fin_pur (sm_fin h h1)
theorem sm_int {i : Int} (h : i.natAbs < 10 ^ 30) : Sm 0 0 (.int i) := ⟨Nat.le_of_eq (W_int h), by simp⟩
theorem sm_tup {w d n : Nat} {xs : List D} (h : ∀ x ∈ xs, Sm w d x) (hn : xs.length ≤ n) : Sm (n * (w + 1)) (d + 1) (.tup xs) := by
  constructor
  · rw [W_tup]
    exact Nat.le_trans (WL_all fun x hx => (h x hx).1) (Nat.mul_le_mul_right _ hn)
  · rw [dep_tup]
    have := depL_all fun x hx => (h x hx).2
    omega
theorem sm_lst {w d n : Nat} {xs : List D} (h : ∀ x ∈ xs, Sm w d x) (hn : xs.length ≤ n) : Sm (n * (w + 1)) (d + 1) (.lst xs) := sm_tup (xs := xs) h hn
def isInt (lo hi : Int) (x : D) : Prop := ∃ r, x = .int r ∧ lo ≤ r ∧ r ≤ hi
theorem d_draw {m : Int} (h : PoolOk S) (h0 : 0 < m) (h1 : m < 2 ^ 63) : Gd (ev wf (n + 2) 31 [.loc 0, .int m] S) fun x => ∃ r, x = .int r ∧ 0 ≤ r ∧ r < m := by
  obtain ⟨r, S', e, hS, r0, r1⟩ := l_draw (wf := wf) (n := n) h h0 h1
  exact ⟨_, S', e, hS, r, rfl, r0, r1⟩
theorem d_pick {xs : List D} (h : PoolOk S) (h0 : xs ≠ []) (h1 : xs.length ≤ lim) : Gd (ev wf (n + 3) 32 [.loc 0, .tup xs] S) (· ∈ xs) := by
  obtain ⟨x, S', e, hS, m⟩ := l_pick (wf := wf) (n := n) h h0 h1
  exact ⟨x, S', e, hS, m⟩
theorem d_pickL {xs : List D} (h : PoolOk S) (h0 : xs ≠ []) (h1 : xs.length ≤ lim) : Gd (ev wf (n + 3) 32 [.loc 0, .lst xs] S) (· ∈ xs) := by
  have hl : 0 < xs.length := List.length_pos_iff.mpr h0
  rw [show ev wf (n + 3) 32 [.loc 0, .lst xs] S = (evB (cx wf (n + 2)) f_l_pick.body [.v (.loc 0), .v (.lst xs)] S).out from rfl]
  apply gf_out
  simp [f_l_pick]
  refine gf_fl (d_draw h (by omega) (by unfold lim at h1; omega)) fun x S h ⟨r, e, r0, r1⟩ => ?_
  subst e
  simp
  exact gf_fl (gd_at h r0 r1 fun x hx => hx) fun x S h hx => gf_ret h hx
theorem d_decision (h : PoolOk S) : Gd (ev wf (n + 3) 50 [.loc 0] S) (Sm 60 1) := by
  rw [show ev wf (n + 3) 50 [.loc 0] S = (evB (cx wf (n + 2)) f_l_decision.body [.v (.loc 0)] S).out from rfl]
  apply gf_out
  simp [f_l_decision]
  refine gf_fl (d_draw h (by decide) (by decide)) fun x S h ⟨r, e, r0, r1⟩ => ?_
  subst e
  simp
  refine gf_fl (d_draw h (by decide) (by decide)) fun x S h ⟨q, e, q0, q1⟩ => ?_
  subst e
  simp
  refine gf_fl (gd_at (P := Sm 60 1) h q0 (by simpa using q1) ?_) fun x S h hx => gf_ret h hx
  have wi : W (.int r) = 0 := W_int (by omega)
  intro x hm
  simp only [List.mem_cons, List.not_mem_nil, or_false] at hm
  rcases hm with rfl | rfl | rfl | rfl <;> refine ⟨?_, by simp⟩ <;> simp [wi] <;> decide
end
end K
end S_M82q
section S_M82r
set_option linter.all false
set_option maxRecDepth 100000
/-! M82r: small draws. -/
namespace K
open G T
section
variable {α β : Type} {wf n : Nat} {S : List Cell} {sl : List Sl} {top : Int} {v a b c : D}
theorem gf_whl {c : List Sl → List Cell → Rs Bool} {f : List Sl → List Cell → Fl} {R : D → Prop} {J : List Sl → Prop} (I : Nat → List Sl → Prop)
    (step : ∀ m sl S, PoolOk S → I m sl → (c sl S = .ok false S ∧ J sl) ∨ (c sl S = .ok true S ∧ GF (f sl S) (fun sl' => ∃ m', m' < m ∧ I m' sl') R)) : ∀ (n m : Nat) (sl : List Sl) (S : List Cell), m < n → PoolOk S → I m sl → GF (whlL c f n sl S) J R
  | 0, _, _, _, h, _, _ => by omega
  | n + 1, m, sl, S, h, hS, hI => by
    unfold whlL
    rcases step m sl S hS hI with ⟨e, j⟩ | ⟨e, g⟩
    · rw [e]
      exact gf_nx hS j
    · rw [e, fl_ok]
      rcases g with ⟨sl', S', e', h1, m', hm, h2⟩ | ⟨x, S', e', h1, h2⟩
      · simp only [if_true, e']
        exact gf_whl I step n m' sl' S' (by omega) h1 h2
      · simp only [if_true, e']
        exact gf_ret h1 h2
theorem d_prefix (h : PoolOk S) : Gd (ev wf (n + 3) 38 [.loc 0] S) fun x => ∃ i j, x = .tup [.int i, .int j] ∧ 0 ≤ i ∧ i < 2 ^ 40 ∧ 0 ≤ j ∧ j ≤ 16 := by
  rw [show ev wf (n + 3) 38 [.loc 0] S = (evB (cx wf (n + 2)) f_l_prefix.body [.v (.loc 0), .nil] S).out from rfl]
  apply gf_out
  simp [f_l_prefix]
  refine gf_fl (d_draw h (by decide) (by decide)) fun x S h ⟨r, e, r0, r1⟩ => ?_
  subst e
  have p1 := l_power (wf := wf) (n := n + 1) (S := S) (k := r) r0 (by omega)
  have p1' : (2 : Int) ^ r.toNat ≤ 2 ^ 16 := by
    have : (2 : Nat) ^ r.toNat ≤ 2 ^ 16 := Nat.pow_le_pow_right (by decide) (by omega)
    exact_mod_cast this
  have p0 : 0 < (2 : Int) ^ r.toNat := Int.pow_pos (by decide)
  simp [p1]
  refine gf_fl (d_draw h p0 (by omega)) fun x S h ⟨q, e, q0, q1⟩ => ?_
  subst e
  have p2 := l_power (wf := wf) (n := n + 1) (S := S) (k := 16 - r) (by omega) (by omega)
  have p2' : (2 : Int) ^ (16 - r).toNat ≤ 2 ^ 16 := by
    have : (2 : Nat) ^ (16 - r).toNat ≤ 2 ^ 16 := Nat.pow_le_pow_right (by decide) (by omega)
    exact_mod_cast this
  have p3 : 0 < (2 : Int) ^ (16 - r).toNat := Int.pow_pos (by decide)
  have sm : smallI q = true := by
    unfold smallI
    simp
    omega
  simp [p2, mul_small (Or.inl sm)]
  refine gf_ret h ⟨_, _, rfl, Int.mul_nonneg q0 (by omega), ?_, r0, by omega⟩
  have : q * (2 : Int) ^ (16 - r).toNat ≤ 2 ^ 16 * 2 ^ 16 := Int.mul_le_mul (by omega) p2' (by omega) (by decide)
  omega
theorem d_row {m : Int} (h : PoolOk S) (h0 : 0 ≤ m) (h1 : m ≤ 10) : Gd (ev wf (n + 3) 44 [.loc 0, .int m] S) (fun x => (∃ ys, x = .tup ys) ∧ Sm 10 1 x) := by
  rw [show ev wf (n + 3) 44 [.loc 0, .int m] S = (evB (cx wf (n + 2)) f_l_row.body [.v (.loc 0), .v (.int m), .nil] S).out from rfl]
  apply gf_out
  have hr : rngOk m = true := by
    unfold rngOk
    simp
    omega
  simp [f_l_row, pRng, hr]
  have hl : (upto 0 m.toNat).length = m.toNat := by simp [upto_eq]
  refine gf_fl (gd_compE (P := Sm 0 0) h ?_ (by simp) (by rw [hl]; simp [lim]; omega)) fun ys S h ⟨q1, q2⟩ => ?_
  · intro d hd S h
    simp [turn]
    refine gd_bind (d_draw h (by decide) (by decide)) fun x S h ⟨r, e, r0, r1⟩ => ?_
    subst e
    simp
    refine gd_bind (d_draw h (by decide) (by decide)) fun x S h ⟨q, e, q0, q1⟩ => ?_
    subst e
    simp
    refine gd_bind (gd_at (P := fun x => x.pur = true ∧ Sm 0 0 x) h q0 (by simpa using q1) ?_) fun x S h hx => ?_
    · intro x hm
      simp only [List.mem_cons, List.not_mem_nil, or_false] at hm
      rcases hm with rfl | rfl | rfl | rfl <;> exact ⟨by simp, sm_int (by omega)⟩
    · rw [if_pos hx.1]
      exact gd_ok h ⟨x, rfl, hx.2⟩
  · refine gf_ret h ⟨⟨_, rfl⟩, sm_mono (sm_tup (n := 10) q1 ?_) (by decide) (by decide)⟩
    rw [hl] at q2
    simp at q2
    omega
theorem d_action {ws : List D} {f : Bool} (h : PoolOk S) (hw : ∀ w ∈ ws, Sm 20 0 w) (hl : ws.length ≤ lim) : Gd (ev wf (n + 4) 51 [.loc 0, .lst ws, .bl f] S) (Sm 60 1) := by
  rw [show ev wf (n + 4) 51 [.loc 0, .lst ws, .bl f] S = (evB (cx wf (n + 3)) f_l_action.body [.v (.loc 0), .v (.lst ws), .v (.bl f), .nil] S).out from rfl]
  apply gf_out
  simp [f_l_action]
  refine gf_fl (d_draw h (by decide) (by decide)) fun x S h ⟨r, e, r0, r1⟩ => ?_
  subst e
  simp
  have tail' : ∀ S, PoolOk S → GF (if r < 7 then ((ev wf (n + 3) 31 [.loc 0, .int 3] S).fl [.v (.loc 0), .v (.lst ws), .v (.bl f), .v (.int r)] fun d S => if d.pur = true then .ret (.tup [.str s_mark, d]) S else .stk) else (ev wf (n + 3) 31 [.loc 0, .int 100] S).fl [.v (.loc 0), .v (.lst ws), .v (.bl f), .v (.int r)] fun d S => if d.pur = true then .ret (.tup [.str s_count, d]) S else .stk) (fun _ => Sm 60 1 .non) (Sm 60 1) := by
    intro S h
    split
    · refine gf_fl (d_draw h (by decide) (by decide)) fun x S h ⟨q, e, q0, q1⟩ => ?_
      subst e
      simp only [pur_int, if_true]
      have wi : W (.int q) = 0 := W_int (by omega)
      exact gf_ret h ⟨by simp [wi]; decide, by simp⟩
    · refine gf_fl (d_draw h (by decide) (by decide)) fun x S h ⟨q, e, q0, q1⟩ => ?_
      subst e
      simp only [pur_int, if_true]
      have wi : W (.int q) = 0 := W_int (by omega)
      exact gf_ret h ⟨by simp [wi]; decide, by simp⟩
  split
  · exact gf_fl (d_decision h) fun x S h hx => gf_ret h hx
  have tail2 : ∀ S, PoolOk S → GF (if r = 5 then if f = false then .ret (.tup [.str s_back]) S else (if r < 7 then ((ev wf (n + 3) 31 [.loc 0, .int 3] S).fl [.v (.loc 0), .v (.lst ws), .v (.bl f), .v (.int r)] fun d S => if d.pur = true then .ret (.tup [.str s_mark, d]) S else .stk) else (ev wf (n + 3) 31 [.loc 0, .int 100] S).fl [.v (.loc 0), .v (.lst ws), .v (.bl f), .v (.int r)] fun d S => if d.pur = true then .ret (.tup [.str s_count, d]) S else .stk)
      else (if r < 7 then ((ev wf (n + 3) 31 [.loc 0, .int 3] S).fl [.v (.loc 0), .v (.lst ws), .v (.bl f), .v (.int r)] fun d S => if d.pur = true then .ret (.tup [.str s_mark, d]) S else .stk) else (ev wf (n + 3) 31 [.loc 0, .int 100] S).fl [.v (.loc 0), .v (.lst ws), .v (.bl f), .v (.int r)] fun d S => if d.pur = true then .ret (.tup [.str s_count, d]) S else .stk)) (fun _ => Sm 60 1 .non) (Sm 60 1) := by
    intro S h
    split
    · split
      · exact gf_ret h ⟨by decide, by simp⟩
      · exact tail' S h
    · exact tail' S h
  split
  · split
    · rename_i hp
      refine gf_fl (d_pickL h (List.length_pos_iff.mp hp) hl) fun x S h hx => ?_
      have := fin_pur (sm_fin (hw x hx) (by decide))
      simp only [this, if_true]
      refine gf_ret h (sm_mono (w := 2 * 21) (sm_tup (w := 20) (d := 0) (n := 2) ?_ (by simp)) (by decide) (by decide))
      intro y hy
      simp only [List.mem_cons, List.not_mem_nil, or_false] at hy
      rcases hy with rfl | rfl
      · exact ⟨by decide, by simp⟩
      · exact hw _ hx
    · exact tail2 S h
  · exact tail2 S h
end
end K
end S_M82r
section S_M82s
set_option linter.all false
set_option maxRecDepth 100000
/-! M82s: drawn words, worlds, numbers. -/
namespace K
open G T
section
variable {α β : Type} {wf n : Nat} {S : List Cell} {sl : List Sl} {top : Int} {v a b c : D}
theorem Bd (i : Int) : (0 ≤ i ∧ i ≤ 100000) → Sm 0 0 (.int i) := fun h => sm_int (by omega)
def prOk (x : D) : Prop := ∃ i j : Int, x = .tup [.int i, .int j] ∧ 0 ≤ i ∧ i ≤ 100000 ∧ 0 ≤ j ∧ j ≤ 100000
theorem pr_sm {x : D} (h : prOk x) : Sm 2 1 x := by
  obtain ⟨i, j, rfl, h⟩ := h
  have w1 : W (.int i) = 0 := W_int (by omega)
  have w2 : W (.int j) = 0 := W_int (by omega)
  exact ⟨by simp [w1, w2], by simp⟩
theorem ixN_m1 {α} {xs : List α} {x : α} : ixN (xs ++ [x]).length (-1) = some xs.length := by
  unfold ixN
  rw [if_neg (by omega), List.length_append, List.length_singleton, if_pos (by omega)]
  congr 1
  omega
def runI (xs : List Int) (k : Nat) (sl : List Sl) : Prop := ∃ ys s, sl = [.v (.lst (xs.map .int)), .own ys, s] ∧ ys.length ≤ k ∧ ∀ z ∈ ys, prOk z
theorem d_runs {xs : List Int} (h : PoolOk S) (hx : ∀ x ∈ xs, 0 ≤ x ∧ x ≤ 100000) (hl : xs.length ≤ 10) : Gd (ev wf (n + 1) 35 [.lst (xs.map .int)] S) fun y => ∃ ys, y = .tup ys ∧ ys.length ≤ 10 ∧ ∀ z ∈ ys, prOk z := by
  rw [show ev wf (n + 1) 35 [.lst (xs.map .int)] S = (evB (cx wf n) f_l_runs.body [.v (.lst (xs.map .int)), .nil, .nil] S).out from rfl]
  apply gf_out
  have e1 : pB .sortset [.lst (xs.map .int)] = some (.lst ((srtI (ddup xs)).map .int)) := by
    have : asInts (xs.map .int) = some xs := by
      have := asInts_map (fun x : Int => x) xs
      simpa using this
    show (if (xs.map D.int).length ≤ setLim then (asInts (xs.map .int)).map _ else none) = _
    rw [if_pos (by rw [List.length_map]; unfold setLim; omega), this]
    rfl
  simp [f_l_runs, e1]
  have hs : ∀ x ∈ srtI (ddup xs), 0 ≤ x ∧ x ≤ 100000 := fun x hm => hx x (ddup_mem.mp (srtB_mem.mp hm))
  have hn : (srtI (ddup xs)).length ≤ 10 := by
    unfold srtI
    rw [srtB_len]
    exact Nat.le_trans (ddup_le _) hl
  generalize srtI (ddup xs) = zs at hs hn
  refine gf_nxt (gf_for (runI xs) _ 0 _ S h ⟨[], .nil, rfl, by simp, by simp⟩ ?_) ?_
  · rintro k d sl S hd h ⟨ys, s, rfl, y1, y2⟩
    rw [List.getElem?_map] at hd
    obtain ⟨x, hx', rfl⟩ := Option.map_eq_some_iff.mp hd
    have bx := hs x (List.mem_of_getElem? hx')
    have hk : k < zs.length := (List.getElem?_eq_some_iff.mp hx').1
    have hlim : ys.length < lim := by unfold lim; omega
    rcases List.eq_nil_or_concat ys with rfl | ⟨us, u, rfl⟩
    · simp [turnS, lstAt, chg]
      rw [if_pos (by decide)]
      exact gf_nx h ⟨_, _, rfl, by simp, fun z hz => by rw [List.mem_singleton.mp hz]; exact ⟨x, x, rfl, bx.1, bx.2, bx.1, bx.2⟩⟩
    · obtain ⟨i, j, rfl, b1, b2, b3, b4⟩ := y2 u (by simp)
      have hp : (0 : Int) < ((us.concat (.tup [.int i, .int j])).length : Int) := by simp
      simp only [List.concat_eq_append] at *
      simp [turnS, atI_m1, hp, add_int]
      have hp' : (0 : Int) < (us.length : Int) + 1 := by omega
      by_cases hj : j + 1 = x
      · simp [hj, hp', lstAt, chg]
        have := ixN_m1 (xs := us) (x := D.tup [.int i, .int j])
        rw [List.length_append, List.length_singleton] at this
        simp [this]
        refine gf_nx h ⟨_, _, rfl, by simp at y1 ⊢; omega, fun z hz => ?_⟩
        rcases List.mem_append.mp hz with hz | hz
        · exact y2 z (by simp [hz])
        · rw [List.mem_singleton.mp hz]
          exact ⟨i, x, rfl, b1, b2, bx.1, bx.2⟩
      · simp [hj, hp', lstAt, chg]
        rw [if_pos (by simp at hlim; omega)]
        refine gf_nx h ⟨_, _, rfl, by simp at y1 ⊢; omega, fun z hz => ?_⟩
        simp only [List.mem_append, List.mem_cons, List.not_mem_nil, or_false] at hz
        rcases hz with hz | rfl | rfl
        · exact y2 z (by simp [hz])
        · exact ⟨i, j, rfl, b1, b2, b3, b4⟩
        · exact ⟨x, x, rfl, bx.1, bx.2, bx.1, bx.2⟩
  · rintro sl S h ⟨ys, s, rfl, y1, y2⟩
    simp
    refine gf_ret h ⟨ys, rfl, ?_, y2⟩
    simp at y1
    omega
theorem runs_sm {y : D} (h : ∃ ys, y = .tup ys ∧ ys.length ≤ 10 ∧ ∀ z ∈ ys, prOk z) : Sm 30 2 y := by
  obtain ⟨ys, rfl, h1, h2⟩ := h
  exact sm_mono (sm_tup (fun z hz => pr_sm (h2 z hz)) h1) (by decide) (by decide)
/-- a world's form -/
def worldOk (x : D) : Prop := ∃ b p t : Int, x = .tup [.tup [.int b, .int (b + 1), .int (b + 300)], .tup [.int p, .int 80], .int t] ∧ 0 ≤ b ∧ b ≤ 65234 ∧ 0 ≤ p ∧ p ≤ 65535 ∧ 0 ≤ t ∧ t ≤ 3
theorem d_world (h : PoolOk S) : Gd (ev wf (n + 3) 60 [.loc 0] S) worldOk := by
  rw [show ev wf (n + 3) 60 [.loc 0] S = (evB (cx wf (n + 2)) f_l_slim_world.body [.v (.loc 0), .nil] S).out from rfl]
  apply gf_out
  simp [f_l_slim_world]
  refine gf_fl (d_draw h (by decide) (by decide)) fun x S h ⟨r, e, r0, r1⟩ => ?_
  subst e
  simp
  refine gf_fl (d_draw h (by decide) (by decide)) fun x S h ⟨q, e, q0, q1⟩ => ?_
  subst e
  simp
  refine gf_fl (gd_at (P := fun x => ∃ b, x = .int b ∧ 0 ≤ b ∧ b ≤ 65234) h q0 (by simpa using q1) ?_) fun x S h ⟨b, e, b0, b1⟩ => ?_
  · intro x hm
    simp only [List.mem_cons, List.not_mem_nil, or_false] at hm
    rcases hm with rfl | rfl | rfl
    · exact ⟨r, rfl, r0, by omega⟩
    · exact ⟨_, rfl, by decide, by decide⟩
    · exact ⟨_, rfl, by decide, by decide⟩
  subst e
  simp
  refine gf_fl (d_draw h (by decide) (by decide)) fun x S h ⟨p, e, p0, p1⟩ => ?_
  subst e
  simp
  refine gf_fl (d_draw h (by decide) (by decide)) fun x S h ⟨u, e, u0, u1⟩ => ?_
  subst e
  simp
  refine gf_fl (gd_at (P := fun x => ∃ b, x = .int b ∧ 0 ≤ b ∧ b ≤ 3) h u0 (by simpa using u1) ?_) fun x S h ⟨t, e, t0, t1⟩ => ?_
  · intro x hm
    simp only [List.mem_cons, List.not_mem_nil, or_false] at hm
    rcases hm with rfl | rfl | rfl | rfl | rfl | rfl | rfl | rfl <;> exact ⟨_, rfl, by decide, by decide⟩
  subst e
  simp
  exact gf_ret h ⟨b, p, t, rfl, b0, b1, p0, by omega, t0, t1⟩
theorem d_numbers {f : List Nat} {t : Int} (h : PoolOk S) (hf : sTop f = some t) (t0 : 0 ≤ t) (ht : t ≤ 7 ∨ f = s_kind) : Gd (ev wf (n + 4) 61 [.loc 0, .str f] S) (Sm 30 2) := by
  rw [show ev wf (n + 4) 61 [.loc 0, .str f] S = (evB (cx wf (n + 3)) f_l_slim_numbers.body [.v (.loc 0), .v (.str f), .nil, .nil] S).out from rfl]
  apply gf_out
  by_cases c1 : f = s_interface ∨ f = s_side
  · have e1 : pCmp .isin (.str f) (.tup [.str s_interface, .str s_side]) = some true := by
      rw [cmp_in_tup (by simp) (by simp)]
      rcases c1 with rfl | rfl <;> rfl
    simp [f_l_slim_numbers, e1]
    refine gf_fl (d_draw h (by decide) (by decide)) fun x S h ⟨r, e, r0, r1⟩ => ?_
    subst e
    simp
    refine gf_fl (gd_at (P := Sm 30 2) h r0 (by simpa using r1) ?_) fun x S h hx => gf_ret h hx
    intro x hm
    simp only [List.mem_cons, List.not_mem_nil, or_false] at hm
    rcases hm with rfl | rfl <;> exact ⟨by decide, by decide⟩
  · have e1 : pCmp .isin (.str f) (.tup [.str s_interface, .str s_side]) = some false := by
      rw [cmp_in_tup (by simp) (by simp)]
      simp only [not_or] at c1
      simp [Ne.symm c1.1, Ne.symm c1.2]
    by_cases c2 : f = s_kind
    · simp [f_l_slim_numbers, e1, c2] at *
      simp [f_l_slim_numbers, e1, c2]
      refine gf_fl (d_draw h (by decide) (by decide)) fun x S h ⟨r, e, r0, r1⟩ => ?_
      subst e
      simp
      refine gf_fl (gd_at (P := Sm 30 2) h r0 (by simpa using r1) ?_) fun x S h hx => gf_ret h hx
      intro x hm
      simp only [List.mem_cons, List.not_mem_nil, or_false] at hm
      rcases hm with rfl | rfl | rfl | rfl | rfl | rfl <;> exact ⟨by decide, by decide⟩
    · have ht : t ≤ 7 := ht.resolve_right c2
      simp [f_l_slim_numbers, e1, c2]
      refine gf_fl (d_draw h (by decide) (by decide)) fun x S h ⟨r, e, r0, r1⟩ => ?_
      subst e
      have hr : rngOk (t + 1) = true := by
        unfold rngOk
        simp
        omega
      simp [l_topOf hf, pRng, hr]
      have hm : ∃ m : Nat, (t + 1).toNat = m ∧ m ≤ 8 := ⟨_, rfl, by omega⟩
      obtain ⟨m, hm, m8⟩ := hm
      rw [hm]
      have hu : (upto 0 m).length = m := by simp [upto_eq]
      rw [compF (fun d => match d with | .int k => decide ((r / 2 ^ k.toNat) % 2 = 1) | _ => false) (fun d => d) (hl := ?hl) (h := ?h)]
      case hl => rw [hu]; unfold lim; omega
      case h =>
        intro d hd
        rw [upto_eq] at hd
        obtain ⟨k, hk, rfl⟩ := List.mem_map.mp hd
        have hk := List.mem_range.mp hk
        have p0 : 0 < (2 : Int) ^ ((0 : Int) + k).toNat := Int.pow_pos (by decide)
        have p1 : (2 : Int) ^ ((0 : Int) + k).toNat < 2 ^ 63 := by
          have : (2 : Nat) ^ ((0 : Int) + k).toNat ≤ 2 ^ 16 := Nat.pow_le_pow_right (by decide) (by omega)
          have : (2 : Int) ^ ((0 : Int) + k).toNat ≤ 2 ^ 16 := by exact_mod_cast this
          omega
        have lp := l_power (wf := wf) (n := n + 2) (S := S) (k := (0 : Int) + k) (by omega) (by omega)
        have f1 := fdiv_pos (i := r) p0 p1
        have m1 := mod_pos (i := r / (2 : Int) ^ ((0 : Int) + k).toNat) (j := 2) (by decide)
        simp only [Int.zero_add, Int.toNat_natCast] at lp f1 m1
        simp [turn, lp, f1, m1]
        split <;> rfl
      have e5 : ((upto 0 m).filter fun d => match d with | .int k => decide ((r / 2 ^ k.toNat) % 2 = 1) | _ => false).map (fun d => d) = (((List.range m).map fun k : Nat => (k : Int)).filter fun k => decide ((r / 2 ^ k.toNat) % 2 = 1)).map .int := by
        rw [upto_eq, List.map_id', List.filter_map, List.filter_map, List.map_map]
        simp [Function.comp_def]
      rw [e5]
      simp
      refine gf_fl (d_runs h (fun x hx => ?_) ?_) fun x S h hx => gf_ret h (runs_sm hx)
      · obtain ⟨hx, _⟩ := List.mem_filter.mp hx
        obtain ⟨k, hk, rfl⟩ := List.mem_map.mp hx
        have := List.mem_range.mp hk
        omega
      · refine Nat.le_trans (List.length_filter_le _ _) ?_
        simp
        omega
end
end K
end S_M82s
section S_M82t
set_option linter.all false
set_option maxRecDepth 100000
/-! M82t: drawn words of chains. -/
namespace K
open G T
section
variable {α β : Type} {wf n : Nat} {S : List Cell} {sl : List Sl} {top : Int} {v a b c : D}
def letter (c : Nat) : Prop := 97 ≤ c ∧ c ≤ 122
theorem abc_at {i : Int} (h0 : 0 ≤ i) (h1 : i < 26) : ∃ c, atI s_abcdefghijklmnopqrst i = some c ∧ letter c := by
  obtain ⟨k, rfl⟩ := Int.eq_ofNat_of_zero_le h0
  have hk : k < 26 := by omega
  rw [atI_nat]
  have : ∀ k, k < 26 → ∃ c, s_abcdefghijklmnopqrst[k]? = some c ∧ 97 ≤ c ∧ c ≤ 122 := by
    intro k hk
    have : ∀ k : Fin 26, (match s_abcdefghijklmnopqrst[k.val]? with | some c => decide (97 ≤ c) && decide (c ≤ 122) | none => false) = true := by decide
    have := this ⟨k, hk⟩
    dsimp only at this
    split at this
    · rename_i c hc
      exact ⟨c, hc, by simpa using this⟩
    · cases this
  exact this k hk
def spI (z : Int) (K : Nat) (m : Nat) (sl : List Sl) : Prop := ∃ s : List Nat, ∃ l : Int, sl = [.v (.int z), .v (.str s), .v (.int l)] ∧ l < 26 ^ m ∧ s.length + m ≤ K ∧ ∀ c ∈ s, letter c
theorem d_spelled {z : Int} {K : Nat} (h : PoolOk S) (hz : z < 26 ^ K) (hK : K ≤ 20) (hw : 50 ≤ wf) : Gd (ev wf (n + 1) 52 [.int z] S) fun x => ∃ s, x = .str s ∧ s.length ≤ K ∧ ∀ c ∈ s, letter c := by
  rw [show ev wf (n + 1) 52 [.int z] S = (evB (cx wf n) f_l_spelled.body [.v (.int z), .nil, .nil] S).out from rfl]
  apply gf_out
  simp [f_l_spelled]
  refine gf_nxt (gf_whl (J := fun sl => ∃ s l, sl = [.v (.int z), .v (.str s), .v (.int l)] ∧ s.length ≤ K ∧ ∀ c ∈ s, letter c) (spI z K) ?_ wf K _ S (by omega) h ⟨s_, z, rfl, hz, by simp [s_], by simp [s_]⟩) ?_
  · rintro m sl S h ⟨s, l, rfl, h1, h2, h3⟩
    by_cases hl : 0 < l
    · refine .inr ⟨by simp [hl], ?_⟩
      have hm : m ≠ 0 := by
        rintro rfl
        simp at h1
        omega
      obtain ⟨m, rfl⟩ := Nat.exists_eq_succ_of_ne_zero hm
      obtain ⟨c, hc, lc⟩ := abc_at (i := (l - 1) % 26) (Int.emod_nonneg _ (by decide)) (Int.emod_lt_of_pos _ (by decide))
      have ha : pBin .add (.str [c]) (.str s) = some (.str (c :: s)) := by
        rw [add_str (by simp [lim]; omega)]
        rfl
      simp [mod_pos (j := 26) (by decide), fdiv_pos (j := 26) (by decide) (by decide), hc, ha]
      refine gf_nx h ⟨m, by omega, _, _, rfl, ?_, by simp; omega, ?_⟩
      · rw [Int.ediv_lt_iff_lt_mul (by decide)]
        have : (26 : Int) ^ (m + 1) = 26 ^ m * 26 := Int.pow_succ _ _
        omega
      · intro d hd
        rcases List.mem_cons.mp hd with rfl | hd
        · exact lc
        · exact h3 d hd
    · exact .inl ⟨by simp [hl], s, l, rfl, by omega, h3⟩
  · rintro sl S h ⟨s, l, rfl, h1, h2⟩
    simp
    exact gf_ret h ⟨s, rfl, h1, h2⟩
def wordOk (x : D) : Prop := ∃ s, x = .str s ∧ s.length ≤ 13 ∧ ∀ c ∈ s, letter c
theorem word_sm {x : D} (h : wordOk x) : Sm 20 0 x := by
  obtain ⟨s, rfl, h1, h2⟩ := h
  refine ⟨?_, by simp⟩
  have : s.all (fun c => decide (c < 16 ^ 8)) = true := by
    rw [List.all_eq_true]
    intro c hc
    have := h2 c hc
    unfold letter at this
    simp
    omega
  simp only [W]
  rw [if_pos this]
  omega
/-- how many are that great -/
def cntGe (xs : List Int) (i : Int) : Nat := (xs.filter fun x => decide (i ≤ x)).length
theorem cnt_step {xs : List Int} {i : Int} (h : i ∈ xs) : cntGe xs (i + 1) < cntGe xs i := by
  unfold cntGe
  induction xs with
  | nil => cases h
  | cons y ys ih =>
    have mono : ∀ ys : List Int, (ys.filter fun x => decide (i + 1 ≤ x)).length ≤ (ys.filter fun x => decide (i ≤ x)).length := by
      intro ys
      induction ys with
      | nil => simp
      | cons y ys ih =>
        rw [List.filter_cons, List.filter_cons]
        by_cases h1 : i + 1 ≤ y
        · simp [h1, show i ≤ y by omega]
          exact ih
        · by_cases h2 : i ≤ y
          · simp [h1, h2]
            omega
          · simp [h1, h2]
            exact ih
    rw [List.filter_cons, List.filter_cons]
    rcases List.mem_cons.mp h with rfl | h
    · have := mono ys
      simp
      rw [if_neg (by omega)]
      omega
    · have := ih h
      by_cases h1 : i + 1 ≤ y
      · simp [h1, show i ≤ y by omega]
        exact this
      · by_cases h2 : i ≤ y
        · simp [h1, h2]
          omega
        · simp [h1, h2]
          exact this
def cwI (m : Int) (k : Nat) (sl : List Sl) : Prop := ∃ xs : List Int, ∃ s3 s4, sl = [.v (.loc 0), .v (.int m), .own (xs.map .int), s3, s4] ∧ xs.length = k ∧ ∀ x ∈ xs, x < 26 ^ 13
def cwJ (m : Int) (xs : List Int) (q : Sl) (k : Nat) (sl : List Sl) : Prop := ∃ i : Int, sl = [.v (.loc 0), .v (.int m), .own (xs.map .int), q, .v (.int i)] ∧ cntGe xs i ≤ k ∧ i + k < 26 ^ 13
theorem in_ints {i : Int} {xs : List Int} : pCmp .isin (.int i) (.lst (xs.map .int)) = some (decide (i ∈ xs)) := by
  rw [cmp_in_lst (by simp) (by simp), List.any_map]
  congr 1
  induction xs with
  | nil => rfl
  | cons y ys ih =>
    rw [List.any_cons, ih]
    by_cases h : y = i
    · simp [h]
    · simp [h, Ne.symm h]
theorem d_words {m : Int} (h : PoolOk S) (h0 : 0 ≤ m) (h1 : m ≤ 10) (hw : 50 ≤ wf) : Gd (ev wf (n + 3) 53 [.loc 0, .int m] S) fun x => ∃ ws, x = .lst ws ∧ (ws.length : Int) = m ∧ ∀ w ∈ ws, wordOk w := by
  rw [show ev wf (n + 3) 53 [.loc 0, .int m] S = (evB (cx wf (n + 2)) f_l_chain_words.body [.v (.loc 0), .v (.int m), .nil, .nil, .nil] S).out from rfl]
  apply gf_out
  have hr : rngOk m = true := by
    unfold rngOk
    simp
    omega
  have hu : (upto 0 m.toNat).length = m.toNat := by simp [upto_eq]
  simp [f_l_chain_words, pRng, hr]
  refine gf_nxt (gf_for (cwI m) (upto 0 m.toNat) 0 _ S h ⟨[], .nil, .nil, rfl, rfl, by simp⟩ ?_) ?_
  · rintro k d sl S hd h ⟨xs, s3, s4, rfl, hx, hb⟩
    have hk : k < m.toNat := by
      have := (List.getElem?_eq_some_iff.mp hd).1
      omega
    simp [turnS]
    refine gf_fl (d_draw h (by decide) (by decide)) fun x S h ⟨r, e, r0, r1⟩ => ?_
    subst e
    simp
    refine gf_fl (gd_at (P := fun x => ∃ b, x = .int b ∧ 0 < b ∧ b ≤ 95428956661682176) h r0 (by simpa using r1) ?_) fun x S h ⟨b, e, b0, b1⟩ => ?_
    · intro x hm
      simp only [List.mem_cons, List.not_mem_nil, or_false] at hm
      rcases hm with rfl | rfl | rfl | rfl <;> exact ⟨_, rfl, by decide, by decide⟩
    subst e
    refine gf_fl (d_draw h b0 (by omega)) fun x S h ⟨q, e, q0, q1⟩ => ?_
    subst e
    simp
    refine gf_nxt (gf_whl (J := fun sl => ∃ i : Int, sl = [.v (.loc 0), .v (.int m), .own (xs.map .int), .v d, .v (.int i)] ∧ i < 26 ^ 13) (cwJ m xs (.v d)) ?_ wf xs.length _ S (by omega) h ⟨1 + q, rfl, List.length_filter_le _ _, by omega⟩) ?_
    · rintro k sl S h ⟨i, rfl, c1, c2⟩
      by_cases hi : i ∈ xs
      · refine .inr ⟨by simp [in_ints, hi], ?_⟩
        have := cnt_step hi
        simp
        exact gf_nx h ⟨k - 1, by omega, i + 1, rfl, by omega, by omega⟩
      · exact .inl ⟨by simp [in_ints, hi], i, rfl, by omega⟩
    · rintro sl S h ⟨i, rfl, hi⟩
      simp [lstAt, chg]
      rw [if_pos (by unfold lim; omega)]
      refine gf_nx h ⟨xs ++ [i], .v d, .v (.int i), by simp, by simp; omega, ?_⟩
      intro x hx
      rcases List.mem_append.mp hx with hx | hx
      · exact hb x hx
      · rw [List.mem_singleton.mp hx]
        exact hi
  · rintro sl S h ⟨xs, s3, s4, rfl, hx, hb⟩
    rw [hu] at hx
    simp
    refine gf_fl (gd_compE (P := wordOk) h ?_ (by simp) (by simp [lim]; omega)) fun ys S h ⟨q1, q2⟩ => ?_
    · intro d hd S h
      obtain ⟨x, hx, rfl⟩ := List.mem_map.mp hd
      simp [turn]
      refine gd_bind (d_spelled (K := 13) h (hb x hx) (by decide) hw) fun x S h ⟨s, e, hs⟩ => ?_
      subst e
      simp
      exact gd_ok h ⟨_, rfl, s, rfl, hs⟩
    · refine gf_ret h ⟨ys, rfl, ?_, q1⟩
      simp at q2
      omega
end
end K
end S_M82t
section S_M82u
set_option linter.all false
set_option maxRecDepth 100000
/-! M82u: drawn conditions, books. -/
namespace K
open G T
section
variable {α β : Type} {wf n : Nat} {S : List Cell} {sl : List Sl} {top : Int} {v a b c : D}
/-- fields that a draw tells, ahead of heavy -/
def fld1 : List (List Nat) := [s_talk, s_interface, s_flags, s_side, s_kind, s_mark, s_heavy]
def fld2 : List (List Nat) := [s_talk, s_interface, s_flags, s_side, s_kind, s_mark, s_source, s_destination, s_sport, s_dport, s_length, s_code]
def cnI (w : D) (m : Int) (k : Nat) (sl : List Sl) : Prop := ∃ xs s4 s5 s6 s7 s8 s9, sl = [.v (.loc 0), .v w, .v (.int m), .own xs, s4, s5, s6, s7, s8, s9] ∧ xs.length ≤ k ∧ ∀ x ∈ xs, Sm 43 3 x
def cnA (w : D) (m : Int) (xs : List D) (F : List (List Nat)) (sl : List Sl) : Prop := ∃ s4 f s6 s7 s8 s9, sl = [.v (.loc 0), .v w, .v (.int m), .own xs, s4, .v (.str f), s6, s7, s8, s9] ∧ f ∈ F
def cnB (w : D) (m : Int) (xs : List D) (sl : List Sl) : Prop := ∃ s4 f t s7 s8 s9, sl = [.v (.loc 0), .v w, .v (.int m), .own xs, s4, .v (.str f), .v (.int t), s7, s8, s9] ∧ f ∈ fld2 ∧ 0 ≤ t ∧ t ≤ 3
def cnC (w : D) (m : Int) (xs : List D) (sl : List Sl) : Prop := ∃ s4 f t x s8 s9, sl = [.v (.loc 0), .v w, .v (.int m), .own xs, s4, .v (.str f), .v (.int t), .v x, s8, s9] ∧ f ∈ fld2 ∧ 0 ≤ t ∧ t ≤ 3 ∧ Sm 30 2 x
theorem fld_str {F : List (List Nat)} (h : ∀ f ∈ F, f.length ≤ 11 ∧ f.all (fun c => decide (c < 16 ^ 8)) = true) {f : List Nat} (hf : f ∈ F) : Sm 11 0 (.str f) := by
  obtain ⟨h1, h2⟩ := h f hf
  refine ⟨?_, by simp⟩
  simp only [W]
  rw [if_pos h2]
  exact h1
theorem depL_strs : ∀ {F : List (List Nat)}, D.depL (F.map .str) = 0
  | [] => rfl
  | f :: F => by rw [List.map_cons, depL_cons, depL_strs]; simp
theorem in_strs {f : List Nat} {F : List (List Nat)} : pCmp .isin (.str f) (.tup (F.map .str)) = some (decide (f ∈ F)) := by
  rw [cmp_in_tup (by simp) (by rw [depL_strs]; omega), List.any_map]
  congr 1
  induction F with
  | nil => rfl
  | cons y ys ih =>
    rw [List.any_cons, ih]
    by_cases h : y = f
    · simp [h]
    · simp [h, Ne.symm h]
theorem d_conds {w : D} {m : Int} (h : PoolOk S) (hwd : worldOk w) (h0 : 0 ≤ m) (h1 : m ≤ 5) : Gd (ev wf (n + 5) 62 [.loc 0, w, .int m] S) fun x => ∃ xs, x = .tup xs ∧ xs.length ≤ 6 ∧ ∀ z ∈ xs, Sm 43 3 z := by
  rw [show ev wf (n + 5) 62 [.loc 0, w, .int m] S = (evB (cx wf (n + 4)) f_l_slim_conditions.body [.v (.loc 0), .v w, .v (.int m), .nil, .nil, .nil, .nil, .nil, .nil, .nil] S).out from rfl]
  apply gf_out
  simp only [f_l_slim_conditions, evB_cons, evB_nil, evS_setO, evE_lst, evL_nil, bind_ok, List.all_nil, if_true, fl_ok, flO_lst, nxt_nx, evS_for, evI_rng, evL_cons, bind_fl, bind_bind, evE_cal, evE_v, evE_ix, evE_tup, evE_bin, List.set_cons_succ, List.set_cons_zero, List.getElem?_cons_zero, List.getElem?_cons_succ, slV_v, evE_k, dr_int, add_int, of_some, call_cx, fl_nxt, List.all_cons, pur_int, Bool.and_self, dr_tup]
  refine gf_fl (d_draw h (by decide) (by decide)) fun x S h ⟨r, e, r0, r1⟩ => ?_
  subst e
  simp only [ix_tup]
  refine gf_fl (gd_at (P := fun x => ∃ b, x = .int b ∧ 0 < b ∧ b ≤ 6) h r0 (by simpa using r1) ?_) fun x S h ⟨b, e, b0, b1⟩ => ?_
  · intro x hm
    simp only [List.mem_cons, List.not_mem_nil, or_false] at hm
    rcases hm with rfl | rfl | rfl
    · exact ⟨_, rfl, by omega, by omega⟩
    · exact ⟨_, rfl, by omega, by omega⟩
    · exact ⟨_, rfl, by decide, by decide⟩
  subst e
  refine gf_fl (d_draw h b0 (by omega)) fun x S h ⟨q, e, q0, q1⟩ => ?_
  subst e
  have hr : rngOk q = true := by
    unfold rngOk
    simp
    omega
  have hu : (upto 0 q.toNat).length = q.toNat := by simp [upto_eq]
  simp only [pRng, hr, if_true, of_some, fl_ok]
  refine gf_nxt (gf_for (cnI w m) (upto 0 q.toNat) 0 _ S h ⟨[], _, _, _, _, _, _, rfl, by simp, by simp⟩ ?_) ?_
  · rintro k d sl S hd h ⟨xs, s4, s5, s6, s7, s8, s9, rfl, hx, hb⟩
    have hk : k < q.toNat := by
      have := (List.getElem?_eq_some_iff.mp hd).1
      omega
    simp only [turnS, tgSet_s, List.set_cons_succ, List.set_cons_zero, evB_cons]
    -- the field
    refine gf_nxt (I' := cnA w m xs fld1) ?_ ?_
    · simp
      refine gf_fl (d_draw h (by decide) (by decide)) fun x S h ⟨r, e, r0, r1⟩ => ?_
      subst e
      simp
      refine gf_fl (gd_at (P := fun x => ∃ f, x = .str f ∧ f ∈ fld1) h r0 (by simpa using r1) ?_) fun x S h ⟨f, e, hf⟩ => ?_
      · intro x hm
        simp only [List.mem_cons, List.not_mem_nil, or_false] at hm
        rcases hm with rfl | rfl | rfl | rfl | rfl | rfl | rfl | rfl | rfl | rfl | rfl | rfl <;> exact ⟨_, rfl, by decide⟩
      subst e
      exact gf_nx h ⟨_, _, _, _, _, _, rfl, hf⟩
    clear h
    rintro sl S h ⟨s4, f, s6, s7, s8, s9, rfl, hf⟩
    obtain ⟨wb, wp, wt, rfl, w1, w2, w3, w4, w5, w6⟩ := hwd
    -- heavy
    refine gf_nxt (I' := cnA (.tup [.tup [.int wb, .int (wb + 1), .int (wb + 300)], .tup [.int wp, .int 80], .int wt]) m xs fld2) ?_ ?_
    · by_cases hh : f = s_heavy
      · subst hh
        by_cases h3 : wt = 3
        · subst h3
          have hsl : pSl (.tup [.str s_source, .str s_destination, .str s_sport, .str s_dport, .str s_length, .str s_code, .str s_talk, .str s_talk, .str s_talk, .str s_side]) none (some 6) = some (.tup [.str s_source, .str s_destination, .str s_sport, .str s_dport, .str s_length, .str s_code]) := rfl
          simp [hsl]
          refine gf_fl (d_pick h (by simp) (by simp [lim])) fun x S h hx => ?_
          have : ∃ f, x = .str f ∧ f ∈ fld2 := by
            simp only [List.mem_cons, List.not_mem_nil, or_false] at hx
            rcases hx with rfl | rfl | rfl | rfl | rfl | rfl <;> exact ⟨_, rfl, by decide⟩
          obtain ⟨f, rfl, hf⟩ := this
          exact gf_nx h ⟨_, _, _, _, _, _, rfl, hf⟩
        · simp [h3, mul_small (i := 2) (Or.inl (by decide))]
          refine gf_fl (d_draw h (by decide) (by decide)) fun x S h ⟨r, e, r0, r1⟩ => ?_
          subst e
          simp
          refine gf_fl (gd_at (P := fun x => ∃ f, x = .str f ∧ f ∈ fld2) h (by omega) (by simp; omega) ?_) fun x S h ⟨f, e, hf⟩ => ?_
          · intro x hm
            simp only [List.mem_cons, List.not_mem_nil, or_false] at hm
            rcases hm with rfl | rfl | rfl | rfl | rfl | rfl | rfl | rfl | rfl | rfl <;> exact ⟨_, rfl, by decide⟩
          subst e
          exact gf_nx h ⟨_, _, _, _, _, _, rfl, hf⟩
      · simp [hh]
        refine gf_nx h ⟨_, _, _, _, _, _, rfl, ?_⟩
        simp only [fld1, List.mem_cons, List.not_mem_nil, or_false] at hf
        rcases hf with rfl | rfl | rfl | rfl | rfl | rfl | rfl
        · decide
        · decide
        · decide
        · decide
        · decide
        · decide
        · exact absurd rfl hh
    clear h hf
    rintro sl S h ⟨s4, f, s6, s7, s8, s9, rfl, hf⟩
    -- the turn
    refine gf_nxt (I' := cnB (.tup [.tup [.int wb, .int (wb + 1), .int (wb + 300)], .tup [.int wp, .int 80], .int wt]) m xs) ?_ ?_
    · simp
      refine gf_fl (d_draw h (by decide) (by decide)) fun x S h ⟨r, e, r0, r1⟩ => ?_
      subst e
      simp
      refine gf_fl (gd_at (P := fun x => ∃ b, x = .int b ∧ 0 ≤ b ∧ b ≤ 3) h r0 (by simpa using r1) ?_) fun x S h ⟨b, e, b0, b1⟩ => ?_
      · intro x hm
        simp only [List.mem_cons, List.not_mem_nil, or_false] at hm
        rcases hm with rfl | rfl | rfl | rfl | rfl <;> exact ⟨_, rfl, by decide, by decide⟩
      subst e
      exact gf_nx h ⟨_, _, _, _, _, _, rfl, hf, b0, b1⟩
    clear h hf
    rintro sl S h ⟨s4, f, t, s7, s8, s9, rfl, hf, t0, t1⟩
    -- numbers
    refine gf_nxt (I' := cnC (.tup [.tup [.int wb, .int (wb + 1), .int (wb + 300)], .tup [.int wp, .int 80], .int wt]) m xs) ?_ ?_
    · by_cases hm : f = s_mark
      · simp [hm]
        refine gf_fl (d_draw h (by decide) (by decide)) fun x S h ⟨r, e, r0, r1⟩ => ?_
        subst e
        simp
        refine gf_nx h ⟨_, _, _, _, _, _, rfl, by decide, t0, t1, ?_⟩
        have w7 : W (.int (1 + r)) = 0 := W_int (by omega)
        have w8 : W (.int 1) = 0 := W_int (by omega)
        exact ⟨by simp [w7, w8], by simp⟩
      · simp [hm]
        refine gf_fl (gd_at (P := Sm 30 2) h t0 (by simp; omega) ?_) fun x S h hx => gf_nx h ⟨_, _, _, _, _, _, rfl, hf, t0, t1, hx⟩
        intro x hm
        simp only [List.mem_cons, List.not_mem_nil, or_false] at hm
        rcases hm with rfl | rfl | rfl | rfl <;> exact ⟨by decide, by decide⟩
    clear h hf t0 t1
    rintro sl S h ⟨s4, f, t, x, s8, s9, rfl, hf, t0, t1, hx7⟩
    have i1 := in_strs (f := f) (F := [s_source, s_destination, s_sport, s_dport, s_code])
    have i2 := in_strs (f := f) (F := [s_source, s_destination])
    have i3 := in_strs (f := f) (F := [s_talk, s_interface, s_flags, s_side, s_kind])
    simp only [List.map_cons, List.map_nil] at i1 i2 i3
    -- numbers by the world
    refine gf_nxt (I' := cnC (.tup [.tup [.int wb, .int (wb + 1), .int (wb + 300)], .tup [.int wp, .int 80], .int wt]) m xs) ?_ ?_
    · by_cases hm : f ∈ [s_source, s_destination, s_sport, s_dport, s_code]
      · have tail : ∀ z : Int, 0 ≤ z → z ≤ 65535 → ∀ S, PoolOk S → GF (evB (cx wf (n + 4)) [.set 7 (.ix (.tup [(.tup [(.tup [(.v 9), (.v 9)])]), (.tup [(.tup [(.k (.int 0)), (.v 9)])]), (.tup [(.tup [(.v 9), (.k (.int 65535))])]), (.cal 35 [(.lst [(.v 9), (.blt .min2 [(.k (.int 65535)), (.bin .add (.v 9) (.k (.int 2)))])])])]) (.v 6))] [.v (.loc 0), .v (.tup [.tup [.int wb, .int (wb + 1), .int (wb + 300)], .tup [.int wp, .int 80], .int wt]), .v (.int m), .own xs, s4, .v (.str f), .v (.int t), .v x, s8, .v (.int z)] S) (cnC (.tup [.tup [.int wb, .int (wb + 1), .int (wb + 300)], .tup [.int wp, .int 80], .int wt]) m xs) (fun x => ∃ xs, x = .tup xs ∧ xs.length ≤ 6 ∧ ∀ z ∈ xs, Sm 43 3 z) := by
          intro z z0 z1 S h
          have hmin : ∃ y : Int, (if z + 2 < 65535 then z + 2 else 65535) = y ∧ 0 ≤ y ∧ y ≤ 65535 := ⟨_, rfl, by split <;> omega, by split <;> omega⟩
          obtain ⟨y, hy, y0, y1⟩ := hmin
          have hd := d_runs (wf := wf) (n := n + 3) (xs := [z, y]) h (by intro x hx; simp at hx; omega) (by simp)
          simp only [List.map_cons, List.map_nil] at hd
          simp [hy]
          refine gf_fl hd fun u S h hu => ?_
          have hus := runs_sm hu
          obtain ⟨us, rfl, _⟩ := hu
          simp
          have wz : W (.int z) = 0 := W_int (by omega)
          have w0 : W (.int 0) = 0 := W_int (by omega)
          have w5 : W (.int 65535) = 0 := W_int (by omega)
          refine gf_fl (gd_at (P := Sm 30 2) h t0 (by simp; omega) ?_) fun x S h hx => gf_nx h ⟨_, _, _, _, _, _, rfl, hf, t0, t1, hx⟩
          intro x hm
          simp only [List.mem_cons, List.not_mem_nil, or_false] at hm
          rcases hm with rfl | rfl | rfl | rfl
          · exact ⟨by simp [wz], by simp⟩
          · exact ⟨by simp [wz, w0], by simp⟩
          · exact ⟨by simp [wz, w5], by simp⟩
          · exact hus
        rw [evS_ife]
        simp only [evT_tr, evE_cmp, evE_v, evE_tup, evL_cons, evL_nil, evE_k, bind_ok, slV_v, List.getElem?_cons_succ, List.getElem?_cons_zero, dr_str, dr_tup, List.all_cons, List.all_nil, pur_str, Bool.and_self, if_true, i1, Option.map_some, of_some, dr_bl, tru_bl, fl_ok, hm, decide_true]
        rw [evB_cons]
        by_cases hq : f ∈ [s_source, s_destination]
        · have := tail wb w1 (by omega) S h
          simpa [i2, hq] using this
        · have := tail wp w3 (by omega) S h
          simpa [i2, hq] using this
      · rw [evS_ife]
        simp only [evT_tr, evE_cmp, evE_v, evE_tup, evL_cons, evL_nil, evE_k, bind_ok, slV_v, List.getElem?_cons_succ, List.getElem?_cons_zero, dr_str, dr_tup, List.all_cons, List.all_nil, pur_str, Bool.and_self, if_true, i1, Option.map_some, of_some, dr_bl, tru_bl, fl_ok, hm, decide_false, Bool.false_eq_true, if_false, evB_nil]
        exact gf_nx h ⟨_, _, _, _, _, _, rfl, hf, t0, t1, hx7⟩
    clear h hf t0 t1 hx7 i1 i2 i3
    rintro sl S h ⟨s4, f, t, x, s8, s9, rfl, hf, t0, t1, hx7⟩
    have i3 := in_strs (f := f) (F := [s_talk, s_interface, s_flags, s_side, s_kind])
    simp only [List.map_cons, List.map_nil] at i3
    -- numbers of small fields
    refine gf_nxt (I' := cnC (.tup [.tup [.int wb, .int (wb + 1), .int (wb + 300)], .tup [.int wp, .int 80], .int wt]) m xs) ?_ ?_
    · by_cases hm : f ∈ [s_talk, s_interface, s_flags, s_side, s_kind]
      · have : ∃ t, sTop f = some t ∧ 0 ≤ t ∧ (t ≤ 7 ∨ f = s_kind) := by
          simp only [List.mem_cons, List.not_mem_nil, or_false] at hm
          rcases hm with rfl | rfl | rfl | rfl | rfl
          · exact ⟨_, rfl, by decide, by decide⟩
          · exact ⟨_, rfl, by decide, by decide⟩
          · exact ⟨_, rfl, by decide, by decide⟩
          · exact ⟨_, rfl, by decide, by decide⟩
          · exact ⟨_, rfl, by decide, by decide⟩
        obtain ⟨tt, z1, z2, z3⟩ := this
        simp [i3, hm]
        exact gf_fl (d_numbers h z1 z2 z3) fun y S h hy => gf_nx h ⟨_, _, _, _, _, _, rfl, hf, t0, t1, hy⟩
      · simp [i3, hm]
        exact gf_nx h ⟨_, _, _, _, _, _, rfl, hf, t0, t1, hx7⟩
    clear h hf t0 t1 hx7 i3
    rintro sl S h ⟨s4, f, t, x, s8, s9, rfl, hf, t0, t1, hx7⟩
    have hp := sm_pur hx7 (by decide)
    have ll : xs.length < lim := by unfold lim; omega
    have hfs := fld_str (F := fld2) (by decide) hf
    simp [lstAt, chg, hp, ll]
    refine gf_nx h ⟨_, _, _, _, _, _, _, rfl, by simp; omega, ?_⟩
    intro z hz
    rcases List.mem_append.mp hz with hz | hz
    · exact hb z hz
    · rw [List.mem_singleton.mp hz]
      constructor
      · have := hfs.1
        have := hx7.1
        simp
        omega
      · have := hfs.2
        have := hx7.2
        simp
        omega
  · rintro sl S h ⟨xs, s4, s5, s6, s7, s8, s9, rfl, hx, hb⟩
    rw [hu] at hx
    simp
    exact gf_ret h ⟨xs, rfl, by omega, hb⟩
end
end K
end S_M82u
section S_M82v
set_option linter.all false
set_option maxRecDepth 100000
/-! M82v: drawn books. -/
namespace K
open G T
section
variable {α β : Type} {wf n : Nat} {S : List Cell} {sl : List Sl} {top : Int} {v a b c : D}
/-- two written rules -/
def rl2 : List D := [.tup [.tup [.tup [.str s_talk, .tup [.tup [.int 2, .int 5]]]], .tup [.str s_accept]], .tup [.tup [.tup [.str s_talk, .tup [.tup [.int 1, .int 1]]], .tup [.str s_interface, .tup [.tup [.int 0, .int 0]]]], .tup [.str s_accept]]]
def bkI (w : D) (ws : List D) (k : Nat) (sl : List Sl) : Prop := ∃ xs s5 s6 s7, sl = [.v (.loc 0), .v w, .v (.int 2), .v (.lst ws), .own xs, s5, s6, s7] ∧ xs.length ≤ k ∧ ∀ x ∈ xs, Sm 2000 7 x
def rwI (w : D) (ws xs : List D) (i : Nat) (k : Nat) (sl : List Sl) : Prop := ∃ ys s7, sl = [.v (.loc 0), .v w, .v (.int 2), .v (.lst ws), .own xs, .v (.int i), .own ys, s7] ∧ ys.length ≤ k ∧ ∀ x ∈ ys, Sm 400 5 x
theorem d_book {w : D} (h : PoolOk S) (hwd : worldOk w) (hw : 50 ≤ wf) : Gd (ev wf (n + 6) 63 [.loc 0, w, .int 2] S) (Sm 4100 8) := by
  rw [show ev wf (n + 6) 63 [.loc 0, w, .int 2] S = (evB (cx wf (n + 5)) f_l_slim_book.body [.v (.loc 0), .v w, .v (.int 2), .nil, .nil, .nil, .nil, .nil] S).out from rfl]
  apply gf_out
  simp [f_l_slim_book]
  refine gf_fl (d_draw h (by decide) (by decide)) fun x S h ⟨r, e, r0, r1⟩ => ?_
  subst e
  simp
  refine gf_fl (gd_at (P := fun x => ∃ b, x = .int b ∧ 0 < b ∧ b ≤ 2) h r0 (by simpa using r1) ?_) fun x S h ⟨b, e, b0, b1⟩ => ?_
  · intro x hm
    simp only [List.mem_cons, List.not_mem_nil, or_false] at hm
    rcases hm with rfl | rfl | rfl <;> exact ⟨_, rfl, by omega, by omega⟩
  subst e
  refine gf_fl (d_words h (by omega) (by omega) hw) fun x S h ⟨ws, e, hl, hws⟩ => ?_
  subst e
  have hr : rngOk (ws.length : Int) = true := by
    unfold rngOk
    simp
    omega
  have hu : (upto 0 ws.length).length = ws.length := by simp [upto_eq]
  simp [pRng, hr]
  refine gf_nxt (gf_for (bkI w ws) (upto 0 ws.length) 0 _ S h ⟨[], _, _, _, rfl, by simp, by simp⟩ ?_) ?_
  · rintro k d sl S hd h ⟨xs, s5, s6, s7, rfl, hx, hb⟩
    rw [upto_eq, List.getElem?_map] at hd
    obtain ⟨k', hk', rfl⟩ := Option.map_eq_some_iff.mp hd
    obtain ⟨hk1, hk2⟩ := List.getElem?_eq_some_iff.mp hk'
    rw [List.getElem_range] at hk2
    subst hk2
    rw [List.length_range] at hk1
    simp only [turnS, tgSet_s, List.set_cons_succ, List.set_cons_zero, Int.zero_add]
    rw [evB_cons]
    simp only [evS_setO, evE_lst, evL_nil, bind_ok, List.all_nil, if_true, fl_ok, flO_lst, nxt_nx, List.set_cons_succ, List.set_cons_zero]
    rw [evB_cons]
    -- the drawn rules
    refine gf_nxt (I' := rwI w ws xs k 2) ?_ ?_
    · simp only [evS_for, evI_rng, evL_cons, evL_nil, evE_cal, evE_v, evE_bin, evE_k, List.getElem?_cons_succ, List.getElem?_cons_zero, slV_v, bind_ok, dr_int, add_int, of_some, bind_bind, bind_fl, call_cx]
      refine gf_fl (d_draw h (by decide) (by decide)) fun x S h ⟨r, e, r0, r1⟩ => ?_
      subst e
      have hr : rngOk r = true := by
        unfold rngOk
        simp
        omega
      have hu : (upto 0 r.toNat).length = r.toNat := by simp [upto_eq]
      simp only [pRng, hr, if_true, of_some, fl_ok]
      have := gf_for (f := turnS (cx wf (n + 5)) (.s 7) [.app (.b 6) (.tup [(.cal 62 [(.v 0), (.v 1), (.k (.int 2))]), (.cal 51 [(.v 0), (.sl (.v 3) (some (.bin .add (.v 5) (.k (.int 1)))) none), (.cmp .eq (.v 5) (.k (.int 0)))])])]) (R := Sm 4100 8) (rwI w ws xs k) (upto 0 r.toNat) 0 _ S h ⟨[], s7, rfl, by simp, by simp⟩ ?_
      · rcases this with ⟨sl', S', e, h1, ys, s7, h2, h3, h4⟩ | h
        · exact .inl ⟨sl', S', e, h1, ys, s7, h2, by omega, h4⟩
        · exact .inr h
      · rintro j d sl S hd h ⟨ys, s7, rfl, hy, hyb⟩
        have hj : j < r.toNat := by
          have := (List.getElem?_eq_some_iff.mp hd).1
          omega
        simp [turnS, lstAt]
        refine gf_fl (d_conds h hwd (by decide) (by decide)) fun x S h ⟨cs, e, c1, c2⟩ => ?_
        subst e
        have hcut : cut ws (some ((k : Int) + 1)) none = ws.drop (k + 1) := cut_from (k := k + 1)
        simp [pSl, hcut]
        refine gf_fl (d_action (f := (k : Int) == 0) h (fun z hz => word_sm (hws z (List.mem_of_mem_drop hz))) ?_) fun a S h ha => ?_
        · rw [List.length_drop]
          unfold lim
          omega
        · have hap := sm_pur ha (by decide)
          have ll : ys.length < lim := by unfold lim; omega
          simp [hap, chg, ll]
          refine gf_nx h ⟨_, _, rfl, by simp; omega, ?_⟩
          intro z hz
          rcases List.mem_append.mp hz with hz | hz
          · exact hyb z hz
          · rw [List.mem_singleton.mp hz]
            have hc := sm_tup c2 c1
            constructor
            · have h1 := hc.1
              have h2 := ha.1
              simp at h1 ⊢
              omega
            · have h1 := hc.2
              have h2 := ha.2
              simp at h1 ⊢
              omega
    clear h
    rintro sl S h ⟨ys, s7, rfl, hy, hyb⟩
    rw [evB_cons]
    refine gf_nxt (I' := rwI w ws xs k 4) ?_ ?_
    · by_cases h0 : k = 0
      · subst h0
        simp
        refine gf_fl (d_draw h (by decide) (by decide)) fun x S h ⟨r, e, r0, r1⟩ => ?_
        subst e
        by_cases hr0 : r = 0
        · subst hr0
          simp
          refine gf_fl (d_draw h (by decide) (by decide)) fun x S h ⟨q, e, q0, q1⟩ => ?_
          subst e
          have hcut : cut rl2 (some q) none = rl2.drop q.toNat := by
            obtain ⟨j, rfl⟩ := Int.eq_ofNat_of_zero_le q0
            exact cut_from (k := j)
          have hm : ∀ z ∈ rl2.drop q.toNat, Sm 400 5 z := by
            intro z hz
            have hz := List.mem_of_mem_drop hz
            simp only [rl2, List.mem_cons, List.not_mem_nil, or_false] at hz
            rcases hz with rfl | rfl <;> exact ⟨by decide, by decide⟩
          have hl2 : (rl2.drop q.toNat).length ≤ 2 := by
            rw [List.length_drop]
            simp [rl2]
          rw [show (.lst [.tup [.tup [.tup [.str s_talk, .tup [.tup [.int 2, .int 5]]]], .tup [.str s_accept]], .tup [.tup [.tup [.str s_talk, .tup [.tup [.int 1, .int 1]]], .tup [.str s_interface, .tup [.tup [.int 0, .int 0]]]], .tup [.str s_accept]]] : D) = .lst rl2 from rfl]
          simp [pSl, hcut]
          rw [add_lst (by rw [show lim = 16777216 from rfl]; omega)]
          simp
          refine gf_nx h ⟨_, _, rfl, by simp at hl2 ⊢; omega, ?_⟩
          intro z hz
          rcases List.mem_append.mp hz with hz | hz
          · exact hyb z hz
          · exact hm z hz
        · simp [hr0]
          exact gf_nx h ⟨_, _, rfl, by omega, hyb⟩
      · simp [h0]
        exact gf_nx h ⟨_, _, rfl, by omega, hyb⟩
    clear h hy hyb
    rintro sl S h ⟨ys, s7, rfl, hy, hyb⟩
    obtain ⟨wd, hw1, hw2⟩ : ∃ wd, atI ws (k : Int) = some wd ∧ wordOk wd := ⟨ws[k], by rw [atI_nat, List.getElem?_eq_getElem hk1], hws _ (List.getElem_mem hk1)⟩
    have hws2 := word_sm hw2
    have hwp := sm_pur hws2 (by decide)
    have ll : xs.length < lim := by unfold lim; omega
    have fin : ∀ d S, PoolOk S → Sm 60 1 d → GF (((if wd.pur = true ∧ d.pur = true then (chg (.b 4) (fun xs => if xs.length < lim then some (xs ++ [.tup [wd, .tup ys, d]]) else none) (cx wf (n + 5)) [.v (.loc 0), .v w, .v (.int 2), .v (.lst ws), .own xs, .v (.int k), .own ys, s7] S).nxt fun sl S => .nx sl S else .stk))) (bkI w ws (k + 1)) (Sm 4100 8) := by
      intro d S h hd
      have hdp := sm_pur hd (by decide)
      simp [hdp, hwp, chg, ll]
      refine gf_nx h ⟨_, _, _, _, rfl, by simp; omega, ?_⟩
      intro z hz
      rcases List.mem_append.mp hz with hz | hz
      · exact hb z hz
      · rw [List.mem_singleton.mp hz]
        have hc := sm_tup hyb hy
        constructor
        · have h1 := hc.1
          have h2 := hd.1
          have h3 := hws2.1
          simp at h1 ⊢
          omega
        · have h1 := hc.2
          have h2 := hd.2
          have h3 := hws2.2
          simp at h1 ⊢
          omega
    rw [evB_cons]
    simp [lstAt, hw1]
    have pick3 : ∀ S, PoolOk S → GF ((ev wf (n + 5) 31 [.loc 0, .int 3] S).fl [.v (.loc 0), .v w, .v (.int 2), .v (.lst ws), .own xs, .v (.int k), .own ys, s7] fun a S =>
        (Rs.of S (pIx (.tup [.tup [.str s_accept], .tup [.str s_drop], .tup [.str s_drop]]) a)).fl [.v (.loc 0), .v w, .v (.int 2), .v (.lst ws), .own xs, .v (.int k), .own ys, s7] fun a S =>
          if wd.pur = true ∧ a.pur = true then (chg (.b 4) (fun xs => if xs.length < lim then some (xs ++ [.tup [wd, .tup ys, a]]) else none) (cx wf (n + 5)) [.v (.loc 0), .v w, .v (.int 2), .v (.lst ws), .own xs, .v (.int k), .own ys, s7] S).nxt fun sl S => .nx sl S else .stk) (bkI w ws (k + 1)) (Sm 4100 8) := by
      intro S h
      refine gf_fl (d_draw h (by decide) (by decide)) fun x S h ⟨r, e, r0, r1⟩ => ?_
      subst e
      refine gf_fl (gd_at (P := Sm 60 1) h r0 (by simpa using r1) ?_) fun x S h hx => fin x S h hx
      intro x hm
      simp only [List.mem_cons, List.not_mem_nil, or_false] at hm
      rcases hm with rfl | rfl | rfl <;> exact ⟨by decide, by decide⟩
    split
    · exact pick3 S h
    · refine gf_fl (d_draw h (by decide) (by decide)) fun x S h ⟨r, e, r0, r1⟩ => ?_
      subst e
      by_cases hr : r = 0
      · subst hr
        simpa using pick3 S h
      · have := fin (.tup [.str s_back]) S h ⟨by decide, by decide⟩
        simpa [hr, hwp] using this
  · rintro sl S h ⟨xs, s5, s6, s7, rfl, hx, hb⟩
    rw [hu] at hx
    simp
    exact gf_ret h (sm_mono (sm_tup hb (n := 2) (by omega)) (by decide) (by decide))
end
end K
end S_M82v
section S_M82w
set_option linter.all false
set_option maxRecDepth 100000
/-! M82w: drawn exchanges; bent and booled values. -/
namespace K
open G T
section
variable {α β : Type} {wf n : Nat} {S : List Cell} {sl : List Sl} {top : Int} {v a b c : D}
def exI (k : Nat) (sl : List Sl) : Prop := ∃ xs s3 s4 s5, sl = [.v (.loc 0), .v (.int 2), .own xs, s3, s4, s5] ∧ xs.length ≤ k ∧ ∀ x ∈ xs, Sm 6 2 x
theorem d_exch (h : PoolOk S) : Gd (ev wf (n + 5) 43 [.loc 0, .int 2] S) (Sm 14 3) := by
  rw [show ev wf (n + 5) 43 [.loc 0, .int 2] S = (evB (cx wf (n + 4)) f_l_exchange.body [.v (.loc 0), .v (.int 2), .nil, .nil, .nil, .nil] S).out from rfl]
  apply gf_out
  simp [f_l_exchange]
  refine gf_fl (d_draw h (by decide) (by decide)) fun x S h ⟨r, e, r0, r1⟩ => ?_
  subst e
  have hr : rngOk r = true := by
    unfold rngOk
    simp
    omega
  have hu : (upto 0 r.toNat).length = r.toNat := by simp [upto_eq]
  simp [pRng, hr]
  refine gf_nxt (gf_for exI (upto 0 r.toNat) 0 _ S h ⟨[], _, _, _, rfl, by simp, by simp⟩ ?_) ?_
  · rintro k d sl S hd h ⟨xs, s3, s4, s5, rfl, hx, hb⟩
    have hk : k < r.toNat := by
      have := (List.getElem?_eq_some_iff.mp hd).1
      omega
    simp [turnS]
    refine gf_fl (d_prefix h) fun x S h ⟨i, j, e, i0, i1, j0, j1⟩ => ?_
    subst e
    have p1 := l_power (wf := wf) (n := n + 3) (S := S) (k := j) j0 j1
    have p1' : (2 : Int) ^ j.toNat ≤ 2 ^ 16 := by
      have : (2 : Nat) ^ j.toNat ≤ 2 ^ 16 := Nat.pow_le_pow_right (by decide) (by omega)
      exact_mod_cast this
    have p0 : 0 < (2 : Int) ^ j.toNat := Int.pow_pos (by decide)
    simp [p1]
    refine gf_fl (d_draw h p0 (by omega)) fun x S h ⟨q, e, q0, q1⟩ => ?_
    subst e
    have p2 := l_power (wf := wf) (n := n + 3) (S := S) (k := 16 - j) (by omega) (by omega)
    have p2' : (2 : Int) ^ (16 - j).toNat ≤ 2 ^ 16 := by
      have : (2 : Nat) ^ (16 - j).toNat ≤ 2 ^ 16 := Nat.pow_le_pow_right (by decide) (by omega)
      exact_mod_cast this
    have p3 : 0 < (2 : Int) ^ (16 - j).toNat := Int.pow_pos (by decide)
    have sm : smallI q = true := by
      unfold smallI
      simp
      omega
    have bz : 0 ≤ q * (2 : Int) ^ (16 - j).toNat ∧ q * (2 : Int) ^ (16 - j).toNat ≤ 2 ^ 32 := by
      refine ⟨Int.mul_nonneg q0 (by omega), ?_⟩
      have : q * (2 : Int) ^ (16 - j).toNat ≤ 2 ^ 16 * 2 ^ 16 := Int.mul_le_mul (by omega) p2' (by omega) (by decide)
      omega
    generalize hz : q * (2 : Int) ^ (16 - j).toNat = z at bz
    have mz : pBin .mul (.int q) (.int (2 ^ (16 - j).toNat)) = some (.int z) := by rw [mul_small (Or.inl sm), hz]
    have s1 : Sm 6 2 (.tup [.tup [.int i, .int j], .tup [.int z, .int j]]) := by
      have w1 : W (.int i) = 0 := W_int (by omega)
      have w2 : W (.int j) = 0 := W_int (by omega)
      have w3 : W (.int z) = 0 := W_int (by omega)
      exact ⟨by simp [w1, w2, w3], by simp⟩
    have ll : xs.length < lim := by unfold lim; omega
    have ha : pBin .add (.lst xs) (.lst [.tup [.tup [.int i, .int j], .tup [.int z, .int j]]]) = some (.lst (xs ++ [.tup [.tup [.int i, .int j], .tup [.int z, .int j]]])) := add_lst (by simp; omega)
    have hb2 : ∀ x ∈ xs ++ [.tup [.tup [.int i, .int j], .tup [.int z, .int j]]], Sm 6 2 x := by
      intro x hx
      rcases List.mem_append.mp hx with hx | hx
      · exact hb x hx
      · rw [List.mem_singleton.mp hx]
        exact s1
    have fin : (D.tup (xs ++ [.tup [.tup [.int i, .int j], .tup [.int z, .int j]]])).fin = true := sm_fin (sm_tup hb2 (n := 3) (by simp; omega)) (by decide)
    simp [p2, mz, ha, l_exch fin]
    cases hE : sExch (.tup (xs ++ [.tup [.tup [.int i, .int j], .tup [.int z, .int j]]])) with
    | true =>
      simp [lstAt, chg, ll]
      exact gf_nx h ⟨_, _, _, _, rfl, by simp; omega, hb2⟩
    | false =>
      simp
      exact gf_nx h ⟨_, _, _, _, rfl, by omega, hb⟩
  · rintro sl S h ⟨xs, s3, s4, s5, rfl, hx, hb⟩
    rw [hu] at hx
    simp
    exact gf_ret h (sm_mono (sm_tup hb (n := 2) (by omega)) (by decide) (by decide))
mutual
/-- zeros and ones as truth values -/
def bo : D → D
  | .tup xs => .tup (boL xs)
  | .int i => if i = 0 then .bl false else if i = 1 then .bl true else .int i
  | d => d
def boL : List D → List D
  | [] => []
  | x :: xs => bo x :: boL xs
end
theorem boL_map : ∀ xs : List D, boL xs = xs.map bo
  | [] => rfl
  | x :: xs => by rw [List.map_cons, ← boL_map xs]; rfl
mutual
theorem bo_sm : ∀ d : D, W (bo d) ≤ W d ∧ (bo d).dep ≤ d.dep
  | .tup xs => by
    have := boL_sm xs
    simp only [bo, W_tup, dep_tup]
    omega
  | .int i => by
    simp only [bo]
    split
    · simp
    · split <;> simp
  | .non => by simp [bo]
  | .bl _ => by simp [bo]
  | .str _ => by simp [bo]
  | .lst _ => by simp [bo]
  | .loc _ => by simp [bo]
  | .exc _ _ => by simp [bo]
theorem boL_sm : ∀ xs : List D, WL (boL xs) ≤ WL xs ∧ D.depL (boL xs) ≤ D.depL xs
  | [] => ⟨Nat.le_refl _, Nat.le_refl _⟩
  | x :: xs => by
    have h1 := bo_sm x
    have h2 := boL_sm xs
    simp only [boL, WL_cons, depL_cons]
    omega
end
theorem bo_pur {d : D} (h : d.fin = true) : (bo d).pur = true := by
  cases d with
  | int i =>
    simp only [bo]
    split
    · simp
    · split <;> simp
  | loc _ => cases h
  | exc _ _ => cases h
  | _ => simp [bo]
theorem dep_mem {d : D} : ∀ {xs : List D}, d ∈ xs → d.dep ≤ D.depL xs
  | y :: ys, h => by
    rw [depL_cons]
    rcases List.mem_cons.mp h with rfl | h
    · omega
    · have := dep_mem h
      omega
theorem l_booled : ∀ (k : Nat) (d : D), d.fin = true → d.dep ≤ k → ev wf (n + k + 2) 34 [d] S = .ok (bo d) S
  | k, d, hv, hk => by
    rw [show ev wf (n + k + 2) 34 [d] S = (evB (cx wf (n + k + 1)) f_l_booled.body [.v d, .nil] S).out from rfl]
    cases d with
    | loc _ => cases hv
    | exc _ _ => cases hv
    | tup xs =>
      match k, hk with
      | 0, hk => simp at hk
      | k + 1, hk =>
        have c1 : compL (turn (cx wf (n + (k + 1) + 1)) (.s 1) (.cal 34 [.v 1]) [] [.v (.tup xs), .nil]) xs S [] = .ok (xs.map bo) S := by
          rw [compL_map (g := bo) (fun d hd => ?_) (by simpa using fin_tup_len hv)]
          · simp
          · have hf := fin_tup_mem hv hd
            have hdk : d.dep ≤ k := by
              simp at hk
              have := dep_mem hd
              omega
            have ih := l_booled k d hf hdk
            rw [show n + k + 2 = n + (k + 1) + 1 from by omega] at ih
            simp [turn, ih, bo_pur hf]
        simp [f_l_booled, c1, bo, boL_map]
    | int i =>
      have li := l_int (wf := wf) (n := n + k) (S := S) (v := .int i) rfl
      by_cases h0 : i = 0
      · subst h0
        simp [f_l_booled, li, isI, bo]
      · by_cases h1 : i = 1
        · subst h1
          simp [f_l_booled, li, isI, bo]
        · by_cases h2 : 0 ≤ i
          · have h3 : ¬ i < 2 := by omega
            simp [f_l_booled, li, isI, bo, h0, h1, h2, h3]
          · simp [f_l_booled, li, isI, bo, h0, h1, h2]
    | _ =>
      have li := l_int (wf := wf) (n := n + k) (S := S) hv
      simp [f_l_booled, li, isI, bo]
end
end K
end S_M82w
section S_M82x
set_option linter.all false
set_option maxRecDepth 100000
/-! M82x: bent values. -/
namespace K
open G T
section
variable {α β : Type} {wf n : Nat} {S : List Cell} {sl : List Sl} {top : Int} {v a b c : D}
def bnB : List G.T := f_l_bent.body.drop 1
/-- what a bent value is like -/
def Bn (d y : D) : Prop := W y ≤ 3 * W d + 100100 ∧ y.dep ≤ d.dep + 1
theorem WL_split {xs : List D} {k : Nat} {x : D} (h : xs[k]? = some x) : WL xs = WL (xs.take k) + (W x + 1) + WL (xs.drop (k + 1)) := by
  obtain ⟨hk, rfl⟩ := List.getElem?_eq_some_iff.mp h
  have e : xs = xs.take k ++ xs[k] :: xs.drop (k + 1) := by rw [List.getElem_cons_drop, List.take_append_drop]
  have := congrArg WL e
  rwa [WL_app, WL_cons, ← Nat.add_assoc] at this
theorem depL_split {xs : List D} {k : Nat} {x : D} (h : xs[k]? = some x) : D.depL xs = max (D.depL (xs.take k)) (max x.dep (D.depL (xs.drop (k + 1)))) := by
  obtain ⟨hk, rfl⟩ := List.getElem?_eq_some_iff.mp h
  have e : xs = xs.take k ++ xs[k] :: xs.drop (k + 1) := by rw [List.getElem_cons_drop, List.take_append_drop]
  have := congrArg D.depL e
  rwa [depL_app, depL_cons] at this
theorem set_sm {xs : List D} {k : Nat} {x y : D} (h : xs[k]? = some x) : WL (xs.set k y) + W x = WL xs + W y ∧ D.depL (xs.set k y) ≤ max (D.depL xs) y.dep := by
  obtain ⟨hk, hx⟩ := List.getElem?_eq_some_iff.mp h
  have e : xs.set k y = xs.take k ++ y :: xs.drop (k + 1) := by rw [List.set_eq_take_append_cons_drop, if_pos hk]
  have h1 := WL_split h
  have h2 := depL_split h
  rw [e, WL_app, WL_cons, depL_app, depL_cons]
  omega
theorem W_str_le {s : List Nat} {w : Nat} (h : W (.str s) ≤ w) (hw : w < 10 ^ 9) : s.length ≤ w ∧ s.all (fun c => decide (c < 16 ^ 8)) = true := by
  simp only [W] at h
  split at h
  · rename_i hs
    exact ⟨h, hs⟩
  · omega
theorem W_str_eq {s : List Nat} (h : s.all (fun c => decide (c < 16 ^ 8)) = true) : W (.str s) = s.length := by
  simp only [W]
  rw [if_pos h]
theorem d_bentB {d : D} {q : Sl} {R : D → Prop} (hv : d.fin = true) (hw : W d ≤ 99000) (h : PoolOk S) (hR : ∀ y, Bn d y → R y) : GF (evB (cx wf (n + 2)) bnB [.v (.loc 0), .v d, .nil, q, .nil, .nil] S) (fun _ => R .non) R := by
  simp [bnB, f_l_bent]
  refine gf_fl (d_draw h (by decide) (by decide)) fun x S h ⟨r, e, r0, r1⟩ => ?_
  subst e
  by_cases hr0 : r = 0
  · subst hr0
    simp
    refine gf_fl (d_draw h (by decide) (by decide)) fun x S h ⟨r, e, r0, r1⟩ => ?_
    subst e
    simp
    refine gf_fl (gd_at (P := R) h r0 (by simpa using r1) ?_) fun x S h hx => gf_ret h hx
    intro x hm
    simp only [List.mem_cons, List.not_mem_nil, or_false] at hm
    have z0 : W (.int 0) = 0 := W_int (by omega)
    have z1 : W (.int (-1)) = 0 := W_int (by omega)
    have zx : W (.str s_x) = 1 := by decide
    rcases hm with rfl | rfl | rfl | rfl | rfl | rfl | rfl | rfl <;> refine hR _ ⟨?_, ?_⟩ <;> simp [z0, z1, zx] <;> omega
  cases d with
  | loc _ => cases hv
  | exc _ _ => cases hv
  | int i =>
    have li := l_int (wf := wf) (n := n + 1) (S := S) (v := .int i) rfl
    simp [hr0, li, isI]
    refine gf_fl (d_draw h (by decide) (by decide)) fun x S h ⟨q, e, q0, q1⟩ => ?_
    subst e
    simp
    refine gf_fl (gd_at (P := fun x => ∃ b, x = .int b ∧ -1 ≤ b ∧ b ≤ 2) h q0 (by simpa using q1) ?_) fun x S h ⟨b, e, b0, b1⟩ => ?_
    · intro x hm
      simp only [List.mem_cons, List.not_mem_nil, or_false] at hm
      rcases hm with rfl | rfl | rfl | rfl <;> exact ⟨_, rfl, by decide, by decide⟩
    subst e
    simp
    refine gf_ret h (hR _ ⟨?_, by simp⟩)
    have hi : i.natAbs < 10 ^ 30 := by
      simp only [W] at hw
      split at hw
      · assumption
      · split at hw <;> omega
    simp only [W]
    split
    · omega
    · rw [if_pos (by omega)]
      omega
  | str s =>
    have li := l_int (wf := wf) (n := n + 1) (S := S) hv
    obtain ⟨hs1, hs2⟩ := W_str_le hw (by decide)
    have ws := W_str_eq hs2
    have a1 : pBin .add (.str s) (.str s_a) = some (.str (s ++ s_a)) := add_str (by simp [lim, s_a]; omega)
    have a2 : pBin .add (.str s) (.str s_A) = some (.str (s ++ s_A)) := add_str (by simp [lim, s_A]; omega)
    have a3 : pBin .add (.str s) (.str s__) = some (.str (s ++ s__)) := add_str (by simp [lim, s__]; omega)
    have c1 : cut s (some 1) none = s.drop 1 := cut_from (k := 1)
    have c2 : cut s none (some 1) = s.take 1 := cut_to (k := 1)
    simp [hr0, li, isI, a1, a2, a3, pSl, c1, c2]
    refine gf_fl (d_draw h (by decide) (by decide)) fun x S h ⟨q, e, q0, q1⟩ => ?_
    subst e
    simp
    refine gf_fl (gd_at (P := R) h q0 (by simpa using q1) ?_) fun x S h hx => gf_ret h hx
    have all' : ∀ t : List Nat, (∀ c ∈ t, c ∈ s ∨ c < 200) → t.length ≤ s.length + 1 → R (.str t) := by
      intro t ht hl
      have : t.all (fun c => decide (c < 16 ^ 8)) = true := by
        rw [List.all_eq_true] at hs2 ⊢
        intro c hc
        rcases ht c hc with h | h
        · exact hs2 c h
        · simp
          omega
      refine hR _ ⟨?_, by simp⟩
      rw [W_str_eq this, ws]
      omega
    intro x hm
    simp only [List.mem_cons, List.not_mem_nil, or_false] at hm
    rcases hm with rfl | rfl | rfl | rfl | rfl
    · exact all' _ (fun c hc => (List.mem_append.mp hc).imp id (fun h => by simp [s_a] at h; omega)) (by simp [s_a])
    · exact all' _ (fun c hc => .inl (List.mem_of_mem_tail hc)) (by simp; omega)
    · exact all' _ (fun c hc => (List.mem_append.mp hc).imp id (fun h => by simp [s_A] at h; omega)) (by simp [s_A])
    · exact all' _ (fun c hc => (List.mem_append.mp hc).imp id (fun h => by simp [s__] at h; omega)) (by simp [s__])
    · exact all' _ (fun c hc => .inl (List.mem_of_mem_take hc)) (by simp; omega)
  | tup xs =>
    have li := l_int (wf := wf) (n := n + 1) (S := S) hv
    have fl := fin_tup_lf hv
    unfold flim at fl
    match xs with
    | [] =>
      by_cases h5 : r < 5
      · simp [hr0, li, isI, h5]
        refine gf_ret h (hR _ ⟨?_, by simp⟩)
        have z0 : W (.int 0) = 0 := W_int (by omega)
        simp [z0]
      · simp [hr0, li, isI, h5]
        exact gf_ret h (hR _ ⟨by simp, by simp⟩)
    | x0 :: xs =>
      generalize hX : x0 :: xs = ys at *
      have hl : 0 < ys.length := by rw [← hX]; simp
      have e1 : ((ys.length : Int) = 0) = False := eq_false (by omega)
      have e2 : ((ys.length : Int) == 0) = false := by rw [beq_eq_false_iff_ne]; omega
      have e3 : ys ≠ [] := List.length_pos_iff.mp hl
      simp [hr0, li, isI, e1, e2, e3]
      refine gf_fl (d_draw h (by omega) (by omega)) fun x S h ⟨at', e, q0, q1⟩ => ?_
      subst e
      obtain ⟨k, rfl⟩ := Int.eq_ofNat_of_zero_le q0
      have hk : k < ys.length := by omega
      have g1 : ys[k]? = some ys[k] := List.getElem?_eq_getElem hk
      have i1 : atI ys (k : Int) = some ys[k] := by rw [atI_nat, g1]
      have c1 : cut ys none (some (k : Int)) = ys.take k := cut_to (k := k)
      have c2 : cut ys (some ((k : Int) + 1)) none = ys.drop (k + 1) := cut_from (k := k + 1)
      have c3 : cut ys (some (k : Int)) none = ys.drop k := cut_from (k := k)
      have hW := WL_split g1
      have hD := depL_split g1
      have hp : ys[k].pur = true := fin_pur (fin_tup_mem hv (List.getElem_mem hk))
      have l1 : (ys.take k).length ≤ 1000000 := by simp; omega
      have l2 : (ys.drop (k + 1)).length ≤ 1000000 := by simp; omega
      have l3 : (ys.drop k).length ≤ 1000000 := by simp; omega
      generalize ys[k] = x at *
      have a1 : pBin .add (.tup (ys.take k)) (.tup (ys.drop (k + 1))) = some (.tup (ys.take k ++ ys.drop (k + 1))) := add_tup (by rw [show lim = 16777216 from rfl]; omega)
      have a2 : pBin .add (.tup (ys.take k)) (.tup [x]) = some (.tup (ys.take k ++ [x])) := add_tup (by rw [show lim = 16777216 from rfl]; simp only [List.length_singleton]; omega)
      have a3 : pBin .add (.tup (ys.take k ++ [x])) (.tup (ys.drop k)) = some (.tup (ys.take k ++ [x] ++ ys.drop k)) := add_tup (by rw [show lim = 16777216 from rfl, List.length_append, List.length_singleton]; omega)
      have hW3 : WL (ys.drop k) ≤ WL ys ∧ D.depL (ys.drop k) ≤ D.depL ys := by
        have := congrArg WL (List.take_append_drop k ys)
        have h2 := congrArg D.depL (List.take_append_drop k ys)
        rw [WL_app] at this
        rw [depL_app] at h2
        omega
      by_cases h3 : r < 3
      · simp [h3, pSl, c1, c2, a1]
        refine gf_ret h (hR _ ⟨?_, ?_⟩)
        · rw [W_tup, W_tup, WL_app]
          omega
        · rw [dep_tup, dep_tup, depL_app]
          omega
      by_cases h5 : r < 5
      · simp [h3, h5, pSl, c1, c3, i1, hp, a2]
        simp [a3]
        refine gf_ret h (hR _ ⟨?_, ?_⟩)
        · rw [W_tup, W_tup, WL_app, WL_cons]
          omega
        · rw [dep_tup, dep_tup, depL_app, depL_cons]
          omega
      by_cases h6 : r = 5
      · subst h6
        simp
        refine gf_ret h (hR _ ⟨?_, ?_⟩)
        · rw [W_lst, W_tup]
          omega
        · rw [dep_lst, dep_tup]
          omega
      simp [h3, h5, h6]
      refine gf_fl (d_draw h (by omega) (by omega)) fun z S h ⟨ot, e, q0, q1⟩ => ?_
      subst e
      obtain ⟨j, rfl⟩ := Int.eq_ofNat_of_zero_le q0
      have hj : j < ys.length := by omega
      have g2 : ys[j]? = some ys[j] := List.getElem?_eq_getElem hj
      have i2 : atI ys (j : Int) = some ys[j] := by rw [atI_nat, g2]
      have hp2 : ys[j].pur = true := fin_pur (fin_tup_mem hv (List.getElem_mem hj))
      have hWj := WL_split g2
      have hDj := depL_split g2
      generalize ys[j] = y at *
      have x1 : ixN ys.length (k : Int) = some k := by
        unfold ixN
        rw [if_pos (by omega), if_pos (by omega)]
        simp
      have x2 : ixN ys.length (j : Int) = some j := by
        unfold ixN
        rw [if_pos (by omega), if_pos (by omega)]
        simp
      simp [i1, i2, hp, hp2, lstAt, chg, x1, x2]
      have s1 := set_sm (y := y) g1
      have g3 : ∃ w, (ys.set k y)[j]? = some w := ⟨_, List.getElem?_eq_getElem (by simpa using hj)⟩
      obtain ⟨w, g3⟩ := g3
      have s2 := set_sm (y := x) g3
      refine gf_ret h (hR _ ⟨?_, ?_⟩)
      · rw [W_tup, W_tup]
        omega
      · rw [dep_tup, dep_tup]
        omega
  | lst xs =>
    have li := l_int (wf := wf) (n := n + 1) (S := S) hv
    have fl := fin_tup_len (xs := xs) (by rw [fin_tup]; rwa [fin_lst] at hv)
    have z0 : W (.int 0) = 0 := W_int (by omega)
    by_cases h5 : r < 5
    · simp [hr0, li, isI, h5]
      exact gf_ret h (hR _ ⟨by simp [z0]; omega, by simp⟩)
    · simp [hr0, li, isI, h5]
      exact gf_ret h (hR _ ⟨by simp, by simp⟩)
  | non =>
    have li := l_int (wf := wf) (n := n + 1) (S := S) hv
    have z0 : W (.int 0) = 0 := W_int (by omega)
    by_cases h5 : r < 5
    · simp [hr0, li, isI, h5]
      exact gf_ret h (hR _ ⟨by simp [z0], by simp⟩)
    · simp [hr0, li, isI, h5]
      exact gf_ret h (hR _ ⟨by simp, by simp⟩)
  | bl b =>
    have li := l_int (wf := wf) (n := n + 1) (S := S) hv
    have z0 : W (.int 0) = 0 := W_int (by omega)
    by_cases h5 : r < 5
    · simp [hr0, li, isI, h5]
      exact gf_ret h (hR _ ⟨by simp [z0], by simp⟩)
    · simp [hr0, li, isI, h5]
      exact gf_ret h (hR _ ⟨by simp, by simp⟩)
end
end K
end S_M82x
section S_M82y
set_option linter.all false
set_option maxRecDepth 100000
/-! M82y: bent values whole; the pool; entries. -/
namespace K
open G T
section
variable {α β : Type} {wf n : Nat} {S : List Cell} {sl : List Sl} {top : Int} {v a b c : D}
theorem d_bent : ∀ (k : Nat) (d : D) (S : List Cell), d.fin = true → d.dep ≤ k → W d ≤ 99000 → PoolOk S → Gd (ev wf (n + k + 3) 33 [.loc 0, d] S) (Bn d)
  | k, d, S, hv, hk, hw, h => by
    rw [show ev wf (n + k + 3) 33 [.loc 0, d] S = (evB (cx wf (n + k + 2)) f_l_bent.body [.v (.loc 0), .v d, .nil, .nil, .nil, .nil] S).out from rfl]
    apply gf_out
    rw [show f_l_bent.body = .ife (.and [(.tr (.blt (.isa .tup) [(.v 1)])), (.tr (.cmp .gt (.blt .len [(.v 1)]) (.k (.int 0)))), (.tr (.cmp .gt (.cal 31 [(.v 0), (.k (.int 3))]) (.k (.int 0))))]) [.set 3 (.cal 31 [(.v 0), (.blt .len [(.v 1)])]), .ret (.bin .add (.bin .add (.sl (.v 1) none (some (.v 3))) (.tup [(.cal 33 [(.v 0), (.ix (.v 1) (.v 3))])])) (.sl (.v 1) (some (.bin .add (.v 3) (.k (.int 1)))) none))] [] :: bnB from rfl, evB_cons]
    have tail : ∀ S, PoolOk S → GF (evB (cx wf (n + k + 2)) bnB [.v (.loc 0), .v d, .nil, .nil, .nil, .nil] S) (fun _ => Bn d .non) (Bn d) := fun S h => d_bentB hv hw h fun y hy => hy
    cases d with
    | loc _ => cases hv
    | exc _ _ => cases hv
    | tup ys =>
      match k, hk with
      | 0, hk => simp at hk
      | k + 1, hk =>
        have fl := fin_tup_lf hv
        unfold flim at fl
        by_cases hl : 0 < ys.length
        · have e1 : ((0 : Int) < (ys.length : Int)) := by omega
          simp [hl]
          refine gf_fl (d_draw (m := 3) h (by decide) (by decide)) fun x S h ⟨r, e, r0, r1⟩ => ?_
          subst e
          by_cases hr : 0 < r
          · simp [hr]
            refine gf_fl (d_draw h (by omega) (by omega)) fun x S h ⟨at', e, q0, q1⟩ => ?_
            subst e
            obtain ⟨j, rfl⟩ := Int.eq_ofNat_of_zero_le q0
            have hj : j < ys.length := by omega
            have g1 : ys[j]? = some ys[j] := List.getElem?_eq_getElem hj
            have i1 : atI ys (j : Int) = some ys[j] := by rw [atI_nat, g1]
            have c1 : cut ys none (some (j : Int)) = ys.take j := cut_to (k := j)
            have c2 : cut ys (some ((j : Int) + 1)) none = ys.drop (j + 1) := cut_from (k := j + 1)
            have hW := WL_split g1
            have hD := depL_split g1
            have hf : ys[j].fin = true := fin_tup_mem hv (List.getElem_mem hj)
            have l1 : (ys.take j).length ≤ 1000000 := by simp; omega
            have l2 : (ys.drop (j + 1)).length ≤ 1000000 := by simp; omega
            generalize ys[j] = x at *
            simp at hk hw
            have ih := d_bent k x S hf (by omega) (by omega) h
            rw [show n + k + 3 = n + (k + 1) + 2 from by omega] at ih
            simp [pSl, c1, i1]
            refine gf_fl ih fun y S h ⟨y1, y2⟩ => ?_
            have hp : y.pur = true := fin_pur (W_fin y (by omega))
            have a2 : pBin .add (.tup (ys.take j)) (.tup [y]) = some (.tup (ys.take j ++ [y])) := add_tup (by rw [show lim = 16777216 from rfl]; simp only [List.length_singleton]; omega)
            have a3 : pBin .add (.tup (ys.take j ++ [y])) (.tup (ys.drop (j + 1))) = some (.tup (ys.take j ++ [y] ++ ys.drop (j + 1))) := add_tup (by rw [show lim = 16777216 from rfl, List.length_append, List.length_singleton]; omega)
            simp [hp, a2, c2]
            simp [a3]
            refine gf_ret h ⟨?_, ?_⟩
            · rw [W_tup, W_tup, WL_app, WL_cons]
              omega
            · rw [dep_tup, dep_tup, depL_app, depL_cons]
              omega
          · simp [hr]
            exact tail S h
        · have e1 : ¬ ((0 : Int) < (ys.length : Int)) := by omega
          simp [hl]
          exact tail S h
    | _ =>
      simp
      exact tail S h
theorem l_pool {s : List Int} (hs : s.length ≤ 63) : ∃ S', ev wf (n + 1) 29 [.lst (s.map .int)] [] = .ok (.loc 0) S' ∧ PoolOk S' := by
  rw [show ev wf (n + 1) 29 [.lst (s.map .int)] [] = (evB (cx wf n) f_l_pool.body [.v (.lst (s.map .int)), .nil, .nil] []).out from rfl]
  have c1 : cut (s.map D.int) none (some 63) = (s.map D.int).take 63 := cut_to (k := 63)
  have lp : ∀ (ds : List Int) (z : Int) (q : Sl), ∃ z' q', forL (turnS (cx wf n) (.s 2) [.set 1 (.bin .mod (.blt .int [(.bin .add (.bin .mul (.v 1) (.k (.int 31))) (.v 2))]) (.k (.int 1000003)))]) (ds.map .int) [.v (.lst (s.map .int)), .v (.int z), q] [] = .nx [.v (.lst (s.map .int)), .v (.int z'), q'] [] := by
    intro ds
    induction ds with
    | nil => exact fun z q => ⟨z, q, rfl⟩
    | cons d ds ih =>
      intro z q
      obtain ⟨z', q', e⟩ := ih ((z * 31 + d) % 1000003) (.v (.int d))
      refine ⟨z', q', ?_⟩
      rw [List.map_cons, forL]
      have : turnS (cx wf n) (.s 2) [.set 1 (.bin .mod (.blt .int [(.bin .add (.bin .mul (.v 1) (.k (.int 31))) (.v 2))]) (.k (.int 1000003)))] (.int d) [.v (.lst (s.map .int)), .v (.int z), q] [] = .nx [.v (.lst (s.map .int)), .v (.int ((z * 31 + d) % 1000003)), .v (.int d)] [] := by
        simp [turnS, mul_small (j := 31) (Or.inr (by decide)), mod_pos (j := 1000003) (by decide)]
      rw [this]
      exact e
  obtain ⟨z', q', e⟩ := lp (s.take 63) 7 .nil
  rw [← List.map_take] at c1
  simp only [List.map_take] at c1 e
  simp [f_l_pool, pSl, c1, e]
  exact ⟨s, 0, 0, 0, z', rfl, by decide, by omega⟩
end
end K
end S_M82y
section S_M82z
set_option linter.all false
set_option maxRecDepth 100000
/-! M82z: the law. -/
namespace K
open G T
section
variable {α β : Type} {wf n : Nat} {S : List Cell} {sl : List Sl} {top : Int} {v a b c : D}
theorem evB_app {C : Cx} : ∀ {xs ys : List G.T} {sl : List Sl} {S : List Cell}, evB C (xs ++ ys) sl S = (evB C xs sl S).nxt fun sl S => evB C ys sl S
  | [], ys, sl, S => by simp
  | x :: xs, ys, sl, S => by
    rw [List.cons_append, evB_cons, evB_cons, nxt_nxt]
    congr 1
    funext sl S
    exact evB_app
def entD (bk row : D) : List D := [.tup [.str s_in, .int 1, row, .tup [.str s_out, .int 0, row]], .tup [.str s_in, .int 0, .tup [], .tup [.str s_dropped, .str s_short]], .tup [.str s_in, .int 0, row, .tup [.str s_back, .int 1, .tup []]], .tup [.str s_forget, .tup [.int 6, .tup [.int 1, .int 2], .tup [.int 3, .int 4]]],
  .tup [.str s_book, bk], .tup [.str s_forget, .tup [.int 17, .tup [.int 0, .int 65535], .tup [.int 65535, .int 0]]]]
def lw1 : List G.T := f_law.body.take 12
def lw2 : List G.T := (f_law.body.drop 12).take 1
def lw3 : List G.T := (f_law.body.drop 13).take 3
def lw4 : List G.T := f_law.body.drop 16
def I1 (sc : D) (sl : List Sl) : Prop := ∃ w bk row od s7 s8 s9 s10 s11 s12 s13, sl = [.v sc, .v (.loc 0), .v w, .v bk, .v row, .v (.lst (entD bk row)), .v (.lst od), s7, s8, s9, s10, s11, s12, s13] ∧ (∀ x ∈ entD bk row, Sm 4110 9 x) ∧ (∀ x ∈ od, Sm 4110 9 x) ∧ od.length ≤ 50 ∧ Sm 4100 8 bk
theorem law1 {s : List Int} (hs : s.length ≤ 63) (hw : 50 ≤ wf) : GF (evB (cx wf (n + 19)) lw1 [.v (.lst (s.map .int)), .nil, .nil, .nil, .nil, .nil, .nil, .nil, .nil, .nil, .nil, .nil, .nil, .nil] []) (I1 (.lst (s.map .int))) (· = .bl true) := by
  obtain ⟨S, e, h⟩ := l_pool (wf := wf) (n := n + 18) hs
  simp only [lw1, f_law, List.take_succ_cons, List.take_zero, evB_cons, evB_nil]
  simp [e]
  refine gf_fl (d_world h) fun w S h hwd => ?_
  refine gf_fl (d_book h hwd hw) fun bk S h hb => ?_
  refine gf_fl (d_row h (by decide) (by decide)) fun row S h ⟨⟨ys, e⟩, hr⟩ => ?_
  have hbp := sm_pur hb (by decide)
  subst e
  have hlp := sm_pur hr (by decide)
  simp [hbp, add_lst, lim]
  refine gf_nx h ⟨w, bk, .tup ys, _, _, _, _, _, _, _, _, rfl, ?_, ?_, by simp, hb⟩
  · intro x hm
    simp only [entD, List.mem_cons, List.not_mem_nil, or_false] at hm
    have h1 := hr.1
    have h2 := hr.2
    have h3 := hb.1
    have h4 := hb.2
    simp only [W_tup, dep_tup] at h1 h2
    have i0 : W (.int 0) = 0 := W_int (by omega)
    have i1 : W (.int 1) = 0 := W_int (by omega)
    have t1 : W (.str s_in) = 2 := by decide
    have t2 : W (.str s_out) = 3 := by decide
    have t3 : W (.str s_book) = 4 := by decide
    have t4 : W (.str s_back) = 4 := by decide
    rcases hm with rfl | rfl | rfl | rfl | rfl | rfl
    · constructor <;> simp [i0, i1, t1, t2] <;> omega
    · exact ⟨by decide, by decide⟩
    · constructor <;> simp [i0, i1, t1, t4] <;> omega
    · exact ⟨by decide, by decide⟩
    · constructor <;> simp [t3] <;> omega
    · exact ⟨by decide, by decide⟩
  · intro x hm
    simp only [List.mem_append, List.mem_cons, List.not_mem_nil, or_false, or_assoc] at hm
    have h1 := hr.1
    have h2 := hr.2
    have h3 := hb.1
    have h4 := hb.2
    simp only [W_tup, dep_tup] at h1 h2
    have i0 : W (.int 0) = 0 := W_int (by omega)
    have i1 : W (.int 1) = 0 := W_int (by omega)
    have i2 : W (.int 2) = 0 := W_int (by omega)
    have i3 : W (.int 3) = 0 := W_int (by omega)
    have t1 : W (.str s_in) = 2 := by decide
    have t2 : W (.str s_out) = 3 := by decide
    have t3 : W (.str s_book) = 4 := by decide
    have t4 : W (.str s_back) = 4 := by decide
    have t5 : W (.str s_dropped) = 7 := by decide
    have t6 : W (.str s_x) = 1 := by decide
    have t7 : W (.str s_halt) = 4 := by decide
    have t8 : W (.str s_lost) = 4 := by decide
    rcases hm with rfl | rfl | rfl | rfl | rfl | rfl | rfl | rfl | rfl | rfl | rfl | rfl | rfl | rfl | rfl | rfl | rfl | rfl | rfl | rfl | rfl | rfl <;>
    first
      | exact ⟨by decide, by decide⟩
      | (constructor <;> simp [i0, i1, i2, i3, t1, t2, t3, t4, t5, t6, t7, t8] <;> omega)
end
end K
end S_M82z
section S_M83a
set_option linter.all false
set_option maxRecDepth 100000
/-! M83a (k82): the law, on. -/
namespace K
open G T
section
variable {α β : Type} {wf n : Nat} {S : List Cell} {sl : List Sl} {top : Int} {v a b c : D}
def I2 (sc : D) (sl : List Sl) : Prop := ∃ w bk row od ex es s8 s9 s10 s11 s12 s13, sl = [.v sc, .v (.loc 0), .v w, .v bk, .v row, .v (.lst (entD bk row)), .v (.lst od), .v (.tup [bk, ex, .tup es]), s8, s9, s10, s11, s12, s13] ∧ (∀ x ∈ entD bk row, Sm 4110 9 x) ∧ (∀ x ∈ od, Sm 4110 9 x) ∧ od.length ≤ 50 ∧ Sm 4100 8 bk ∧ Sm 14 3 ex ∧ (∀ x ∈ es, Sm 4110 9 x) ∧ es.length ≤ 10
theorem law2 {sc : D} (h : PoolOk S) (hi : I1 sc sl) : GF (evB (cx wf (n + 19)) lw2 sl S) (I2 sc) (· = .bl true) := by
  obtain ⟨w, bk, row, od, s7, s8, s9, s10, s11, s12, s13, rfl, he, ho, hl, hb⟩ := hi
  have hbp := sm_pur hb (by decide)
  simp only [lw2, f_law, List.drop_succ_cons, List.drop_zero, List.take_succ_cons, List.take_zero, evB_cons, evB_nil]
  simp
  refine gf_fl (d_exch h) fun ex S h hx => ?_
  refine gf_fl (d_draw (m := 10) h (by decide) (by decide)) fun x S h ⟨r, e, r0, r1⟩ => ?_
  subst e
  have hr : rngOk r = true := by
    unfold rngOk
    simp
    omega
  have hu : (upto 0 r.toNat).length = r.toNat := by simp [upto_eq]
  simp [pRng, hr]
  refine gf_fl (gd_compE (P := Sm 4110 9) h ?_ (by simp) (by rw [hu]; simp [lim]; omega)) fun ys S h ⟨q1, q2⟩ => ?_
  · intro d hd S h
    simp [turn]
    refine gd_bind (d_pickL h (by simp [entD]) (by simp [entD, lim])) fun x S h hx => ?_
    have hx := he x hx
    have hp := sm_pur hx (by decide)
    simp [hp]
    exact gd_ok h ⟨x, rfl, hx⟩
  · have hxp := sm_pur hx (by decide)
    simp [hbp, hxp]
    refine gf_nx h ⟨w, bk, row, od, ex, ys, _, _, _, _, _, _, rfl, he, ho, hl, hb, hx, q1, ?_⟩
    rw [hu] at q2
    simp at q2
    omega
theorem compEx {f : D → List Cell → Rs (Option D)} {S : List Cell} (g : D → D) {P : D → Prop} {ds : List D} (hl : ds.length ≤ lim) (h : ∀ d ∈ ds, f d S = .ok (some (g d)) S ∧ P (g d)) : compL f ds S [] = .ok (ds.map g) S ∧ (∀ y ∈ ds.map g, P y) := by
  refine ⟨compA g hl fun d hd => (h d hd).1, fun y hy => ?_⟩
  obtain ⟨d, hd, rfl⟩ := List.mem_map.mp hy
  exact (h d hd).2
/-- what is tried -/
def Tr (x : D) : Prop := Sm 300000 20 x
theorem list3 {a b c : D} : pSl (.tup [a, b, c]) none (some 2) = some (.tup [a, b]) ∧ pSl (.tup [a, b, c]) none (some 1) = some (.tup [a]) ∧ pSl (.tup [a, b, c]) (some 1) none = some (.tup [b, c]) ∧ pSl (.tup [a, b, c]) (some 2) none = some (.tup [c]) := ⟨rfl, rfl, rfl, rfl⟩
def I3 (sc : D) (sl : List Sl) : Prop := ∃ s1 s2 s3 s4 s5 s6 s7 tr s9 s10 s11 s12 s13, sl = [.v sc, s1, s2, s3, s4, s5, s6, s7, .v (.lst tr), s9, s10, s11, s12, s13] ∧ (∀ x ∈ tr, Tr x) ∧ tr.length ≤ 400
theorem law3 {sc : D} (h : PoolOk S) (hi : I2 sc sl) : GF (evB (cx wf (n + 19)) lw3 sl S) (I3 sc) (· = .bl true) := by
  obtain ⟨w, bk, row, od, ex, es, s8, s9, s10, s11, s12, s13, rfl, he, ho, hl, hb, hx, hes, hel⟩ := hi
  have hbp := sm_pur hb (by decide)
  have hxp := sm_pur hx (by decide)
  have hE := sm_tup hes hel
  have hEn := sm_tup he (n := 6) (by simp [entD])
  have hj : Sm 60000 11 (.tup [bk, ex, .tup es]) := by
    have h1 := hb.1
    have h2 := hb.2
    have h3 := hx.1
    have h4 := hx.2
    have h5 := hE.1
    have h6 := hE.2
    simp only [W_tup, dep_tup] at h5 h6
    constructor
    · simp
      omega
    · simp
      omega
  have hjf := sm_fin hj (by decide)
  have lb := l_booled (wf := wf) (n := n + 6) (S := S) 11 _ hjf hj.2
  rw [show n + 6 + 11 + 2 = n + 19 from by omega] at lb
  have lb1 := bo_sm (.tup [bk, ex, .tup es])
  have lbp := bo_pur hjf
  generalize hbo : bo (.tup [bk, ex, .tup es]) = bj at lb lb1 lbp
  obtain ⟨p1, p2, p3, p4⟩ := list3 (a := bk) (b := ex) (c := .tup es)
  have hlen : (entD bk row).length = 6 := rfl
  -- the comprehensions
  have ja : ∀ d : D, pBin .add (.tup [bk, ex]) (.tup [d]) = some (.tup [bk, ex, d]) := fun d => add_tup (by simp [lim])
  have jb : pBin .add (.tup [bk, ex, .tup es]) (.tup [.tup []]) = some (.tup [bk, ex, .tup es, .tup []]) := add_tup (by simp [lim])
  have jc : pBin .add (.tup [.non]) (.tup [ex, .tup es]) = some (.tup [.non, ex, .tup es]) := add_tup (by simp [lim])
  have jd : pBin .add (.tup [bk]) (.tup [.non]) = some (.tup [bk, .non]) := add_tup (by simp [lim])
  have je : pBin .add (.tup [bk, .non]) (.tup [.tup es]) = some (.tup [bk, .non, .tup es]) := add_tup (by simp [lim])
  have c1 : ∀ S s8, compL (turn (cx wf (n + 19)) (.s 13) (.bin .add (.sl (.v 7) none (some (.k (.int 2)))) (.tup [(.tup [(.v 13)])])) [] [.v sc, .v (.loc 0), .v w, .v bk, .v row, .v (.lst (entD bk row)), .v (.lst od), .v (.tup [bk, ex, .tup es]), s8, s9, s10, s11, s12, s13]) (entD bk row ++ od) S [] = .ok ((entD bk row ++ od).map fun e => .tup [bk, ex, .tup [e]]) S := by
    intro S s8
    refine compA (fun e => .tup [bk, ex, .tup [e]]) (by rw [List.length_append, hlen]; unfold lim; omega) fun d hd => ?_
    have hd : Sm 4110 9 d := (List.mem_append.mp hd).elim (he d) (ho d)
    have hp := sm_pur hd (by decide)
    simp [turn, p1, hp, ja]
  have c2 : ∀ S s8, compL (turn (cx wf (n + 19)) (.s 13) (.bin .add (.sl (.v 7) none (some (.k (.int 2)))) (.tup [(.bin .add (.blt .tuple [(.v 5)]) (.tup [(.v 13)]))])) [] [.v sc, .v (.loc 0), .v w, .v bk, .v row, .v (.lst (entD bk row)), .v (.lst od), .v (.tup [bk, ex, .tup es]), s8, s9, s10, s11, s12, s13]) od S [] = .ok (od.map fun e => .tup [bk, ex, .tup (entD bk row ++ [e])]) S := by
    intro S s8
    refine compA (fun e => .tup [bk, ex, .tup (entD bk row ++ [e])]) (by unfold lim; omega) fun d hd => ?_
    have hp := sm_pur (ho d hd) (by decide)
    have ha : pBin .add (.tup (entD bk row)) (.tup [d]) = some (.tup (entD bk row ++ [d])) := add_tup (by rw [hlen]; simp [lim])
    simp [turn, p1, hp, ha, ja]
  have t1 : ∀ z ∈ (entD bk row ++ od).map fun e => D.tup [bk, ex, .tup [e]], Tr z := by
    intro z hz
    obtain ⟨e, hd, rfl⟩ := List.mem_map.mp hz
    have hd : Sm 4110 9 e := (List.mem_append.mp hd).elim (he e) (ho e)
    have h1 := hb.1
    have h2 := hb.2
    have h3 := hx.1
    have h4 := hx.2
    have h5 := hd.1
    have h6 := hd.2
    constructor <;> simp <;> omega
  have t2 : ∀ z ∈ od.map fun e => D.tup [bk, ex, .tup (entD bk row ++ [e])], Tr z := by
    intro z hz
    obtain ⟨e, hd, rfl⟩ := List.mem_map.mp hz
    have hd := ho e hd
    have h1 := hb.1
    have h2 := hb.2
    have h3 := hx.1
    have h4 := hx.2
    have h5 := hd.1
    have h6 := hd.2
    have h7 := hEn.1
    have h8 := hEn.2
    simp only [W_tup, dep_tup] at h7 h8
    constructor
    · simp [WL_app]
      omega
    · simp [depL_app]
      omega
  have entp : pBin .add (.lst (entD bk row)) (.lst od) = some (.lst (entD bk row ++ od)) := add_lst (by rw [hlen]; unfold lim; omega)
  simp only [lw3, f_law, List.drop_succ_cons, List.drop_zero, List.take_succ_cons, List.take_zero, evB_cons, evB_nil]
  simp [hbp, hxp, lb, lbp, p1, p2, p3, p4, ja, jb, jc, jd, je]
  have T8 : ∀ z ∈ [D.tup [bk, ex, .tup es], .lst [bk, ex, .tup es], bj, .tup [bk, ex], .tup [bk, ex, .tup es, .tup []], .tup [.non, ex, .tup es], .tup [bk, .non, .tup es], .tup [bk, ex, .lst es]], Tr z := by
    intro z hz
    have h1 := hb.1
    have h2 := hb.2
    have h3 := hx.1
    have h4 := hx.2
    have h5 := hE.1
    have h6 := hE.2
    have h7 := hj.1
    have h8 := hj.2
    simp only [W_tup, dep_tup] at h5 h6 h7 h8
    simp only [List.mem_cons, List.not_mem_nil, or_false] at hz
    rcases hz with rfl | rfl | rfl | rfl | rfl | rfl | rfl | rfl
    · constructor <;> simp only [W_tup, dep_tup] <;> omega
    · constructor <;> simp only [W_lst, dep_lst] <;> omega
    · constructor
      · simp only [W_tup, dep_tup] at lb1
        omega
      · simp only [W_tup, dep_tup] at lb1
        omega
    · constructor <;> simp <;> omega
    · constructor <;> simp <;> omega
    · constructor <;> simp <;> omega
    · constructor <;> simp <;> omega
    · constructor <;> simp <;> omega
  have pr8 : pRng [.int 8] = some (upto 0 8) := rfl
  rw [add_lst (by simp [lim])]
  simp only [List.cons_append, List.nil_append]
  have l8 : [D.tup [bk, ex, .tup es], .lst [bk, ex, .tup es], bj, .tup [bk, ex], .tup [bk, ex, .tup es, .tup []], .tup [.non, ex, .tup es], .tup [bk, .non, .tup es], .tup [bk, ex, .lst es]].length = 8 := rfl
  generalize [D.tup [bk, ex, .tup es], .lst [bk, ex, .tup es], bj, .tup [bk, ex], .tup [bk, ex, .tup es, .tup []], .tup [.non, ex, .tup es], .tup [bk, .non, .tup es], .tup [bk, ex, .lst es]] = t8 at T8 l8
  simp [entp, c1, c2, pr8]
  rw [add_lst (by rw [show lim = 16777216 from rfl]; simp [hlen, l8]; omega)]
  simp
  rw [add_lst (by rw [show lim = 16777216 from rfl]; simp [hlen, l8]; omega)]
  simp
  refine gf_fl (gd_compE (P := Tr) h ?_ (by simp) (by simp [upto_eq, lim])) fun ys S h ⟨q1, q2⟩ => ?_
  · intro d hd S h
    simp [turn]
    have := d_bent (wf := wf) (n := n + 5) 11 _ S hjf hj.2 (Nat.le_trans hj.1 (by decide)) h
    rw [show n + 5 + 11 + 3 = n + 19 from by omega] at this
    refine gd_bind this fun x S h ⟨x1, x2⟩ => ?_
    have h1 := hj.1
    have h2 := hj.2
    have ht : Tr x := ⟨by omega, by omega⟩
    have hp := sm_pur ht (by decide)
    simp [hp]
    exact gd_ok h ⟨x, rfl, ht⟩
  · have l4 : (upto 0 8).length = 8 := by simp [upto_eq]
    rw [l4] at q2
    simp only [List.length_nil, Nat.zero_add] at q2
    rw [add_lst (by rw [show lim = 16777216 from rfl]; simp [hlen, l8, q2]; omega)]
    simp
    refine gf_nx h ⟨_, _, _, _, _, _, _, _, _, _, _, _, _, rfl, ?_, ?_⟩
    · intro z hz
      simp only [List.map_append] at t1
      simp only [List.mem_append] at hz t1
      rcases hz with hz | hz | hz | hz | hz
      · exact T8 z hz
      · exact t1 z (.inl hz)
      · exact t1 z (.inr hz)
      · exact t2 z hz
      · exact q1 z hz
    · simp [hlen, l8, q2]
      omega
theorem l_sameb {p q : Bool} : ev wf (n + 1) 27 [.bl p, .bl q] S = .ok (.bl (p == q)) S := by
  rw [show ev wf (n + 1) 27 [.bl p, .bl q] S = (evB (cx wf n) f_l_same.body [.v (.bl p), .v (.bl q), .nil] S).out from rfl]
  simp [f_l_same]
def I4 (sc : D) (tr : List D) (sl : List Sl) : Prop := ∃ s1 s2 s3 s4 s5 s6 s7 s9 s10 s11 s12 s13, sl = [.v sc, s1, s2, s3, s4, s5, s6, s7, .v (.lst tr), s9, s10, s11, s12, s13]
theorem law4 {sc : D} (h : PoolOk S) (hi : I3 sc sl) : GF (evB (cx wf (n + 19)) lw4 sl S) (fun _ => False) (· = .bl true) := by
  obtain ⟨s1, s2, s3, s4, s5, s6, s7, tr, s9, s10, s11, s12, s13, rfl, ht, hl⟩ := hi
  simp only [lw4, f_law, List.drop_succ_cons, List.drop_zero]
  rw [evB_cons]
  refine gf_nxt (I' := I4 sc tr) ?_ ?_
  · simp
    refine (?_ : GF _ (I4 sc tr) (· = .bl true))
    have := gf_for (R := (· = .bl true)) (f := turnS (cx wf (n + 19)) (.s 9) [.set 10 (.cal 65 [(.v 9)]), .set 11 (.blt .repr [(.v 9)]), .ife (.or [(.not (.tr (.cal 27 [(.cal 26 [(.v 9)]), (.v 10)]))), (.tr (.cmp .ne (.blt .repr [(.v 9)]) (.v 11)))]) [.ret (.k (.bl false))] []]) (fun _ => I4 sc tr) tr 0 _ S h ⟨s1, s2, s3, s4, s5, s6, s7, s9, s10, s11, s12, s13, rfl⟩ ?_
    · exact this
    · rintro j d sl S hd h ⟨s1, s2, s3, s4, s5, s6, s7, s9, s10, s11, s12, s13, rfl⟩
      have hx := ht d (List.mem_of_getElem? hd)
      have hf := sm_fin hx (by decide)
      have hj := h_jou (wf := wf) (n := n + 9) (S := S) hf
      have lj := l_jou (wf := wf) (n := n + 10) (S := S) hf
      have hp := sm_pur hx (by decide)
      have hr : pB .repr [d] = some (.str d.py.shown.cps.toList) := by
        show (if d.pur && d.py.showable && decide (d.dep ≤ 60) && decide (d.py.shown.length ≤ lim) then some (D.str d.py.shown.cps.toList) else none) = _
        have w1 := (W_py d (Nat.le_trans hx.1 (by decide))).1
        have w2 := W_shown (Nat.le_trans hx.1 (by decide))
        have w3 : d.dep ≤ 60 := Nat.le_trans hx.2 (by decide)
        rw [if_pos (by simp [hp, w1, w2, w3])]
      have hd' : dr S d = d := dr_pur hp
      simp [turnS, lj, hj, hr, hd', l_sameb]
      exact gf_nx h ⟨_, _, _, _, _, _, _, _, _, _, _, _, rfl⟩
  · rintro sl S h ⟨s1, s2, s3, s4, s5, s6, s7, s9, s10, s11, s12, s13, rfl⟩
    simp
    exact gf_ret h rfl
theorem law_ok {s : List Int} (hs : s.length ≤ 63) (hw : 50 ≤ wf) : ∃ S', ev wf (n + 20) 66 [.lst (s.map .int)] [] = .ok (.bl true) S' := by
  rw [show ev wf (n + 20) 66 [.lst (s.map .int)] [] = (evB (cx wf (n + 19)) f_law.body [.v (.lst (s.map .int)), .nil, .nil, .nil, .nil, .nil, .nil, .nil, .nil, .nil, .nil, .nil, .nil, .nil] []).out from rfl]
  rw [show f_law.body = lw1 ++ (lw2 ++ (lw3 ++ lw4)) from rfl]
  rw [evB_app]
  have : GF ((evB (cx wf (n + 19)) lw1 [.v (.lst (s.map .int)), .nil, .nil, .nil, .nil, .nil, .nil, .nil, .nil, .nil, .nil, .nil, .nil, .nil] []).nxt fun sl S => evB (cx wf (n + 19)) (lw2 ++ (lw3 ++ lw4)) sl S) (fun _ => False) (· = .bl true) := by
    refine gf_nxt (law1 hs hw) fun sl S h hi => ?_
    rw [evB_app]
    refine gf_nxt (law2 h hi) fun sl S h hi => ?_
    rw [evB_app]
    exact gf_nxt (law3 h hi) fun sl S h hi => law4 h hi
  rcases this with ⟨sl', S', e, _, z⟩ | ⟨d, S', e, _, rfl⟩
  · exact z.elim
  · exact ⟨S', by rw [e]; rfl⟩
end
end K
end S_M83a
set_option linter.all false
set_option maxRecDepth 100000
set_option maxHeartbeats 0
namespace E
open PySem PySem.Spec PyProof.Rows L2 G T
def topS (i : Nat) : Stmt := PySem.Challenge.pw_gatewarden_k82_journals_told.main.body.getD i (.Pass ⟨0, 0, 0, 0⟩)
def tab : List (PySem.Str × Gk) := [(("is_number" : PySem.Str), .fn 0), (("is_count" : PySem.Str), .fn 1), (("is_pair" : PySem.Str), .fn 2), (("is_set" : PySem.Str), .fn 3), (("set_of" : PySem.Str), .fn 4), (("both" : PySem.Str), .fn 5), (("is_row" : PySem.Str), .fn 6), (("has_ports" : PySem.Str), .fn 7), (("is_word" : PySem.Str), .fn 8), (("top_of" : PySem.Str), .fn 9), (("is_condition" : PySem.Str), .fn 10), (("is_conditions" : PySem.Str), .fn 11), (("is_decision" : PySem.Str), .fn 12), (("is_action" : PySem.Str), .fn 13), (("is_rule" : PySem.Str), .fn 14), (("is_chain" : PySem.Str), .fn 15), (("jumps_well" : PySem.Str), .fn 16), (("is_book" : PySem.Str), .fn 17), (("is_prefix" : PySem.Str), .fn 18), (("span" : PySem.Str), .fn 19), (("held" : PySem.Str), .fn 20), (("is_exchange" : PySem.Str), .fn 21), (("is_end" : PySem.Str), .fn 22), (("is_key" : PySem.Str), .fn 23), (("is_result" : PySem.Str), .fn 24), (("is_entry" : PySem.Str), .fn 25), (("is_journal" : PySem.Str), .fn 26), (("_law_same" : PySem.Str), .fn 27), (("_law_is_integer" : PySem.Str), .fn 28), (("_law_pool" : PySem.Str), .fn 29), (("_law_spread" : PySem.Str), .fn 30), (("_law_draw" : PySem.Str), .fn 31), (("_law_pick" : PySem.Str), .fn 32), (("_law_bent" : PySem.Str), .fn 33), (("_law_booled" : PySem.Str), .fn 34), (("_law_runs" : PySem.Str), .fn 35), (("_law_is_set" : PySem.Str), .fn 36), (("_law_power" : PySem.Str), .fn 37), (("_law_prefix" : PySem.Str), .fn 38), (("_law_is_prefix" : PySem.Str), .fn 39), (("_law_last" : PySem.Str), .fn 40), (("_law_apart" : PySem.Str), .fn 41), (("_law_is_exchange" : PySem.Str), .fn 42), (("_law_exchange" : PySem.Str), .fn 43), (("_law_row" : PySem.Str), .fn 44), (("_law_is_number" : PySem.Str), .fn 45), (("_law_is_row" : PySem.Str), .fn 46), (("_law_tops" : PySem.Str), .fn 47), (("_law_fields" : PySem.Str), .fn 48), (("_law_top_of" : PySem.Str), .fn 49), (("_law_decision" : PySem.Str), .fn 50), (("_law_action" : PySem.Str), .fn 51), (("_law_spelled" : PySem.Str), .fn 52), (("_law_chain_words" : PySem.Str), .fn 53), (("_law_is_word" : PySem.Str), .fn 54), (("_law_is_condition" : PySem.Str), .fn 55), (("_law_is_decision" : PySem.Str), .fn 56), (("_law_is_action" : PySem.Str), .fn 57), (("_law_is_rule" : PySem.Str), .fn 58), (("_law_is_book" : PySem.Str), .fn 59), (("_law_slim_world" : PySem.Str), .fn 60), (("_law_slim_numbers" : PySem.Str), .fn 61), (("_law_slim_conditions" : PySem.Str), .fn 62), (("_law_slim_book" : PySem.Str), .fn 63), (("_law_is_entry" : PySem.Str), .fn 64), (("_law_is_journal" : PySem.Str), .fn 65), (("law" : PySem.Str), .fn 66), (("STREAM" : PySem.Str), .con 0), (("ASKING" : PySem.Str), .con 1), (("FIELDS" : PySem.Str), .con 2), (("TOPS" : PySem.Str), .con 3), (("LETTERS" : PySem.Str), .con 4), (("TOP" : PySem.Str), .con 5), (("BITS" : PySem.Str), .con 6), (("all" : PySem.Str), .blt), (("sorted" : PySem.Str), .blt), (("tuple" : PySem.Str), .blt), (("range" : PySem.Str), .blt), (("isinstance" : PySem.Str), .blt), (("int" : PySem.Str), .blt), (("str" : PySem.Str), .blt), (("list" : PySem.Str), .blt), (("len" : PySem.Str), .blt), (("bool" : PySem.Str), .blt), (("set" : PySem.Str), .blt), (("repr" : PySem.Str), .blt), (("max" : PySem.Str), .blt), (("min" : PySem.Str), .blt)]
theorem c_0 : chkD tab ["value", "top"] ["value", "top"] f_is_number (cst 0) (topS 1) = true := by decide +kernel
theorem c_1 : chkD tab ["value"] ["value"] f_is_count (cst 1) (topS 2) = true := by decide +kernel
theorem c_2 : chkD tab ["value"] ["value"] f_is_pair (cst 2) (topS 3) = true := by decide +kernel
theorem c_3 : chkD tab ["value", "k", "pair"] ["value"] f_is_set (cst 3) (topS 4) = true := by decide +kernel
theorem c_4 : chkD tab ["pairs", "found", "low", "high"] ["pairs"] f_set_of (cst 4) (topS 5) = true := by decide +kernel
theorem c_5 : chkD tab ["a", "b", "found", "low", "high", "other", "last"] ["a", "b"] f_both (cst 5) (topS 6) = true := by decide +kernel
theorem c_6 : chkD tab ["value", "byte"] ["value"] f_is_row (cst 6) (topS 10) = true := by decide +kernel
theorem c_7 : chkD tab ["kind"] ["kind"] f_has_ports (cst 7) (topS 14) = true := by decide +kernel
theorem c_8 : chkD tab ["value", "sign"] ["value"] f_is_word (cst 8) (topS 17) = true := by decide +kernel
theorem c_9 : chkD tab ["field"] ["field"] f_top_of (cst 9) (topS 18) = true := by decide +kernel
theorem c_10 : chkD tab ["value", "top", "pair"] ["value"] f_is_condition (cst 10) (topS 19) = true := by decide +kernel
theorem c_11 : chkD tab ["value", "condition"] ["value"] f_is_conditions (cst 11) (topS 20) = true := by decide +kernel
theorem c_12 : chkD tab ["value"] ["value"] f_is_decision (cst 12) (topS 21) = true := by decide +kernel
theorem c_13 : chkD tab ["value"] ["value"] f_is_action (cst 13) (topS 22) = true := by decide +kernel
theorem c_14 : chkD tab ["value"] ["value"] f_is_rule (cst 14) (topS 23) = true := by decide +kernel
theorem c_15 : chkD tab ["value", "rule"] ["value"] f_is_chain (cst 15) (topS 24) = true := by decide +kernel
theorem c_16 : chkD tab ["book", "words", "k", "chain", "_", "action"] ["book"] f_jumps_well (cst 16) (topS 25) = true := by decide +kernel
theorem c_17 : chkD tab ["value", "chain"] ["value"] f_is_book (cst 17) (topS 26) = true := by decide +kernel
theorem c_18 : chkD tab ["value"] ["value"] f_is_prefix (cst 18) (topS 30) = true := by decide +kernel
theorem c_19 : chkD tab ["length", "many", "_"] ["length"] f_span (cst 19) (topS 31) = true := by decide +kernel
theorem c_20 : chkD tab ["prefix"] ["prefix"] f_held (cst 20) (topS 32) = true := by decide +kernel
theorem c_21 : chkD tab ["value", "known", "pair", "k", "j"] ["value"] f_is_exchange (cst 21) (topS 33) = true := by decide +kernel
theorem c_22 : chkD tab ["value", "item"] ["value"] f_is_end (cst 22) (topS 35) = true := by decide +kernel
theorem c_23 : chkD tab ["value"] ["value"] f_is_key (cst 23) (topS 36) = true := by decide +kernel
theorem c_24 : chkD tab ["value"] ["value"] f_is_result (cst 24) (topS 37) = true := by decide +kernel
theorem c_25 : chkD tab ["value"] ["value"] f_is_entry (cst 25) (topS 38) = true := by decide +kernel
theorem c_26 : chkD tab ["value", "entry"] ["value"] f_is_journal (cst 26) (topS 39) = true := by decide +kernel
theorem c_27 : chkD tab ["actual", "due", "k"] ["actual", "due"] f_l_same (cst 27) (topS 41) = true := by decide +kernel
theorem c_28 : chkD tab ["actual"] ["actual"] f_l_is_integer (cst 28) (topS 42) = true := by decide +kernel
theorem c_29 : chkD tab ["script", "salt", "cell"] ["script"] f_l_pool (cst 29) (topS 43) = true := by decide +kernel
theorem c_30 : chkD tab ["cell", "mixed", "total", "k"] ["cell"] f_l_spread (cst 30) (topS 44) = true := by decide +kernel
theorem c_31 : chkD tab ["pool", "many", "value", "cell", "mixed"] ["pool", "many"] f_l_draw (cst 31) (topS 45) = true := by decide +kernel
theorem c_32 : chkD tab ["pool", "items"] ["pool", "items"] f_l_pick (cst 32) (topS 46) = true := by decide +kernel
theorem c_33 : chkD tab ["pool", "value", "turn", "at", "other", "items"] ["pool", "value"] f_l_bent (cst 33) (topS 47) = true := by decide +kernel
theorem c_34 : chkD tab ["value", "part"] ["value"] f_l_booled (cst 34) (topS 48) = true := by decide +kernel
theorem c_35 : chkD tab ["numbers", "found", "number"] ["numbers"] f_l_runs (cst 35) (topS 49) = true := by decide +kernel
theorem c_36 : chkD tab ["value", "last", "pair"] ["value"] f_l_is_set (cst 36) (topS 50) = true := by decide +kernel
theorem c_37 : chkD tab ["many", "value", "k"] ["many"] f_l_power (cst 37) (topS 51) = true := by decide +kernel
theorem c_38 : chkD tab ["pool", "length"] ["pool"] f_l_prefix (cst 38) (topS 52) = true := by decide +kernel
theorem c_39 : chkD tab ["value"] ["value"] f_l_is_prefix (cst 39) (topS 53) = true := by decide +kernel
theorem c_40 : chkD tab ["prefix"] ["prefix"] f_l_last (cst 40) (topS 54) = true := by decide +kernel
theorem c_41 : chkD tab ["one", "two"] ["one", "two"] f_l_apart (cst 41) (topS 55) = true := by decide +kernel
theorem c_42 : chkD tab ["value", "known", "pair", "prefix", "other"] ["value"] f_l_is_exchange (cst 42) (topS 56) = true := by decide +kernel
theorem c_43 : chkD tab ["pool", "most", "found", "k", "one", "two"] ["pool", "most"] f_l_exchange (cst 43) (topS 57) = true := by decide +kernel
theorem c_44 : chkD tab ["pool", "many", "k"] ["pool", "many"] f_l_row (cst 44) (topS 58) = true := by decide +kernel
theorem c_45 : chkD tab ["value", "top"] ["value", "top"] f_l_is_number (cst 45) (topS 59) = true := by decide +kernel
theorem c_46 : chkD tab ["value", "byte"] ["value"] f_l_is_row (cst 46) (topS 60) = true := by decide +kernel
theorem c_47 : chkD tab [] [] f_l_tops (cst 47) (topS 61) = true := by decide +kernel
theorem c_48 : chkD tab [] [] f_l_fields (cst 48) (topS 62) = true := by decide +kernel
theorem c_49 : chkD tab ["field"] ["field"] f_l_top_of (cst 49) (topS 63) = true := by decide +kernel
theorem c_50 : chkD tab ["pool"] ["pool"] f_l_decision (cst 50) (topS 64) = true := by decide +kernel
theorem c_51 : chkD tab ["pool", "later", "first", "turn"] ["pool", "later", "first"] f_l_action (cst 51) (topS 65) = true := by decide +kernel
theorem c_52 : chkD tab ["number", "word", "left"] ["number"] f_l_spelled (cst 52) (topS 66) = true := by decide +kernel
theorem c_53 : chkD tab ["pool", "many", "taken", "k", "number"] ["pool", "many"] f_l_chain_words (cst 53) (topS 67) = true := by decide +kernel
theorem c_54 : chkD tab ["value", "sign"] ["value"] f_l_is_word (cst 54) (topS 68) = true := by decide +kernel
theorem c_55 : chkD tab ["value"] ["value"] f_l_is_condition (cst 55) (topS 69) = true := by decide +kernel
theorem c_56 : chkD tab ["value"] ["value"] f_l_is_decision (cst 56) (topS 70) = true := by decide +kernel
theorem c_57 : chkD tab ["value"] ["value"] f_l_is_action (cst 57) (topS 71) = true := by decide +kernel
theorem c_58 : chkD tab ["value", "condition"] ["value"] f_l_is_rule (cst 58) (topS 72) = true := by decide +kernel
theorem c_59 : chkD tab ["value", "chain", "words", "k", "back", "rule"] ["value"] f_l_is_book (cst 59) (topS 73) = true := by decide +kernel
theorem c_60 : chkD tab ["pool", "base"] ["pool"] f_l_slim_world (cst 60) (topS 74) = true := by decide +kernel
theorem c_61 : chkD tab ["pool", "field", "mask", "k"] ["pool", "field"] f_l_slim_numbers (cst 61) (topS 75) = true := by decide +kernel
theorem c_62 : chkD tab ["pool", "world", "most", "found", "k", "field", "turn", "numbers", "fields", "base"] ["pool", "world", "most"] f_l_slim_conditions (cst 62) (topS 76) = true := by decide +kernel
theorem c_63 : chkD tab ["pool", "world", "rules", "words", "found", "k", "row", "j"] ["pool", "world", "rules"] f_l_slim_book (cst 63) (topS 77) = true := by decide +kernel
theorem c_64 : chkD tab ["value", "result", "key", "item"] ["value"] f_l_is_entry (cst 64) (topS 78) = true := by decide +kernel
theorem c_65 : chkD tab ["value", "entry"] ["value"] f_l_is_journal (cst 65) (topS 79) = true := by decide +kernel
theorem c_66 : chkD tab ["script", "pool", "world", "book", "row", "entries", "odd", "journal", "tried", "value", "due", "kept", "k", "entry"] ["script"] f_law (cst 66) (topS 80) = true := by decide +kernel
def d_0 : He.DefD := ⟨("is_number", none), "is_number", "is_number", defArgs (topS 1), defBody (topS 1), defScope (topS 1), [], []⟩
def d_1 : He.DefD := ⟨("is_count", none), "is_count", "is_count", defArgs (topS 2), defBody (topS 2), defScope (topS 2), [], []⟩
def d_2 : He.DefD := ⟨("is_pair", none), "is_pair", "is_pair", defArgs (topS 3), defBody (topS 3), defScope (topS 3), [], []⟩
def d_3 : He.DefD := ⟨("is_set", none), "is_set", "is_set", defArgs (topS 4), defBody (topS 4), defScope (topS 4), [], []⟩
def d_4 : He.DefD := ⟨("set_of", none), "set_of", "set_of", defArgs (topS 5), defBody (topS 5), defScope (topS 5), [], []⟩
def d_5 : He.DefD := ⟨("both", none), "both", "both", defArgs (topS 6), defBody (topS 6), defScope (topS 6), [], []⟩
def d_6 : He.DefD := ⟨("is_row", none), "is_row", "is_row", defArgs (topS 10), defBody (topS 10), defScope (topS 10), [], []⟩
def d_7 : He.DefD := ⟨("has_ports", none), "has_ports", "has_ports", defArgs (topS 14), defBody (topS 14), defScope (topS 14), [], []⟩
def d_8 : He.DefD := ⟨("is_word", none), "is_word", "is_word", defArgs (topS 17), defBody (topS 17), defScope (topS 17), [], []⟩
def d_9 : He.DefD := ⟨("top_of", none), "top_of", "top_of", defArgs (topS 18), defBody (topS 18), defScope (topS 18), [], []⟩
def d_10 : He.DefD := ⟨("is_condition", none), "is_condition", "is_condition", defArgs (topS 19), defBody (topS 19), defScope (topS 19), [], []⟩
def d_11 : He.DefD := ⟨("is_conditions", none), "is_conditions", "is_conditions", defArgs (topS 20), defBody (topS 20), defScope (topS 20), [], []⟩
def d_12 : He.DefD := ⟨("is_decision", none), "is_decision", "is_decision", defArgs (topS 21), defBody (topS 21), defScope (topS 21), [], []⟩
def d_13 : He.DefD := ⟨("is_action", none), "is_action", "is_action", defArgs (topS 22), defBody (topS 22), defScope (topS 22), [], []⟩
def d_14 : He.DefD := ⟨("is_rule", none), "is_rule", "is_rule", defArgs (topS 23), defBody (topS 23), defScope (topS 23), [], []⟩
def d_15 : He.DefD := ⟨("is_chain", none), "is_chain", "is_chain", defArgs (topS 24), defBody (topS 24), defScope (topS 24), [], []⟩
def d_16 : He.DefD := ⟨("jumps_well", none), "jumps_well", "jumps_well", defArgs (topS 25), defBody (topS 25), defScope (topS 25), [], []⟩
def d_17 : He.DefD := ⟨("is_book", none), "is_book", "is_book", defArgs (topS 26), defBody (topS 26), defScope (topS 26), [], []⟩
def d_18 : He.DefD := ⟨("is_prefix", none), "is_prefix", "is_prefix", defArgs (topS 30), defBody (topS 30), defScope (topS 30), [], []⟩
def d_19 : He.DefD := ⟨("span", none), "span", "span", defArgs (topS 31), defBody (topS 31), defScope (topS 31), [], []⟩
def d_20 : He.DefD := ⟨("held", none), "held", "held", defArgs (topS 32), defBody (topS 32), defScope (topS 32), [], []⟩
def d_21 : He.DefD := ⟨("is_exchange", none), "is_exchange", "is_exchange", defArgs (topS 33), defBody (topS 33), defScope (topS 33), [], []⟩
def d_22 : He.DefD := ⟨("is_end", none), "is_end", "is_end", defArgs (topS 35), defBody (topS 35), defScope (topS 35), [], []⟩
def d_23 : He.DefD := ⟨("is_key", none), "is_key", "is_key", defArgs (topS 36), defBody (topS 36), defScope (topS 36), [], []⟩
def d_24 : He.DefD := ⟨("is_result", none), "is_result", "is_result", defArgs (topS 37), defBody (topS 37), defScope (topS 37), [], []⟩
def d_25 : He.DefD := ⟨("is_entry", none), "is_entry", "is_entry", defArgs (topS 38), defBody (topS 38), defScope (topS 38), [], []⟩
def d_26 : He.DefD := ⟨("is_journal", none), "is_journal", "is_journal", defArgs (topS 39), defBody (topS 39), defScope (topS 39), [], []⟩
def d_27 : He.DefD := ⟨("_law_same", none), "_law_same", "_law_same", defArgs (topS 41), defBody (topS 41), defScope (topS 41), [], []⟩
def d_28 : He.DefD := ⟨("_law_is_integer", none), "_law_is_integer", "_law_is_integer", defArgs (topS 42), defBody (topS 42), defScope (topS 42), [], []⟩
def d_29 : He.DefD := ⟨("_law_pool", none), "_law_pool", "_law_pool", defArgs (topS 43), defBody (topS 43), defScope (topS 43), [], []⟩
def d_30 : He.DefD := ⟨("_law_spread", none), "_law_spread", "_law_spread", defArgs (topS 44), defBody (topS 44), defScope (topS 44), [], []⟩
def d_31 : He.DefD := ⟨("_law_draw", none), "_law_draw", "_law_draw", defArgs (topS 45), defBody (topS 45), defScope (topS 45), [], []⟩
def d_32 : He.DefD := ⟨("_law_pick", none), "_law_pick", "_law_pick", defArgs (topS 46), defBody (topS 46), defScope (topS 46), [], []⟩
def d_33 : He.DefD := ⟨("_law_bent", none), "_law_bent", "_law_bent", defArgs (topS 47), defBody (topS 47), defScope (topS 47), [], []⟩
def d_34 : He.DefD := ⟨("_law_booled", none), "_law_booled", "_law_booled", defArgs (topS 48), defBody (topS 48), defScope (topS 48), [], []⟩
def d_35 : He.DefD := ⟨("_law_runs", none), "_law_runs", "_law_runs", defArgs (topS 49), defBody (topS 49), defScope (topS 49), [], []⟩
def d_36 : He.DefD := ⟨("_law_is_set", none), "_law_is_set", "_law_is_set", defArgs (topS 50), defBody (topS 50), defScope (topS 50), [], []⟩
def d_37 : He.DefD := ⟨("_law_power", none), "_law_power", "_law_power", defArgs (topS 51), defBody (topS 51), defScope (topS 51), [], []⟩
def d_38 : He.DefD := ⟨("_law_prefix", none), "_law_prefix", "_law_prefix", defArgs (topS 52), defBody (topS 52), defScope (topS 52), [], []⟩
def d_39 : He.DefD := ⟨("_law_is_prefix", none), "_law_is_prefix", "_law_is_prefix", defArgs (topS 53), defBody (topS 53), defScope (topS 53), [], []⟩
def d_40 : He.DefD := ⟨("_law_last", none), "_law_last", "_law_last", defArgs (topS 54), defBody (topS 54), defScope (topS 54), [], []⟩
def d_41 : He.DefD := ⟨("_law_apart", none), "_law_apart", "_law_apart", defArgs (topS 55), defBody (topS 55), defScope (topS 55), [], []⟩
def d_42 : He.DefD := ⟨("_law_is_exchange", none), "_law_is_exchange", "_law_is_exchange", defArgs (topS 56), defBody (topS 56), defScope (topS 56), [], []⟩
def d_43 : He.DefD := ⟨("_law_exchange", none), "_law_exchange", "_law_exchange", defArgs (topS 57), defBody (topS 57), defScope (topS 57), [], []⟩
def d_44 : He.DefD := ⟨("_law_row", none), "_law_row", "_law_row", defArgs (topS 58), defBody (topS 58), defScope (topS 58), [], []⟩
def d_45 : He.DefD := ⟨("_law_is_number", none), "_law_is_number", "_law_is_number", defArgs (topS 59), defBody (topS 59), defScope (topS 59), [], []⟩
def d_46 : He.DefD := ⟨("_law_is_row", none), "_law_is_row", "_law_is_row", defArgs (topS 60), defBody (topS 60), defScope (topS 60), [], []⟩
def d_47 : He.DefD := ⟨("_law_tops", none), "_law_tops", "_law_tops", defArgs (topS 61), defBody (topS 61), defScope (topS 61), [], []⟩
def d_48 : He.DefD := ⟨("_law_fields", none), "_law_fields", "_law_fields", defArgs (topS 62), defBody (topS 62), defScope (topS 62), [], []⟩
def d_49 : He.DefD := ⟨("_law_top_of", none), "_law_top_of", "_law_top_of", defArgs (topS 63), defBody (topS 63), defScope (topS 63), [], []⟩
def d_50 : He.DefD := ⟨("_law_decision", none), "_law_decision", "_law_decision", defArgs (topS 64), defBody (topS 64), defScope (topS 64), [], []⟩
def d_51 : He.DefD := ⟨("_law_action", none), "_law_action", "_law_action", defArgs (topS 65), defBody (topS 65), defScope (topS 65), [], []⟩
def d_52 : He.DefD := ⟨("_law_spelled", none), "_law_spelled", "_law_spelled", defArgs (topS 66), defBody (topS 66), defScope (topS 66), [], []⟩
def d_53 : He.DefD := ⟨("_law_chain_words", none), "_law_chain_words", "_law_chain_words", defArgs (topS 67), defBody (topS 67), defScope (topS 67), [], []⟩
def d_54 : He.DefD := ⟨("_law_is_word", none), "_law_is_word", "_law_is_word", defArgs (topS 68), defBody (topS 68), defScope (topS 68), [], []⟩
def d_55 : He.DefD := ⟨("_law_is_condition", none), "_law_is_condition", "_law_is_condition", defArgs (topS 69), defBody (topS 69), defScope (topS 69), [], []⟩
def d_56 : He.DefD := ⟨("_law_is_decision", none), "_law_is_decision", "_law_is_decision", defArgs (topS 70), defBody (topS 70), defScope (topS 70), [], []⟩
def d_57 : He.DefD := ⟨("_law_is_action", none), "_law_is_action", "_law_is_action", defArgs (topS 71), defBody (topS 71), defScope (topS 71), [], []⟩
def d_58 : He.DefD := ⟨("_law_is_rule", none), "_law_is_rule", "_law_is_rule", defArgs (topS 72), defBody (topS 72), defScope (topS 72), [], []⟩
def d_59 : He.DefD := ⟨("_law_is_book", none), "_law_is_book", "_law_is_book", defArgs (topS 73), defBody (topS 73), defScope (topS 73), [], []⟩
def d_60 : He.DefD := ⟨("_law_slim_world", none), "_law_slim_world", "_law_slim_world", defArgs (topS 74), defBody (topS 74), defScope (topS 74), [], []⟩
def d_61 : He.DefD := ⟨("_law_slim_numbers", none), "_law_slim_numbers", "_law_slim_numbers", defArgs (topS 75), defBody (topS 75), defScope (topS 75), [], []⟩
def d_62 : He.DefD := ⟨("_law_slim_conditions", none), "_law_slim_conditions", "_law_slim_conditions", defArgs (topS 76), defBody (topS 76), defScope (topS 76), [], []⟩
def d_63 : He.DefD := ⟨("_law_slim_book", none), "_law_slim_book", "_law_slim_book", defArgs (topS 77), defBody (topS 77), defScope (topS 77), [], []⟩
def d_64 : He.DefD := ⟨("_law_is_entry", none), "_law_is_entry", "_law_is_entry", defArgs (topS 78), defBody (topS 78), defScope (topS 78), [], []⟩
def d_65 : He.DefD := ⟨("_law_is_journal", none), "_law_is_journal", "_law_is_journal", defArgs (topS 79), defBody (topS 79), defScope (topS 79), [], []⟩
def d_66 : He.DefD := ⟨("law", none), "law", "law", defArgs (topS 80), defBody (topS 80), defScope (topS 80), [], []⟩
def dd0 : List He.DefD := [d_0,
  d_1,
  d_2,
  d_3,
  d_4,
  d_5,
  d_6,
  d_7,
  d_8,
  d_9,
  d_10,
  d_11,
  d_12,
  d_13,
  d_14,
  d_15,
  d_16,
  d_17,
  d_18,
  d_19,
  d_20,
  d_21,
  d_22,
  d_23,
  d_24,
  d_25,
  d_26,
  d_27,
  d_28,
  d_29]
def dd1 : List He.DefD := [d_30,
  d_31,
  d_32,
  d_33,
  d_34,
  d_35,
  d_36,
  d_37,
  d_38,
  d_39,
  d_40,
  d_41,
  d_42,
  d_43,
  d_44,
  d_45,
  d_46,
  d_47,
  d_48,
  d_49,
  d_50,
  d_51,
  d_52,
  d_53,
  d_54,
  d_55,
  d_56,
  d_57,
  d_58,
  d_59]
def dd2 : List He.DefD := [d_60,
  d_61,
  d_62,
  d_63,
  d_64,
  d_65,
  d_66]
def dd : List He.DefD := dd0 ++ dd1 ++ dd2
def fa0 : List He.Fa := [.glo "is_number",
  .glo "is_count",
  .glo "is_pair",
  .glo "is_set",
  .glo "set_of",
  .glo "both",
  .glo "is_row",
  .glo "has_ports",
  .glo "is_word",
  .glo "top_of",
  .glo "is_condition",
  .glo "is_conditions",
  .glo "is_decision",
  .glo "is_action",
  .glo "is_rule",
  .glo "is_chain",
  .glo "jumps_well",
  .glo "is_book",
  .glo "is_prefix",
  .glo "span",
  .glo "held",
  .glo "is_exchange",
  .glo "is_end",
  .glo "is_key",
  .glo "is_result",
  .glo "is_entry",
  .glo "is_journal",
  .glo "_law_same",
  .glo "_law_is_integer",
  .glo "_law_pool"]
def fa1 : List He.Fa := [.glo "_law_spread",
  .glo "_law_draw",
  .glo "_law_pick",
  .glo "_law_bent",
  .glo "_law_booled",
  .glo "_law_runs",
  .glo "_law_is_set",
  .glo "_law_power",
  .glo "_law_prefix",
  .glo "_law_is_prefix",
  .glo "_law_last",
  .glo "_law_apart",
  .glo "_law_is_exchange",
  .glo "_law_exchange",
  .glo "_law_row",
  .glo "_law_is_number",
  .glo "_law_is_row",
  .glo "_law_tops",
  .glo "_law_fields",
  .glo "_law_top_of",
  .glo "_law_decision",
  .glo "_law_action",
  .glo "_law_spelled",
  .glo "_law_chain_words",
  .glo "_law_is_word",
  .glo "_law_is_condition",
  .glo "_law_is_decision",
  .glo "_law_is_action",
  .glo "_law_is_rule",
  .glo "_law_is_book"]
def fa2 : List He.Fa := [.glo "_law_slim_world",
  .glo "_law_slim_numbers",
  .glo "_law_slim_conditions",
  .glo "_law_slim_book",
  .glo "_law_is_entry",
  .glo "_law_is_journal",
  .glo "law",
  .free "all",
  .free "sorted",
  .free "tuple",
  .free "range",
  .free "isinstance",
  .free "int",
  .free "str",
  .free "list",
  .free "len",
  .free "bool",
  .free "set",
  .free "repr",
  .free "max",
  .free "min"]
def fa : List He.Fa := fa0 ++ fa1 ++ fa2
def cs0 : List (Str × D) := [("STREAM", (.int 6)),
  ("ASKING", (.int 17)),
  ("FIELDS", (.lst [(.str s_interface), (.str s_kind), (.str s_source), (.str s_sport), (.str s_destination), (.str s_dport), (.str s_flags), (.str s_code), (.str s_length), (.str s_talk), (.str s_side)])),
  ("TOPS", (.lst [(.int 1), (.int 255), (.int 65535), (.int 65535), (.int 65535), (.int 65535), (.int 7), (.int 65535), (.int 1500), (.int 6), (.int 1)])),
  ("LETTERS", (.str s_abcdefghijklmnopqrst)),
  ("TOP", (.int 65535)),
  ("BITS", (.int 16))]
def cs : List (Str × D) := cs0
def loose0 : List Str := ["is_number",
  "is_count",
  "is_pair",
  "is_set",
  "set_of",
  "both",
  "STREAM",
  "ASKING",
  "is_row",
  "FIELDS",
  "TOPS",
  "has_ports",
  "LETTERS",
  "is_word",
  "top_of",
  "is_condition",
  "is_conditions",
  "is_decision",
  "is_action",
  "is_rule",
  "is_chain",
  "jumps_well",
  "is_book",
  "TOP",
  "BITS",
  "is_prefix",
  "span",
  "held",
  "is_exchange",
  "is_end"]
def loose1 : List Str := ["is_key",
  "is_result",
  "is_entry",
  "is_journal",
  "_law_same",
  "_law_is_integer",
  "_law_pool",
  "_law_spread",
  "_law_draw",
  "_law_pick",
  "_law_bent",
  "_law_booled",
  "_law_runs",
  "_law_is_set",
  "_law_power",
  "_law_prefix",
  "_law_is_prefix",
  "_law_last",
  "_law_apart",
  "_law_is_exchange",
  "_law_exchange",
  "_law_row",
  "_law_is_number",
  "_law_is_row",
  "_law_tops",
  "_law_fields",
  "_law_top_of",
  "_law_decision",
  "_law_action",
  "_law_spelled"]
def loose2 : List Str := ["_law_chain_words",
  "_law_is_word",
  "_law_is_condition",
  "_law_is_decision",
  "_law_is_action",
  "_law_is_rule",
  "_law_is_book",
  "_law_slim_world",
  "_law_slim_numbers",
  "_law_slim_conditions",
  "_law_slim_book",
  "_law_is_entry",
  "_law_is_journal"]
def loose : List Str := loose0 ++ loose1 ++ loose2
abbrev R : PySem.W.OpenRow := PySem.W.OpenLaw.row PySem.Challenge.rw_gatewarden_k82_journals_told
abbrev hk : PySem.W.Hook := hookX 5 fa dd cs
def ob (s : PySem.W.SharedT) : AlX := obsXG 5 fa dd cs (HandSHeadRun.getT s)
theorem ob_eq (s : PySem.W.SharedT) : ob s = hk.obs s.abs := obsXG_eq (HandSHeadRun.getT_eq s)
theorem run (w : World) : HandSHeadRun.RunEq R (PySem.W.view R.prog [80]) hk ob 20000 loose w := by
  intro os
  kernel_rfl
section
variable {K : Fg} {h : Heap} {mg : Str → Option Value}
theorem n_0 (X : K.In h) (G : h.Ns mainGlobals mg) (c : SaysX fa dd cs K) : NameF K mg fns glob cst tab "is_number" (.fn 0) := by
  obtain ⟨fd, F⟩ := (SaysX.d c).def_ 0 (d := d_0) rfl
  exact fn_of' (st := topS 1) (a := 0) X G ((SaysX.d c).fact 0 (f := .glo "is_number") rfl) F rfl c_0 fun _ _ _ _ _ _ us hl => match us, hl with | [_, _], _ => rfl
theorem n_1 (X : K.In h) (G : h.Ns mainGlobals mg) (c : SaysX fa dd cs K) : NameF K mg fns glob cst tab "is_count" (.fn 1) := by
  obtain ⟨fd, F⟩ := (SaysX.d c).def_ 1 (d := d_1) rfl
  exact fn_of' (st := topS 2) (a := 0) X G ((SaysX.d c).fact 1 (f := .glo "is_count") rfl) F rfl c_1 fun _ _ _ _ _ _ us hl => match us, hl with | [_], _ => rfl
theorem n_2 (X : K.In h) (G : h.Ns mainGlobals mg) (c : SaysX fa dd cs K) : NameF K mg fns glob cst tab "is_pair" (.fn 2) := by
  obtain ⟨fd, F⟩ := (SaysX.d c).def_ 2 (d := d_2) rfl
  exact fn_of' (st := topS 3) (a := 0) X G ((SaysX.d c).fact 2 (f := .glo "is_pair") rfl) F rfl c_2 fun _ _ _ _ _ _ us hl => match us, hl with | [_], _ => rfl
theorem n_3 (X : K.In h) (G : h.Ns mainGlobals mg) (c : SaysX fa dd cs K) : NameF K mg fns glob cst tab "is_set" (.fn 3) := by
  obtain ⟨fd, F⟩ := (SaysX.d c).def_ 3 (d := d_3) rfl
  exact fn_of' (st := topS 4) (a := 0) X G ((SaysX.d c).fact 3 (f := .glo "is_set") rfl) F rfl c_3 fun _ _ _ _ _ _ us hl => match us, hl with | [_], _ => rfl
theorem n_4 (X : K.In h) (G : h.Ns mainGlobals mg) (c : SaysX fa dd cs K) : NameF K mg fns glob cst tab "set_of" (.fn 4) := by
  obtain ⟨fd, F⟩ := (SaysX.d c).def_ 4 (d := d_4) rfl
  exact fn_of' (st := topS 5) (a := 0) X G ((SaysX.d c).fact 4 (f := .glo "set_of") rfl) F rfl c_4 fun _ _ _ _ _ _ us hl => match us, hl with | [_], _ => rfl
theorem n_5 (X : K.In h) (G : h.Ns mainGlobals mg) (c : SaysX fa dd cs K) : NameF K mg fns glob cst tab "both" (.fn 5) := by
  obtain ⟨fd, F⟩ := (SaysX.d c).def_ 5 (d := d_5) rfl
  exact fn_of' (st := topS 6) (a := 0) X G ((SaysX.d c).fact 5 (f := .glo "both") rfl) F rfl c_5 fun _ _ _ _ _ _ us hl => match us, hl with | [_, _], _ => rfl
theorem n_6 (X : K.In h) (G : h.Ns mainGlobals mg) (c : SaysX fa dd cs K) : NameF K mg fns glob cst tab "is_row" (.fn 6) := by
  obtain ⟨fd, F⟩ := (SaysX.d c).def_ 6 (d := d_6) rfl
  exact fn_of' (st := topS 10) (a := 0) X G ((SaysX.d c).fact 6 (f := .glo "is_row") rfl) F rfl c_6 fun _ _ _ _ _ _ us hl => match us, hl with | [_], _ => rfl
theorem n_7 (X : K.In h) (G : h.Ns mainGlobals mg) (c : SaysX fa dd cs K) : NameF K mg fns glob cst tab "has_ports" (.fn 7) := by
  obtain ⟨fd, F⟩ := (SaysX.d c).def_ 7 (d := d_7) rfl
  exact fn_of' (st := topS 14) (a := 0) X G ((SaysX.d c).fact 7 (f := .glo "has_ports") rfl) F rfl c_7 fun _ _ _ _ _ _ us hl => match us, hl with | [_], _ => rfl
theorem n_8 (X : K.In h) (G : h.Ns mainGlobals mg) (c : SaysX fa dd cs K) : NameF K mg fns glob cst tab "is_word" (.fn 8) := by
  obtain ⟨fd, F⟩ := (SaysX.d c).def_ 8 (d := d_8) rfl
  exact fn_of' (st := topS 17) (a := 0) X G ((SaysX.d c).fact 8 (f := .glo "is_word") rfl) F rfl c_8 fun _ _ _ _ _ _ us hl => match us, hl with | [_], _ => rfl
theorem n_9 (X : K.In h) (G : h.Ns mainGlobals mg) (c : SaysX fa dd cs K) : NameF K mg fns glob cst tab "top_of" (.fn 9) := by
  obtain ⟨fd, F⟩ := (SaysX.d c).def_ 9 (d := d_9) rfl
  exact fn_of' (st := topS 18) (a := 0) X G ((SaysX.d c).fact 9 (f := .glo "top_of") rfl) F rfl c_9 fun _ _ _ _ _ _ us hl => match us, hl with | [_], _ => rfl
theorem n_10 (X : K.In h) (G : h.Ns mainGlobals mg) (c : SaysX fa dd cs K) : NameF K mg fns glob cst tab "is_condition" (.fn 10) := by
  obtain ⟨fd, F⟩ := (SaysX.d c).def_ 10 (d := d_10) rfl
  exact fn_of' (st := topS 19) (a := 0) X G ((SaysX.d c).fact 10 (f := .glo "is_condition") rfl) F rfl c_10 fun _ _ _ _ _ _ us hl => match us, hl with | [_], _ => rfl
theorem n_11 (X : K.In h) (G : h.Ns mainGlobals mg) (c : SaysX fa dd cs K) : NameF K mg fns glob cst tab "is_conditions" (.fn 11) := by
  obtain ⟨fd, F⟩ := (SaysX.d c).def_ 11 (d := d_11) rfl
  exact fn_of' (st := topS 20) (a := 0) X G ((SaysX.d c).fact 11 (f := .glo "is_conditions") rfl) F rfl c_11 fun _ _ _ _ _ _ us hl => match us, hl with | [_], _ => rfl
theorem n_12 (X : K.In h) (G : h.Ns mainGlobals mg) (c : SaysX fa dd cs K) : NameF K mg fns glob cst tab "is_decision" (.fn 12) := by
  obtain ⟨fd, F⟩ := (SaysX.d c).def_ 12 (d := d_12) rfl
  exact fn_of' (st := topS 21) (a := 0) X G ((SaysX.d c).fact 12 (f := .glo "is_decision") rfl) F rfl c_12 fun _ _ _ _ _ _ us hl => match us, hl with | [_], _ => rfl
theorem n_13 (X : K.In h) (G : h.Ns mainGlobals mg) (c : SaysX fa dd cs K) : NameF K mg fns glob cst tab "is_action" (.fn 13) := by
  obtain ⟨fd, F⟩ := (SaysX.d c).def_ 13 (d := d_13) rfl
  exact fn_of' (st := topS 22) (a := 0) X G ((SaysX.d c).fact 13 (f := .glo "is_action") rfl) F rfl c_13 fun _ _ _ _ _ _ us hl => match us, hl with | [_], _ => rfl
theorem n_14 (X : K.In h) (G : h.Ns mainGlobals mg) (c : SaysX fa dd cs K) : NameF K mg fns glob cst tab "is_rule" (.fn 14) := by
  obtain ⟨fd, F⟩ := (SaysX.d c).def_ 14 (d := d_14) rfl
  exact fn_of' (st := topS 23) (a := 0) X G ((SaysX.d c).fact 14 (f := .glo "is_rule") rfl) F rfl c_14 fun _ _ _ _ _ _ us hl => match us, hl with | [_], _ => rfl
theorem n_15 (X : K.In h) (G : h.Ns mainGlobals mg) (c : SaysX fa dd cs K) : NameF K mg fns glob cst tab "is_chain" (.fn 15) := by
  obtain ⟨fd, F⟩ := (SaysX.d c).def_ 15 (d := d_15) rfl
  exact fn_of' (st := topS 24) (a := 0) X G ((SaysX.d c).fact 15 (f := .glo "is_chain") rfl) F rfl c_15 fun _ _ _ _ _ _ us hl => match us, hl with | [_], _ => rfl
theorem n_16 (X : K.In h) (G : h.Ns mainGlobals mg) (c : SaysX fa dd cs K) : NameF K mg fns glob cst tab "jumps_well" (.fn 16) := by
  obtain ⟨fd, F⟩ := (SaysX.d c).def_ 16 (d := d_16) rfl
  exact fn_of' (st := topS 25) (a := 0) X G ((SaysX.d c).fact 16 (f := .glo "jumps_well") rfl) F rfl c_16 fun _ _ _ _ _ _ us hl => match us, hl with | [_], _ => rfl
theorem n_17 (X : K.In h) (G : h.Ns mainGlobals mg) (c : SaysX fa dd cs K) : NameF K mg fns glob cst tab "is_book" (.fn 17) := by
  obtain ⟨fd, F⟩ := (SaysX.d c).def_ 17 (d := d_17) rfl
  exact fn_of' (st := topS 26) (a := 0) X G ((SaysX.d c).fact 17 (f := .glo "is_book") rfl) F rfl c_17 fun _ _ _ _ _ _ us hl => match us, hl with | [_], _ => rfl
theorem n_18 (X : K.In h) (G : h.Ns mainGlobals mg) (c : SaysX fa dd cs K) : NameF K mg fns glob cst tab "is_prefix" (.fn 18) := by
  obtain ⟨fd, F⟩ := (SaysX.d c).def_ 18 (d := d_18) rfl
  exact fn_of' (st := topS 30) (a := 0) X G ((SaysX.d c).fact 18 (f := .glo "is_prefix") rfl) F rfl c_18 fun _ _ _ _ _ _ us hl => match us, hl with | [_], _ => rfl
theorem n_19 (X : K.In h) (G : h.Ns mainGlobals mg) (c : SaysX fa dd cs K) : NameF K mg fns glob cst tab "span" (.fn 19) := by
  obtain ⟨fd, F⟩ := (SaysX.d c).def_ 19 (d := d_19) rfl
  exact fn_of' (st := topS 31) (a := 0) X G ((SaysX.d c).fact 19 (f := .glo "span") rfl) F rfl c_19 fun _ _ _ _ _ _ us hl => match us, hl with | [_], _ => rfl
theorem n_20 (X : K.In h) (G : h.Ns mainGlobals mg) (c : SaysX fa dd cs K) : NameF K mg fns glob cst tab "held" (.fn 20) := by
  obtain ⟨fd, F⟩ := (SaysX.d c).def_ 20 (d := d_20) rfl
  exact fn_of' (st := topS 32) (a := 0) X G ((SaysX.d c).fact 20 (f := .glo "held") rfl) F rfl c_20 fun _ _ _ _ _ _ us hl => match us, hl with | [_], _ => rfl
theorem n_21 (X : K.In h) (G : h.Ns mainGlobals mg) (c : SaysX fa dd cs K) : NameF K mg fns glob cst tab "is_exchange" (.fn 21) := by
  obtain ⟨fd, F⟩ := (SaysX.d c).def_ 21 (d := d_21) rfl
  exact fn_of' (st := topS 33) (a := 0) X G ((SaysX.d c).fact 21 (f := .glo "is_exchange") rfl) F rfl c_21 fun _ _ _ _ _ _ us hl => match us, hl with | [_], _ => rfl
theorem n_22 (X : K.In h) (G : h.Ns mainGlobals mg) (c : SaysX fa dd cs K) : NameF K mg fns glob cst tab "is_end" (.fn 22) := by
  obtain ⟨fd, F⟩ := (SaysX.d c).def_ 22 (d := d_22) rfl
  exact fn_of' (st := topS 35) (a := 0) X G ((SaysX.d c).fact 22 (f := .glo "is_end") rfl) F rfl c_22 fun _ _ _ _ _ _ us hl => match us, hl with | [_], _ => rfl
theorem n_23 (X : K.In h) (G : h.Ns mainGlobals mg) (c : SaysX fa dd cs K) : NameF K mg fns glob cst tab "is_key" (.fn 23) := by
  obtain ⟨fd, F⟩ := (SaysX.d c).def_ 23 (d := d_23) rfl
  exact fn_of' (st := topS 36) (a := 0) X G ((SaysX.d c).fact 23 (f := .glo "is_key") rfl) F rfl c_23 fun _ _ _ _ _ _ us hl => match us, hl with | [_], _ => rfl
theorem n_24 (X : K.In h) (G : h.Ns mainGlobals mg) (c : SaysX fa dd cs K) : NameF K mg fns glob cst tab "is_result" (.fn 24) := by
  obtain ⟨fd, F⟩ := (SaysX.d c).def_ 24 (d := d_24) rfl
  exact fn_of' (st := topS 37) (a := 0) X G ((SaysX.d c).fact 24 (f := .glo "is_result") rfl) F rfl c_24 fun _ _ _ _ _ _ us hl => match us, hl with | [_], _ => rfl
theorem n_25 (X : K.In h) (G : h.Ns mainGlobals mg) (c : SaysX fa dd cs K) : NameF K mg fns glob cst tab "is_entry" (.fn 25) := by
  obtain ⟨fd, F⟩ := (SaysX.d c).def_ 25 (d := d_25) rfl
  exact fn_of' (st := topS 38) (a := 0) X G ((SaysX.d c).fact 25 (f := .glo "is_entry") rfl) F rfl c_25 fun _ _ _ _ _ _ us hl => match us, hl with | [_], _ => rfl
theorem n_26 (X : K.In h) (G : h.Ns mainGlobals mg) (c : SaysX fa dd cs K) : NameF K mg fns glob cst tab "is_journal" (.fn 26) := by
  obtain ⟨fd, F⟩ := (SaysX.d c).def_ 26 (d := d_26) rfl
  exact fn_of' (st := topS 39) (a := 0) X G ((SaysX.d c).fact 26 (f := .glo "is_journal") rfl) F rfl c_26 fun _ _ _ _ _ _ us hl => match us, hl with | [_], _ => rfl
theorem n_27 (X : K.In h) (G : h.Ns mainGlobals mg) (c : SaysX fa dd cs K) : NameF K mg fns glob cst tab "_law_same" (.fn 27) := by
  obtain ⟨fd, F⟩ := (SaysX.d c).def_ 27 (d := d_27) rfl
  exact fn_of' (st := topS 41) (a := 0) X G ((SaysX.d c).fact 27 (f := .glo "_law_same") rfl) F rfl c_27 fun _ _ _ _ _ _ us hl => match us, hl with | [_, _], _ => rfl
theorem n_28 (X : K.In h) (G : h.Ns mainGlobals mg) (c : SaysX fa dd cs K) : NameF K mg fns glob cst tab "_law_is_integer" (.fn 28) := by
  obtain ⟨fd, F⟩ := (SaysX.d c).def_ 28 (d := d_28) rfl
  exact fn_of' (st := topS 42) (a := 0) X G ((SaysX.d c).fact 28 (f := .glo "_law_is_integer") rfl) F rfl c_28 fun _ _ _ _ _ _ us hl => match us, hl with | [_], _ => rfl
theorem n_29 (X : K.In h) (G : h.Ns mainGlobals mg) (c : SaysX fa dd cs K) : NameF K mg fns glob cst tab "_law_pool" (.fn 29) := by
  obtain ⟨fd, F⟩ := (SaysX.d c).def_ 29 (d := d_29) rfl
  exact fn_of' (st := topS 43) (a := 0) X G ((SaysX.d c).fact 29 (f := .glo "_law_pool") rfl) F rfl c_29 fun _ _ _ _ _ _ us hl => match us, hl with | [_], _ => rfl
theorem n_30 (X : K.In h) (G : h.Ns mainGlobals mg) (c : SaysX fa dd cs K) : NameF K mg fns glob cst tab "_law_spread" (.fn 30) := by
  obtain ⟨fd, F⟩ := (SaysX.d c).def_ 30 (d := d_30) rfl
  exact fn_of' (st := topS 44) (a := 0) X G ((SaysX.d c).fact 30 (f := .glo "_law_spread") rfl) F rfl c_30 fun _ _ _ _ _ _ us hl => match us, hl with | [_], _ => rfl
theorem n_31 (X : K.In h) (G : h.Ns mainGlobals mg) (c : SaysX fa dd cs K) : NameF K mg fns glob cst tab "_law_draw" (.fn 31) := by
  obtain ⟨fd, F⟩ := (SaysX.d c).def_ 31 (d := d_31) rfl
  exact fn_of' (st := topS 45) (a := 0) X G ((SaysX.d c).fact 31 (f := .glo "_law_draw") rfl) F rfl c_31 fun _ _ _ _ _ _ us hl => match us, hl with | [_, _], _ => rfl
theorem n_32 (X : K.In h) (G : h.Ns mainGlobals mg) (c : SaysX fa dd cs K) : NameF K mg fns glob cst tab "_law_pick" (.fn 32) := by
  obtain ⟨fd, F⟩ := (SaysX.d c).def_ 32 (d := d_32) rfl
  exact fn_of' (st := topS 46) (a := 0) X G ((SaysX.d c).fact 32 (f := .glo "_law_pick") rfl) F rfl c_32 fun _ _ _ _ _ _ us hl => match us, hl with | [_, _], _ => rfl
theorem n_33 (X : K.In h) (G : h.Ns mainGlobals mg) (c : SaysX fa dd cs K) : NameF K mg fns glob cst tab "_law_bent" (.fn 33) := by
  obtain ⟨fd, F⟩ := (SaysX.d c).def_ 33 (d := d_33) rfl
  exact fn_of' (st := topS 47) (a := 0) X G ((SaysX.d c).fact 33 (f := .glo "_law_bent") rfl) F rfl c_33 fun _ _ _ _ _ _ us hl => match us, hl with | [_, _], _ => rfl
theorem n_34 (X : K.In h) (G : h.Ns mainGlobals mg) (c : SaysX fa dd cs K) : NameF K mg fns glob cst tab "_law_booled" (.fn 34) := by
  obtain ⟨fd, F⟩ := (SaysX.d c).def_ 34 (d := d_34) rfl
  exact fn_of' (st := topS 48) (a := 0) X G ((SaysX.d c).fact 34 (f := .glo "_law_booled") rfl) F rfl c_34 fun _ _ _ _ _ _ us hl => match us, hl with | [_], _ => rfl
theorem n_35 (X : K.In h) (G : h.Ns mainGlobals mg) (c : SaysX fa dd cs K) : NameF K mg fns glob cst tab "_law_runs" (.fn 35) := by
  obtain ⟨fd, F⟩ := (SaysX.d c).def_ 35 (d := d_35) rfl
  exact fn_of' (st := topS 49) (a := 0) X G ((SaysX.d c).fact 35 (f := .glo "_law_runs") rfl) F rfl c_35 fun _ _ _ _ _ _ us hl => match us, hl with | [_], _ => rfl
theorem n_36 (X : K.In h) (G : h.Ns mainGlobals mg) (c : SaysX fa dd cs K) : NameF K mg fns glob cst tab "_law_is_set" (.fn 36) := by
  obtain ⟨fd, F⟩ := (SaysX.d c).def_ 36 (d := d_36) rfl
  exact fn_of' (st := topS 50) (a := 0) X G ((SaysX.d c).fact 36 (f := .glo "_law_is_set") rfl) F rfl c_36 fun _ _ _ _ _ _ us hl => match us, hl with | [_], _ => rfl
theorem n_37 (X : K.In h) (G : h.Ns mainGlobals mg) (c : SaysX fa dd cs K) : NameF K mg fns glob cst tab "_law_power" (.fn 37) := by
  obtain ⟨fd, F⟩ := (SaysX.d c).def_ 37 (d := d_37) rfl
  exact fn_of' (st := topS 51) (a := 0) X G ((SaysX.d c).fact 37 (f := .glo "_law_power") rfl) F rfl c_37 fun _ _ _ _ _ _ us hl => match us, hl with | [_], _ => rfl
theorem n_38 (X : K.In h) (G : h.Ns mainGlobals mg) (c : SaysX fa dd cs K) : NameF K mg fns glob cst tab "_law_prefix" (.fn 38) := by
  obtain ⟨fd, F⟩ := (SaysX.d c).def_ 38 (d := d_38) rfl
  exact fn_of' (st := topS 52) (a := 0) X G ((SaysX.d c).fact 38 (f := .glo "_law_prefix") rfl) F rfl c_38 fun _ _ _ _ _ _ us hl => match us, hl with | [_], _ => rfl
theorem n_39 (X : K.In h) (G : h.Ns mainGlobals mg) (c : SaysX fa dd cs K) : NameF K mg fns glob cst tab "_law_is_prefix" (.fn 39) := by
  obtain ⟨fd, F⟩ := (SaysX.d c).def_ 39 (d := d_39) rfl
  exact fn_of' (st := topS 53) (a := 0) X G ((SaysX.d c).fact 39 (f := .glo "_law_is_prefix") rfl) F rfl c_39 fun _ _ _ _ _ _ us hl => match us, hl with | [_], _ => rfl
theorem n_40 (X : K.In h) (G : h.Ns mainGlobals mg) (c : SaysX fa dd cs K) : NameF K mg fns glob cst tab "_law_last" (.fn 40) := by
  obtain ⟨fd, F⟩ := (SaysX.d c).def_ 40 (d := d_40) rfl
  exact fn_of' (st := topS 54) (a := 0) X G ((SaysX.d c).fact 40 (f := .glo "_law_last") rfl) F rfl c_40 fun _ _ _ _ _ _ us hl => match us, hl with | [_], _ => rfl
theorem n_41 (X : K.In h) (G : h.Ns mainGlobals mg) (c : SaysX fa dd cs K) : NameF K mg fns glob cst tab "_law_apart" (.fn 41) := by
  obtain ⟨fd, F⟩ := (SaysX.d c).def_ 41 (d := d_41) rfl
  exact fn_of' (st := topS 55) (a := 0) X G ((SaysX.d c).fact 41 (f := .glo "_law_apart") rfl) F rfl c_41 fun _ _ _ _ _ _ us hl => match us, hl with | [_, _], _ => rfl
theorem n_42 (X : K.In h) (G : h.Ns mainGlobals mg) (c : SaysX fa dd cs K) : NameF K mg fns glob cst tab "_law_is_exchange" (.fn 42) := by
  obtain ⟨fd, F⟩ := (SaysX.d c).def_ 42 (d := d_42) rfl
  exact fn_of' (st := topS 56) (a := 0) X G ((SaysX.d c).fact 42 (f := .glo "_law_is_exchange") rfl) F rfl c_42 fun _ _ _ _ _ _ us hl => match us, hl with | [_], _ => rfl
theorem n_43 (X : K.In h) (G : h.Ns mainGlobals mg) (c : SaysX fa dd cs K) : NameF K mg fns glob cst tab "_law_exchange" (.fn 43) := by
  obtain ⟨fd, F⟩ := (SaysX.d c).def_ 43 (d := d_43) rfl
  exact fn_of' (st := topS 57) (a := 0) X G ((SaysX.d c).fact 43 (f := .glo "_law_exchange") rfl) F rfl c_43 fun _ _ _ _ _ _ us hl => match us, hl with | [_, _], _ => rfl
theorem n_44 (X : K.In h) (G : h.Ns mainGlobals mg) (c : SaysX fa dd cs K) : NameF K mg fns glob cst tab "_law_row" (.fn 44) := by
  obtain ⟨fd, F⟩ := (SaysX.d c).def_ 44 (d := d_44) rfl
  exact fn_of' (st := topS 58) (a := 0) X G ((SaysX.d c).fact 44 (f := .glo "_law_row") rfl) F rfl c_44 fun _ _ _ _ _ _ us hl => match us, hl with | [_, _], _ => rfl
theorem n_45 (X : K.In h) (G : h.Ns mainGlobals mg) (c : SaysX fa dd cs K) : NameF K mg fns glob cst tab "_law_is_number" (.fn 45) := by
  obtain ⟨fd, F⟩ := (SaysX.d c).def_ 45 (d := d_45) rfl
  exact fn_of' (st := topS 59) (a := 0) X G ((SaysX.d c).fact 45 (f := .glo "_law_is_number") rfl) F rfl c_45 fun _ _ _ _ _ _ us hl => match us, hl with | [_, _], _ => rfl
theorem n_46 (X : K.In h) (G : h.Ns mainGlobals mg) (c : SaysX fa dd cs K) : NameF K mg fns glob cst tab "_law_is_row" (.fn 46) := by
  obtain ⟨fd, F⟩ := (SaysX.d c).def_ 46 (d := d_46) rfl
  exact fn_of' (st := topS 60) (a := 0) X G ((SaysX.d c).fact 46 (f := .glo "_law_is_row") rfl) F rfl c_46 fun _ _ _ _ _ _ us hl => match us, hl with | [_], _ => rfl
theorem n_47 (X : K.In h) (G : h.Ns mainGlobals mg) (c : SaysX fa dd cs K) : NameF K mg fns glob cst tab "_law_tops" (.fn 47) := by
  obtain ⟨fd, F⟩ := (SaysX.d c).def_ 47 (d := d_47) rfl
  exact fn_of' (st := topS 61) (a := 0) X G ((SaysX.d c).fact 47 (f := .glo "_law_tops") rfl) F rfl c_47 fun _ _ _ _ _ _ us hl => match us, hl with | [], _ => rfl
theorem n_48 (X : K.In h) (G : h.Ns mainGlobals mg) (c : SaysX fa dd cs K) : NameF K mg fns glob cst tab "_law_fields" (.fn 48) := by
  obtain ⟨fd, F⟩ := (SaysX.d c).def_ 48 (d := d_48) rfl
  exact fn_of' (st := topS 62) (a := 0) X G ((SaysX.d c).fact 48 (f := .glo "_law_fields") rfl) F rfl c_48 fun _ _ _ _ _ _ us hl => match us, hl with | [], _ => rfl
theorem n_49 (X : K.In h) (G : h.Ns mainGlobals mg) (c : SaysX fa dd cs K) : NameF K mg fns glob cst tab "_law_top_of" (.fn 49) := by
  obtain ⟨fd, F⟩ := (SaysX.d c).def_ 49 (d := d_49) rfl
  exact fn_of' (st := topS 63) (a := 0) X G ((SaysX.d c).fact 49 (f := .glo "_law_top_of") rfl) F rfl c_49 fun _ _ _ _ _ _ us hl => match us, hl with | [_], _ => rfl
theorem n_50 (X : K.In h) (G : h.Ns mainGlobals mg) (c : SaysX fa dd cs K) : NameF K mg fns glob cst tab "_law_decision" (.fn 50) := by
  obtain ⟨fd, F⟩ := (SaysX.d c).def_ 50 (d := d_50) rfl
  exact fn_of' (st := topS 64) (a := 0) X G ((SaysX.d c).fact 50 (f := .glo "_law_decision") rfl) F rfl c_50 fun _ _ _ _ _ _ us hl => match us, hl with | [_], _ => rfl
theorem n_51 (X : K.In h) (G : h.Ns mainGlobals mg) (c : SaysX fa dd cs K) : NameF K mg fns glob cst tab "_law_action" (.fn 51) := by
  obtain ⟨fd, F⟩ := (SaysX.d c).def_ 51 (d := d_51) rfl
  exact fn_of' (st := topS 65) (a := 0) X G ((SaysX.d c).fact 51 (f := .glo "_law_action") rfl) F rfl c_51 fun _ _ _ _ _ _ us hl => match us, hl with | [_, _, _], _ => rfl
theorem n_52 (X : K.In h) (G : h.Ns mainGlobals mg) (c : SaysX fa dd cs K) : NameF K mg fns glob cst tab "_law_spelled" (.fn 52) := by
  obtain ⟨fd, F⟩ := (SaysX.d c).def_ 52 (d := d_52) rfl
  exact fn_of' (st := topS 66) (a := 0) X G ((SaysX.d c).fact 52 (f := .glo "_law_spelled") rfl) F rfl c_52 fun _ _ _ _ _ _ us hl => match us, hl with | [_], _ => rfl
theorem n_53 (X : K.In h) (G : h.Ns mainGlobals mg) (c : SaysX fa dd cs K) : NameF K mg fns glob cst tab "_law_chain_words" (.fn 53) := by
  obtain ⟨fd, F⟩ := (SaysX.d c).def_ 53 (d := d_53) rfl
  exact fn_of' (st := topS 67) (a := 0) X G ((SaysX.d c).fact 53 (f := .glo "_law_chain_words") rfl) F rfl c_53 fun _ _ _ _ _ _ us hl => match us, hl with | [_, _], _ => rfl
theorem n_54 (X : K.In h) (G : h.Ns mainGlobals mg) (c : SaysX fa dd cs K) : NameF K mg fns glob cst tab "_law_is_word" (.fn 54) := by
  obtain ⟨fd, F⟩ := (SaysX.d c).def_ 54 (d := d_54) rfl
  exact fn_of' (st := topS 68) (a := 0) X G ((SaysX.d c).fact 54 (f := .glo "_law_is_word") rfl) F rfl c_54 fun _ _ _ _ _ _ us hl => match us, hl with | [_], _ => rfl
theorem n_55 (X : K.In h) (G : h.Ns mainGlobals mg) (c : SaysX fa dd cs K) : NameF K mg fns glob cst tab "_law_is_condition" (.fn 55) := by
  obtain ⟨fd, F⟩ := (SaysX.d c).def_ 55 (d := d_55) rfl
  exact fn_of' (st := topS 69) (a := 0) X G ((SaysX.d c).fact 55 (f := .glo "_law_is_condition") rfl) F rfl c_55 fun _ _ _ _ _ _ us hl => match us, hl with | [_], _ => rfl
theorem n_56 (X : K.In h) (G : h.Ns mainGlobals mg) (c : SaysX fa dd cs K) : NameF K mg fns glob cst tab "_law_is_decision" (.fn 56) := by
  obtain ⟨fd, F⟩ := (SaysX.d c).def_ 56 (d := d_56) rfl
  exact fn_of' (st := topS 70) (a := 0) X G ((SaysX.d c).fact 56 (f := .glo "_law_is_decision") rfl) F rfl c_56 fun _ _ _ _ _ _ us hl => match us, hl with | [_], _ => rfl
theorem n_57 (X : K.In h) (G : h.Ns mainGlobals mg) (c : SaysX fa dd cs K) : NameF K mg fns glob cst tab "_law_is_action" (.fn 57) := by
  obtain ⟨fd, F⟩ := (SaysX.d c).def_ 57 (d := d_57) rfl
  exact fn_of' (st := topS 71) (a := 0) X G ((SaysX.d c).fact 57 (f := .glo "_law_is_action") rfl) F rfl c_57 fun _ _ _ _ _ _ us hl => match us, hl with | [_], _ => rfl
theorem n_58 (X : K.In h) (G : h.Ns mainGlobals mg) (c : SaysX fa dd cs K) : NameF K mg fns glob cst tab "_law_is_rule" (.fn 58) := by
  obtain ⟨fd, F⟩ := (SaysX.d c).def_ 58 (d := d_58) rfl
  exact fn_of' (st := topS 72) (a := 0) X G ((SaysX.d c).fact 58 (f := .glo "_law_is_rule") rfl) F rfl c_58 fun _ _ _ _ _ _ us hl => match us, hl with | [_], _ => rfl
theorem n_59 (X : K.In h) (G : h.Ns mainGlobals mg) (c : SaysX fa dd cs K) : NameF K mg fns glob cst tab "_law_is_book" (.fn 59) := by
  obtain ⟨fd, F⟩ := (SaysX.d c).def_ 59 (d := d_59) rfl
  exact fn_of' (st := topS 73) (a := 0) X G ((SaysX.d c).fact 59 (f := .glo "_law_is_book") rfl) F rfl c_59 fun _ _ _ _ _ _ us hl => match us, hl with | [_], _ => rfl
theorem n_60 (X : K.In h) (G : h.Ns mainGlobals mg) (c : SaysX fa dd cs K) : NameF K mg fns glob cst tab "_law_slim_world" (.fn 60) := by
  obtain ⟨fd, F⟩ := (SaysX.d c).def_ 60 (d := d_60) rfl
  exact fn_of' (st := topS 74) (a := 0) X G ((SaysX.d c).fact 60 (f := .glo "_law_slim_world") rfl) F rfl c_60 fun _ _ _ _ _ _ us hl => match us, hl with | [_], _ => rfl
theorem n_61 (X : K.In h) (G : h.Ns mainGlobals mg) (c : SaysX fa dd cs K) : NameF K mg fns glob cst tab "_law_slim_numbers" (.fn 61) := by
  obtain ⟨fd, F⟩ := (SaysX.d c).def_ 61 (d := d_61) rfl
  exact fn_of' (st := topS 75) (a := 0) X G ((SaysX.d c).fact 61 (f := .glo "_law_slim_numbers") rfl) F rfl c_61 fun _ _ _ _ _ _ us hl => match us, hl with | [_, _], _ => rfl
theorem n_62 (X : K.In h) (G : h.Ns mainGlobals mg) (c : SaysX fa dd cs K) : NameF K mg fns glob cst tab "_law_slim_conditions" (.fn 62) := by
  obtain ⟨fd, F⟩ := (SaysX.d c).def_ 62 (d := d_62) rfl
  exact fn_of' (st := topS 76) (a := 0) X G ((SaysX.d c).fact 62 (f := .glo "_law_slim_conditions") rfl) F rfl c_62 fun _ _ _ _ _ _ us hl => match us, hl with | [_, _, _], _ => rfl
theorem n_63 (X : K.In h) (G : h.Ns mainGlobals mg) (c : SaysX fa dd cs K) : NameF K mg fns glob cst tab "_law_slim_book" (.fn 63) := by
  obtain ⟨fd, F⟩ := (SaysX.d c).def_ 63 (d := d_63) rfl
  exact fn_of' (st := topS 77) (a := 0) X G ((SaysX.d c).fact 63 (f := .glo "_law_slim_book") rfl) F rfl c_63 fun _ _ _ _ _ _ us hl => match us, hl with | [_, _, _], _ => rfl
theorem n_64 (X : K.In h) (G : h.Ns mainGlobals mg) (c : SaysX fa dd cs K) : NameF K mg fns glob cst tab "_law_is_entry" (.fn 64) := by
  obtain ⟨fd, F⟩ := (SaysX.d c).def_ 64 (d := d_64) rfl
  exact fn_of' (st := topS 78) (a := 0) X G ((SaysX.d c).fact 64 (f := .glo "_law_is_entry") rfl) F rfl c_64 fun _ _ _ _ _ _ us hl => match us, hl with | [_], _ => rfl
theorem n_65 (X : K.In h) (G : h.Ns mainGlobals mg) (c : SaysX fa dd cs K) : NameF K mg fns glob cst tab "_law_is_journal" (.fn 65) := by
  obtain ⟨fd, F⟩ := (SaysX.d c).def_ 65 (d := d_65) rfl
  exact fn_of' (st := topS 79) (a := 0) X G ((SaysX.d c).fact 65 (f := .glo "_law_is_journal") rfl) F rfl c_65 fun _ _ _ _ _ _ us hl => match us, hl with | [_], _ => rfl
theorem n_66 (X : K.In h) (G : h.Ns mainGlobals mg) (c : SaysX fa dd cs K) : NameF K mg fns glob cst tab "law" (.fn 66) := by
  obtain ⟨fd, F⟩ := (SaysX.d c).def_ 66 (d := d_66) rfl
  exact fn_of' (st := topS 80) (a := 0) X G ((SaysX.d c).fact 66 (f := .glo "law") rfl) F rfl c_66 fun _ _ _ _ _ _ us hl => match us, hl with | [_], _ => rfl
theorem v_0 (X : K.In h) (G : h.Ns mainGlobals mg) (c : SaysX fa dd cs K) : NameF K mg fns glob cst tab "STREAM" (.con 0) := con_of X G (SaysX.con c (x := "STREAM") (List.mem_of_getElem? (i := 0) rfl)) rfl
theorem v_1 (X : K.In h) (G : h.Ns mainGlobals mg) (c : SaysX fa dd cs K) : NameF K mg fns glob cst tab "ASKING" (.con 1) := con_of X G (SaysX.con c (x := "ASKING") (List.mem_of_getElem? (i := 1) rfl)) rfl
theorem v_2 (X : K.In h) (G : h.Ns mainGlobals mg) (c : SaysX fa dd cs K) : NameF K mg fns glob cst tab "FIELDS" (.con 2) := con_of X G (SaysX.con c (x := "FIELDS") (List.mem_of_getElem? (i := 2) rfl)) rfl
theorem v_3 (X : K.In h) (G : h.Ns mainGlobals mg) (c : SaysX fa dd cs K) : NameF K mg fns glob cst tab "TOPS" (.con 3) := con_of X G (SaysX.con c (x := "TOPS") (List.mem_of_getElem? (i := 3) rfl)) rfl
theorem v_4 (X : K.In h) (G : h.Ns mainGlobals mg) (c : SaysX fa dd cs K) : NameF K mg fns glob cst tab "LETTERS" (.con 4) := con_of X G (SaysX.con c (x := "LETTERS") (List.mem_of_getElem? (i := 4) rfl)) rfl
theorem v_5 (X : K.In h) (G : h.Ns mainGlobals mg) (c : SaysX fa dd cs K) : NameF K mg fns glob cst tab "TOP" (.con 5) := con_of X G (SaysX.con c (x := "TOP") (List.mem_of_getElem? (i := 5) rfl)) rfl
theorem v_6 (X : K.In h) (G : h.Ns mainGlobals mg) (c : SaysX fa dd cs K) : NameF K mg fns glob cst tab "BITS" (.con 6) := con_of X G (SaysX.con c (x := "BITS") (List.mem_of_getElem? (i := 6) rfl)) rfl
theorem b_all (X : K.In h) (G : h.Ns mainGlobals mg) (c : SaysX fa dd cs K) : NameF K mg fns glob cst tab "all" .blt := ⟨He.free_ok X G ((SaysX.d c).fact 67 (f := .free "all") rfl), by decide +kernel⟩
theorem b_sorted (X : K.In h) (G : h.Ns mainGlobals mg) (c : SaysX fa dd cs K) : NameF K mg fns glob cst tab "sorted" .blt := ⟨He.free_ok X G ((SaysX.d c).fact 68 (f := .free "sorted") rfl), by decide +kernel⟩
theorem b_tuple (X : K.In h) (G : h.Ns mainGlobals mg) (c : SaysX fa dd cs K) : NameF K mg fns glob cst tab "tuple" .blt := ⟨He.free_ok X G ((SaysX.d c).fact 69 (f := .free "tuple") rfl), by decide +kernel⟩
theorem b_range (X : K.In h) (G : h.Ns mainGlobals mg) (c : SaysX fa dd cs K) : NameF K mg fns glob cst tab "range" .blt := ⟨He.free_ok X G ((SaysX.d c).fact 70 (f := .free "range") rfl), by decide +kernel⟩
theorem b_isinstance (X : K.In h) (G : h.Ns mainGlobals mg) (c : SaysX fa dd cs K) : NameF K mg fns glob cst tab "isinstance" .blt := ⟨He.free_ok X G ((SaysX.d c).fact 71 (f := .free "isinstance") rfl), by decide +kernel⟩
theorem b_int (X : K.In h) (G : h.Ns mainGlobals mg) (c : SaysX fa dd cs K) : NameF K mg fns glob cst tab "int" .blt := ⟨He.free_ok X G ((SaysX.d c).fact 72 (f := .free "int") rfl), by decide +kernel⟩
theorem b_str (X : K.In h) (G : h.Ns mainGlobals mg) (c : SaysX fa dd cs K) : NameF K mg fns glob cst tab "str" .blt := ⟨He.free_ok X G ((SaysX.d c).fact 73 (f := .free "str") rfl), by decide +kernel⟩
theorem b_list (X : K.In h) (G : h.Ns mainGlobals mg) (c : SaysX fa dd cs K) : NameF K mg fns glob cst tab "list" .blt := ⟨He.free_ok X G ((SaysX.d c).fact 74 (f := .free "list") rfl), by decide +kernel⟩
theorem b_len (X : K.In h) (G : h.Ns mainGlobals mg) (c : SaysX fa dd cs K) : NameF K mg fns glob cst tab "len" .blt := ⟨He.free_ok X G ((SaysX.d c).fact 75 (f := .free "len") rfl), by decide +kernel⟩
theorem b_bool (X : K.In h) (G : h.Ns mainGlobals mg) (c : SaysX fa dd cs K) : NameF K mg fns glob cst tab "bool" .blt := ⟨He.free_ok X G ((SaysX.d c).fact 76 (f := .free "bool") rfl), by decide +kernel⟩
theorem b_set (X : K.In h) (G : h.Ns mainGlobals mg) (c : SaysX fa dd cs K) : NameF K mg fns glob cst tab "set" .blt := ⟨He.free_ok X G ((SaysX.d c).fact 77 (f := .free "set") rfl), by decide +kernel⟩
theorem b_repr (X : K.In h) (G : h.Ns mainGlobals mg) (c : SaysX fa dd cs K) : NameF K mg fns glob cst tab "repr" .blt := ⟨He.free_ok X G ((SaysX.d c).fact 78 (f := .free "repr") rfl), by decide +kernel⟩
theorem b_max (X : K.In h) (G : h.Ns mainGlobals mg) (c : SaysX fa dd cs K) : NameF K mg fns glob cst tab "max" .blt := ⟨He.free_ok X G ((SaysX.d c).fact 79 (f := .free "max") rfl), by decide +kernel⟩
theorem b_min (X : K.In h) (G : h.Ns mainGlobals mg) (c : SaysX fa dd cs K) : NameF K mg fns glob cst tab "min" .blt := ⟨He.free_ok X G ((SaysX.d c).fact 80 (f := .free "min") rfl), by decide +kernel⟩
theorem names (X : K.In h) (G : h.Ns mainGlobals mg) (c : SaysX fa dd cs K) : ∀ x g, (x, g) ∈ tab → NameF K mg fns glob cst tab x g := by
  have all : ∀ p ∈ tab, NameF K mg fns glob cst tab p.1 p.2 :=
    List.forall_mem_cons.mpr ⟨n_0 X G c, List.forall_mem_cons.mpr ⟨n_1 X G c, List.forall_mem_cons.mpr ⟨n_2 X G c, List.forall_mem_cons.mpr ⟨n_3 X G c, List.forall_mem_cons.mpr ⟨n_4 X G c, List.forall_mem_cons.mpr ⟨n_5 X G c, List.forall_mem_cons.mpr ⟨n_6 X G c, List.forall_mem_cons.mpr ⟨n_7 X G c, List.forall_mem_cons.mpr ⟨n_8 X G c, List.forall_mem_cons.mpr ⟨n_9 X G c, List.forall_mem_cons.mpr ⟨n_10 X G c, List.forall_mem_cons.mpr ⟨n_11 X G c, List.forall_mem_cons.mpr ⟨n_12 X G c, List.forall_mem_cons.mpr ⟨n_13 X G c, List.forall_mem_cons.mpr ⟨n_14 X G c, List.forall_mem_cons.mpr ⟨n_15 X G c, List.forall_mem_cons.mpr ⟨n_16 X G c, List.forall_mem_cons.mpr ⟨n_17 X G c, List.forall_mem_cons.mpr ⟨n_18 X G c, List.forall_mem_cons.mpr ⟨n_19 X G c, List.forall_mem_cons.mpr ⟨n_20 X G c, List.forall_mem_cons.mpr ⟨n_21 X G c, List.forall_mem_cons.mpr ⟨n_22 X G c, List.forall_mem_cons.mpr ⟨n_23 X G c, List.forall_mem_cons.mpr ⟨n_24 X G c, List.forall_mem_cons.mpr ⟨n_25 X G c, List.forall_mem_cons.mpr ⟨n_26 X G c, List.forall_mem_cons.mpr ⟨n_27 X G c, List.forall_mem_cons.mpr ⟨n_28 X G c, List.forall_mem_cons.mpr ⟨n_29 X G c, List.forall_mem_cons.mpr ⟨n_30 X G c, List.forall_mem_cons.mpr ⟨n_31 X G c, List.forall_mem_cons.mpr ⟨n_32 X G c, List.forall_mem_cons.mpr ⟨n_33 X G c, List.forall_mem_cons.mpr ⟨n_34 X G c, List.forall_mem_cons.mpr ⟨n_35 X G c, List.forall_mem_cons.mpr ⟨n_36 X G c, List.forall_mem_cons.mpr ⟨n_37 X G c, List.forall_mem_cons.mpr ⟨n_38 X G c, List.forall_mem_cons.mpr ⟨n_39 X G c, List.forall_mem_cons.mpr ⟨n_40 X G c, List.forall_mem_cons.mpr ⟨n_41 X G c, List.forall_mem_cons.mpr ⟨n_42 X G c, List.forall_mem_cons.mpr ⟨n_43 X G c, List.forall_mem_cons.mpr ⟨n_44 X G c, List.forall_mem_cons.mpr ⟨n_45 X G c, List.forall_mem_cons.mpr ⟨n_46 X G c, List.forall_mem_cons.mpr ⟨n_47 X G c, List.forall_mem_cons.mpr ⟨n_48 X G c, List.forall_mem_cons.mpr ⟨n_49 X G c, List.forall_mem_cons.mpr ⟨n_50 X G c, List.forall_mem_cons.mpr ⟨n_51 X G c, List.forall_mem_cons.mpr ⟨n_52 X G c, List.forall_mem_cons.mpr ⟨n_53 X G c, List.forall_mem_cons.mpr ⟨n_54 X G c, List.forall_mem_cons.mpr ⟨n_55 X G c, List.forall_mem_cons.mpr ⟨n_56 X G c, List.forall_mem_cons.mpr ⟨n_57 X G c, List.forall_mem_cons.mpr ⟨n_58 X G c, List.forall_mem_cons.mpr ⟨n_59 X G c, List.forall_mem_cons.mpr ⟨n_60 X G c, List.forall_mem_cons.mpr ⟨n_61 X G c, List.forall_mem_cons.mpr ⟨n_62 X G c, List.forall_mem_cons.mpr ⟨n_63 X G c, List.forall_mem_cons.mpr ⟨n_64 X G c, List.forall_mem_cons.mpr ⟨n_65 X G c, List.forall_mem_cons.mpr ⟨n_66 X G c, List.forall_mem_cons.mpr ⟨v_0 X G c, List.forall_mem_cons.mpr ⟨v_1 X G c, List.forall_mem_cons.mpr ⟨v_2 X G c, List.forall_mem_cons.mpr ⟨v_3 X G c, List.forall_mem_cons.mpr ⟨v_4 X G c, List.forall_mem_cons.mpr ⟨v_5 X G c, List.forall_mem_cons.mpr ⟨v_6 X G c, List.forall_mem_cons.mpr ⟨b_all X G c, List.forall_mem_cons.mpr ⟨b_sorted X G c, List.forall_mem_cons.mpr ⟨b_tuple X G c, List.forall_mem_cons.mpr ⟨b_range X G c, List.forall_mem_cons.mpr ⟨b_isinstance X G c, List.forall_mem_cons.mpr ⟨b_int X G c, List.forall_mem_cons.mpr ⟨b_str X G c, List.forall_mem_cons.mpr ⟨b_list X G c, List.forall_mem_cons.mpr ⟨b_len X G c, List.forall_mem_cons.mpr ⟨b_bool X G c, List.forall_mem_cons.mpr ⟨b_set X G c, List.forall_mem_cons.mpr ⟨b_repr X G c, List.forall_mem_cons.mpr ⟨b_max X G c, List.forall_mem_cons.mpr ⟨b_min X G c, fun _ h => nomatch h⟩⟩⟩⟩⟩⟩⟩⟩⟩⟩⟩⟩⟩⟩⟩⟩⟩⟩⟩⟩⟩⟩⟩⟩⟩⟩⟩⟩⟩⟩⟩⟩⟩⟩⟩⟩⟩⟩⟩⟩⟩⟩⟩⟩⟩⟩⟩⟩⟩⟩⟩⟩⟩⟩⟩⟩⟩⟩⟩⟩⟩⟩⟩⟩⟩⟩⟩⟩⟩⟩⟩⟩⟩⟩⟩⟩⟩⟩⟩⟩⟩⟩⟩⟩⟩⟩⟩⟩
  exact fun x g h => all (x, g) h
end
theorem tab_ok : tabOk tab = true := by decide +kernel
theorem facts {w : World} {K : Fg} {h : Heap} {mg : Str → Option Value} {f : Addr} (X : K.In h) (G0 : h.Ns mainGlobals mg) (hfa : mg ("law" : Str) = some (.ref f)) (c : SaysX fa dd cs K) :
    ∃ fd : FuncData, (∀ (s : Shared) (u : Value), BindsTo s fd ⟨[u], []⟩ [("script", u)]) ∧ ∀ base : Heap, K.In base → base.Ns mainGlobals mg → FnG (PySem.Challenge.rw_gatewarden_k82_journals_told).prog w K mg base (L2.CX (PySem.Challenge.rw_gatewarden_k82_journals_told).prog w) 30 f fd ["script"] (spF K (fun _ _ _ _ _ _ _ => False) (Cn fns glob cst 100 30) 66) := by
  obtain ⟨fd, F⟩ := (SaysX.d c).def_ 66 (d := d_66) rfl
  have b := FunD.bindsA (ps := ["script"]) F fun _ _ _ _ _ _ us hl => match us, hl with | [_], _ => rfl
  have e := hfa.symm.trans (He.glo_ok X G0 ((SaysX.d c).fact 66 (f := .glo "law") rfl))
  cases e
  refine ⟨fd, fun s v => b s [v] rfl, fun base _ _ => ?_⟩
  exact (text_step (P := (PySem.Challenge.rw_gatewarden_k82_journals_told).prog) (w := w) (XR := fun _ _ _ _ _ _ _ => False) (wf := 100) tab_ok (names X G0 c) 29 base (text_ok tab_ok (names X G0 c) 29 base) (N := ["script", "pool", "world", "book", "row", "entries", "odd", "journal", "tried", "value", "due", "kept", "k", "entry"]) (ps := ["script"]) (f := f_law) (st := topS 80) rfl (fun_of F) c_66).1
end E
open PySem PySem.W PySem.Calls PyProof.Rows
theorem PySem.Challenge.cw_gatewarden_k82_journals_told_holds : PySem.Challenge.rw_gatewarden_k82_journals_told.Holds := by
  w_on; o_law
  refine HandSHeadRun.head_any (r := OpenLaw.row PySem.Challenge.rw_gatewarden_k82_journals_told) (q := view (OpenLaw.row PySem.Challenge.rw_gatewarden_k82_journals_told).prog [80]) (H := E.hk) (ob := E.ob) (M := 20000) (loose := E.loose) (d := HandSHeadRun.topDef (OpenLaw.row PySem.Challenge.rw_gatewarden_k82_journals_told).prog 80) (kwd := []) E.ob_eq
    (by kernel_rfl) (fun s => by kernel_rfl) E.run (by kernel_rfl) (by kernel_rfl) (by kernel_rfl) (by rfl) (by first | assumption | decide +kernel) (by decide +kernel) ⟨rfl, rfl, rfl, rfl, rfl, by decide +kernel⟩ ?hw ?hc
  case hw => w_witness2
  case hc =>
    refine G.walk_ofX (l := PySem.Challenge.rw_gatewarden_k82_journals_told) (m := 63) (n := 30) (x := "script") (CX := fun w => L2.CX (PySem.Challenge.rw_gatewarden_k82_journals_told).prog w) rfl (by decide) (by kernel_rfl) ⟨rfl, by decide, by decide⟩ ?F (fun _ _ _ _ _ z => G.noX_cx z)
    intro w mg fa h Y G0 hmg0
    obtain ⟨K, KX, c⟩ := Y
    have hmg : mg ("law" : PySem.Str) = some (.ref fa) := by
      have e : (HandSHeadRun.topDef (OpenLaw.row PySem.Challenge.rw_gatewarden_k82_journals_told).prog 80).name = ("law" : PySem.Str) := by kernel_rfl
      rw [← e]
      exact hmg0
    obtain ⟨fd, hb, hF⟩ := E.facts (w := w) KX G0 hmg c
    refine ⟨K, fd, _, KX, hb, fun H a ns hl _ hS => ?_, hF⟩
    obtain ⟨S', e⟩ := _root_.K.law_ok (wf := 100) (n := 10) (s := ns) hl (by decide)
    exact G.prom_of hS e
