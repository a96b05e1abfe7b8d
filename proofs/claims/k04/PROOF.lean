import PyProof.Rows.All
import Wide.All
import OpenK.AllK
import Wide.FinOn
import HandS.ForMost
import KE.SortData
import HandS.Text
import HandS.Exc
import HandS.ExcOwn
import HandS.WordsExc
import HandS.TupAny
import HandS.Deep
import HandS.TupLe
import HandS.IsInst
import HandS.Style
import HandS.SortOrd
import HandS.Conv
import HandS.Zip
import HandS.CallLocal
import HandS.Iter
import HandS.RaiseMore
import HandS.TryOnly
import HandS.Head1
import HandS.HeadHook1
import HandS.Defaults
import HandS.HeadHook2
import HandS.HeadEnd
import HandS.Ends
import HandS.SetKeys
import KE.KStateDown
import Lean
import HandS.More
import HandS.Head0
import HandS.Head2
import PySem.Challenge.RW_bothsidesjoined_k04_behind_one_another_t
set_option Elab.async false
set_option linter.all false
set_option maxRecDepth 100000
set_option maxHeartbeats 0
/-! Z1: a small evaluator over data. Plain Lean: no machine in sight. -/
namespace Z
open PySem

/-- data: what the programs here hand around -/
inductive D where
  | non | bl (b : Bool) | int (i : Int) | str (x : Str) | tup (ds : List D) | lst (ds : List D) | fn (f : Nat)

/-- a slot: empty, data (never changed again), or a list of its own (k: the borrowed first parameter) -/
inductive Cl where
  | no | dat (d : D) | own (k : Bool) (ds : List D)
abbrev Env := List Cl
def Cl.d : Cl → D
  | .no => .non
  | .dat d => d
  | .own _ ds => .lst ds

/-- an expression's end -/
inductive R (α : Type) where
  | ok (a : α) (e : Env) | ex (x : Nat) (e : Env) | no
def R.bind {α β : Type} (r : R α) (f : α → Env → R β) : R β := match r with
  | .ok a e => f a e
  | .ex x e => .ex x e
  | .no => .no
def R.lift {α : Type} (o : Option α) (e : Env) : R α := match o with
  | some a => .ok a e
  | none => .no
def R.liftC (o : Option Cl) (e : Env) : R Cl := match o with
  | some (.dat d) => .ok (.dat d) e
  | some (.own false ds) => .ok (.own false ds) e
  | _ => .no
/-- a statement's end -/
inductive Fl where
  | nx (e : Env) | rt (c : Cl) (e : Env) | ex (x : Nat) (e : Env) | no
/-- a call's end; p: what the borrowed list holds behind it -/
inductive FR where
  | ok (c : Cl) (p : List D) | ex (x : Nat) (p : List D) | no
abbrev Fn := Option (List D) → List D → FR

inductive Ty where
  | int | bool | tuple | list | str
inductive Bi where
  | len | sum | int | list | tuple | sorted | all | any | repr | str | lenset | sortset
inductive Mt where
  | index | split | join
mutual
inductive Tg where
  | nm (i : Nat) | tp (ts : Tgs)
inductive Tgs where
  | nil | cons (t : Tg) (ts : Tgs)
end
mutual
inductive E where
  | var (i : Nat)
  | lit (d : D)
  | gc (x : Nat)
  | fnm (f : Nat)
  | bin (o : Operator) (a b : E)
  | neg (a : E)
  | not (a : E)
  | and (a b : E)
  | or (a b : E)
  | cmp (o : CmpOp) (a b : E)
  | chn (o o' : CmpOp) (a b c : E)
  | ite (c a b : E)
  | tup (es : Es)
  | lst (es : Es)
  | idx (a i : E)
  | vix (i : Nat) (k : E)
  | vln (i : Nat)
  | vcl (o : CmpOp) (i : Nat) (b : E)
  | vcr (o : CmpOp) (a : E) (i : Nat)
  | slc (a : E) (lo hi : Oe)
  | rev (a : E)
  | app (f : Nat) (p : Option Nat) (es : Es)
  | cal (i : Nat) (es : Es)
  | bi (b : Bi) (e : E)
  | mn (a b : E)
  | rgl (es : Es)
  | rgt (es : Es)
  | isi (a : E) (t : Ty)
  | mth (m : Mt) (a : E) (e : E)
  | cm1 (elt : E) (tg : Tg) (it : It) (c : Oe) (vs : List Nat)
  | cm2 (elt : E) (tg : Tg) (it : It) (c : Oe) (tg' : Tg) (it' : It) (c' : Oe) (vs vs' : List Nat)
inductive Es where
  | nil | cons (e : E) (es : Es)
inductive Oe where
  | non | som (e : E)
inductive It where
  | seq (e : E) | rng (es : Es) | enu (e : E) | zip (a b : E)
end
def Es.len : Es → Nat
  | .nil => 0
  | .cons _ es => es.len + 1

/-! ### data's own operations -/
def LIM : Nat := 16777216
mutual
/-- no functions within, texts of true signs, nested at most n deep -/
def D.sh : Nat → D → Bool
  | _, .non => true
  | _, .bl _ => true
  | _, .int _ => true
  | _, .str x => x.cps.all (· < 0x110000)
  | 0, .tup _ => false
  | n + 1, .tup ds => D.shs n ds
  | 0, .lst _ => false
  | n + 1, .lst ds => D.shs n ds
  | _, .fn _ => false
def D.shs : Nat → List D → Bool
  | _, [] => true
  | n, d :: ds => D.sh n d && D.shs n ds
end
mutual
/-- == -/
def D.eq : D → D → Bool
  | .non, .non => true
  | .bl a, .bl b => a == b
  | .bl a, .int j => (if a then 1 else 0) == j
  | .int i, .bl b => i == (if b then 1 else 0)
  | .int i, .int j => i == j
  | .str x, .str y => x == y
  | .tup xs, .tup ys => D.eqs xs ys
  | .lst xs, .lst ys => D.eqs xs ys
  | _, _ => false
def D.eqs : List D → List D → Bool
  | [], [] => true
  | x :: xs, y :: ys => D.eq x y && D.eqs xs ys
  | _, _ => false
end
def strLt (x y : Str) : Bool := decide (x.cps.toList < y.cps.toList)
def D.num : D → Option Int
  | .int i => some i
  | .bl b => some (if b then 1 else 0)
  | _ => none
mutual
/-- as the library's data -/
def D.py : D → PyData
  | .non => .none
  | .bl b => .bool b
  | .int i => .int i
  | .str x => .str x
  | .tup ds => .tuple (D.pys ds)
  | .lst ds => .list (D.pys ds)
  | .fn _ => .none
def D.pys : List D → List PyData
  | [] => []
  | d :: ds => D.py d :: D.pys ds
end
/-- sorted -/
def sortD (ds : List D) : List D := ds.mergeSort (PySem.W.dataLe false D.py)
def tupNe : D → Bool
  | .tup (_ :: _) => true
  | _ => false
def plainD : D → Bool
  | .bl _ => true
  | .int _ => true
  | .str _ => true
  | .lst _ => true
  | _ => false
/-- what may be sorted: all of one form -/
def sortable (ds : List D) : Bool := decide (ds.length < 2) || (ds.length ≤ LIM && D.shs 60 ds && (ds.all fun x => ds.all fun y => PySem.W.alike x.py y.py) && (ds.all tupNe || ds.all plainD))

def cMul (i j : Int) : Bool := (decide (-(2 ^ 64) < i) && decide (i < 2 ^ 64)) || (decide (-(2 ^ 64) < j) && decide (j < 2 ^ 64))
/-- a op b -/
def opD : Operator → D → D → Option Cl
  | .Add, .int i, .int j => some (.dat (.int (i + j)))
  | .Add, .str x, .str y => if x.length + y.length ≤ LIM then some (.dat (.str (x ++ y))) else none
  | .Add, .tup x, .tup y => if x.length + y.length ≤ LIM then some (.dat (.tup (x ++ y))) else none
  | .Add, .lst x, .lst y => if x.length + y.length ≤ LIM then some (.own false (x ++ y)) else none
  | .Sub, .int i, .int j => some (.dat (.int (i - j)))
  | .Mult, .int i, .int j => if cMul i j then some (.dat (.int (i * j))) else none
  | .Mult, .lst x, .int k => if 0 ≤ k && k ≤ 1000000 && x.length * k.toNat ≤ LIM then some (.own false (List.replicate k.toNat x).flatten) else none
  | .Mod, .int i, .int j => if 0 < j then some (.dat (.int (i % j))) else none
  | .FloorDiv, .int i, .int j => if 0 < j && j < 1073741824 then some (.dat (.int (i / j))) else none
  | _, _, _ => none
def isNon : D → Bool
  | .non => true
  | _ => false
def memD (x : D) (ys : List D) : Bool := ys.any fun y => D.eq y x
def intsOf : List D → Option (List Int)
  | [] => some []
  | .int i :: r => (intsOf r).map (i :: ·)
  | _ => none
def lexI : List Int → List Int → Bool
  | [], [] => false
  | [], _ :: _ => true
  | _ :: _, [] => false
  | x :: xs, y :: ys => if x = y then lexI xs ys else decide (x < y)
/-- a op b, a comparison -/
def cmpD : CmpOp → D → D → Option Bool
  | .Eq, a, b => if a.sh 60 && b.sh 60 then some (D.eq a b) else none
  | .NotEq, a, b => if a.sh 60 && b.sh 60 then some (!D.eq a b) else none
  | .Lt, .int i, .int j => some (decide (i < j))
  | .LtE, .int i, .int j => some (decide (i ≤ j))
  | .Gt, .int i, .int j => some (decide (j < i))
  | .GtE, .int i, .int j => some (decide (j ≤ i))
  | .Lt, .tup x, .tup y => (intsOf x).bind fun a => (intsOf y).map fun b => lexI a b
  | .LtE, .tup x, .tup y => (intsOf x).bind fun a => (intsOf y).map fun b => !lexI b a
  | .Is, a, .non => some (isNon a)
  | .IsNot, a, .non => some (!isNon a)
  | .In, a, .lst ds => if a.sh 60 && D.shs 60 ds then some (memD a ds) else none
  | .NotIn, a, .lst ds => if a.sh 60 && D.shs 60 ds then some (!memD a ds) else none
  | .In, a, .tup ds => if a.sh 60 && D.shs 60 ds then some (memD a ds) else none
  | .NotIn, a, .tup ds => if a.sh 60 && D.shs 60 ds then some (!memD a ds) else none
  | .In, .str x, .str y => some (!(Builtin.Str.occurrences y x 0 y.length 1).isEmpty)
  | .NotIn, .str x, .str y => some (!(!(Builtin.Str.occurrences y x 0 y.length 1).isEmpty))
  | _, _, _ => none
def ixD (n : Nat) (i : Int) : Option Nat := if 0 ≤ i then (if i < n then some i.toNat else none) else if -(n : Int) ≤ i then some (i + n).toNat else none
/-- a[i] -/
def atD : D → D → Option D
  | .lst ds, .int i => (ixD ds.length i).bind fun j => ds[j]?
  | .tup ds, .int i => (ixD ds.length i).bind fun j => ds[j]?
  | .str x, .int i => if x.length ≤ LIM then (ixD x.cps.toList.length i).bind fun j => (x.cps.toList[j]?).map fun c => .str ⟨#[c]⟩ else none
  | _, _ => none
def sIx (n d : Nat) : Option Int → Nat
  | none => d
  | some v => if v < 0 then (v + (n : Int)).toNat else min v.toNat n
def cutL {α : Type} (xs : List α) (lo hi : Option Int) : List α := (xs.drop (sIx xs.length 0 lo)).take (sIx xs.length xs.length hi - sIx xs.length 0 lo)
/-- a[lo:hi] -/
def cutD (d : D) (l h : Option Int) : Option Cl := match d with
  | .lst ds => some (.own false (cutL ds l h))
  | .tup ds => some (.dat (.tup (cutL ds l h)))
  | .str x => if x.length ≤ LIM then some (.dat (.str ⟨(cutL x.cps.toList l h).toArray⟩)) else none
  | _ => none
/-- a[::-1] -/
def revD : D → Option Cl
  | .lst ds => some (.own false ds.reverse)
  | .tup ds => some (.dat (.tup ds.reverse))
  | _ => none
def blsOf : List D → Option (List Bool)
  | [] => some []
  | .bl b :: r => (blsOf r).map (b :: ·)
  | _ => none
def isD : Ty → D → Option Bool
  | t, .non => some false
  | t, .bl _ => some (match t with | .int => true | .bool => true | _ => false)
  | t, .int _ => some (match t with | .int => true | _ => false)
  | t, .str _ => some (match t with | .str => true | _ => false)
  | t, .tup _ => some (match t with | .tuple => true | _ => false)
  | t, .lst _ => some (match t with | .list => true | _ => false)
  | _, .fn _ => none
def strsOf : List D → Option (List Str)
  | [] => some []
  | .str x :: r => (strsOf r).map (x :: ·)
  | _ => none
def itemsOf : D → Option (List D)
  | .tup ds => some ds
  | .lst ds => some ds
  | _ => none
def dedupI : List Int → List Int
  | [] => []
  | x :: r => if x ∈ r then dedupI r else x :: dedupI r
def indexD (x : D) : List D → Option Nat
  | [] => none
  | y :: r => if D.eq y x then some 0 else (indexD x r).map (· + 1)
/-- the built-ins of one argument -/
def biD : Bi → D → Option Cl
  | .len, .lst ds => some (.dat (.int ds.length))
  | .len, .tup ds => some (.dat (.int ds.length))
  | .len, .str x => if x.length ≤ LIM then some (.dat (.int x.length)) else none
  | .sum, .lst ds => (intsOf ds).map fun ns => .dat (.int ns.sum)
  | .int, .int i => some (.dat (.int i))
  | .int, .bl b => some (.dat (.int (if b then 1 else 0)))
  | .int, .str x => if x.length ≤ 640 then (PySem.intText? x).map fun n => .dat (.int n) else none
  | .list, .lst ds => some (.own false ds)
  | .list, .tup ds => some (.own false ds)
  | .tuple, .lst ds => some (.dat (.tup ds))
  | .tuple, .tup ds => some (.dat (.tup ds))
  | .sorted, d => (itemsOf d).bind fun ds => if sortable ds then some (.own false (sortD ds)) else none
  | .all, .lst ds => (blsOf ds).map fun bs => .dat (.bl (bs.all id))
  | .any, .lst ds => (blsOf ds).map fun bs => .dat (.bl (bs.any id))
  | .str, .int i => if i.natAbs.log2 < 1920 then some (.dat (.str (toString i))) else none
  | _, _ => none
def minD : D → D → Option Cl
  | .int i, .int j => some (.dat (.int (if j < i then j else i)))
  | _, _ => none
/-- a method's receiver -/
def mtR : Mt → D → Option Unit
  | .index, .lst _ => some ()
  | .split, .str _ => some ()
  | .join, .str _ => some ()
  | _, _ => none
def mtD : Mt → D → D → Option Cl
  | .index, .lst ds, x => if x.sh 60 && D.shs 59 ds then (indexD x ds).map fun j => .dat (.int j) else none
  | .split, .str a, .str b => if !(b.length == 0) && decide (a.length + 2 ≤ LIM) then some (.own false ((PySem.Txt.split a b).map .str)) else none
  | .join, .str a, d => (itemsOf d).bind fun ds => (strsOf ds).bind fun ys => if (ys.map (·.length)).sum + ys.length * a.length ≤ LIM then some (.dat (.str (PySem.Txt.join a ys))) else none
  | _, _, _ => none

/-! ### the evaluator -/
def isNone : Cl → Bool
  | .no => true
  | _ => false
/-- the slots vs emptied -/
def wipeE (e : Env) : List Nat → Env
  | [] => e
  | v :: vs => (wipeE e vs).set v .no
/-- the slots vs as they were in e -/
def backE (e : Env) : List Nat → Env → Env
  | [], f => f
  | v :: vs, f => (backE e vs f).set v (e.getD v .no)
def data (r : R Cl) : R D := r.bind fun c e => .ok c.d e
def truth (r : R D) : R Bool := r.bind fun d e => match d with
  | .bl b => .ok b e
  | _ => .no
def readV (i : Nat) (e : Env) : R Cl := match e.getD i .no with
  | .no => .no
  | .dat d => .ok (.dat d) e
  | .own true _ => .no
  | .own false ds => .ok (.dat (.lst ds)) (e.set i (.dat (.lst ds)))
/-- what a slot holds, read in place -/
def peek (i : Nat) (e : Env) : Option D := match e.getD i .no with
  | .no => none
  | .dat d => some d
  | .own _ ds => some (.lst ds)
mutual
def bindTg : Tg → D → Env → Option Env
  | .nm i, d, e => if i < e.length then some (e.set i (.dat d)) else none
  | .tp ts, d, e => match d with
    | .tup ds => bindTgs ts ds e
    | _ => none
def bindTgs : Tgs → List D → Env → Option Env
  | .nil, [], e => some e
  | .cons t ts, d :: ds, e => (bindTg t d e).bind fun e1 => bindTgs ts ds e1
  | _, _, _ => none
end
def upto : Nat → Int → Int → List D
  | 0, _, _ => []
  | n + 1, lo, c => .int lo :: upto n (lo + c) c
def small62 (i : Int) : Bool := decide (-(2 ^ 62) ≤ i) && decide (i < 2 ^ 62)
/-- how many turns range(i, j, c) has -/
def rngN (i j c : Int) : Nat := if 0 < c then (if i < j then ((j - i - 1) / c + 1).toNat else 0) else if j < i then ((i - j - 1) / (-c) + 1).toNat else 0
def rngD : List D → Option (List D)
  | [.int j] => if small62 j && decide (j ≤ LIM) then some (upto j.toNat 0 1) else none
  | [.int i, .int j] => if small62 i && small62 j && decide (j - i ≤ LIM) then some (upto (j - i).toNat i 1) else none
  | [.int i, .int j, .int c] => if small62 i && small62 j && decide (-1000 ≤ c) && decide (c ≤ 1000) && decide (c ≠ 0) && decide (rngN i j c ≤ LIM) then some (upto (rngN i j c) i c) else none
  | _ => none
def enumL : Nat → List D → List D
  | _, [] => []
  | n, d :: ds => .tup [.int n, d] :: enumL (n + 1) ds
def zipL : List D → List D → List D
  | x :: xs, y :: ys => .tup [x, y] :: zipL xs ys
  | _, _ => []
/-- the turns of a comprehension -/
def turns (f : D → Env → R (List D)) : List D → Env → R (List D)
  | [], e => .ok [] e
  | d :: ds, e => (f d e).bind fun ys e1 => (turns f ds e1).bind fun zs e2 => .ok (ys ++ zs) e2
/-- no exception leaves a comprehension -/
def shut {α : Type} (r : R α) : R α := match r with
  | .ok a e => .ok a e
  | _ => .no
def callR (fr : FR) (p : Option Nat) (e : Env) : R Cl := match fr, p with
  | .ok c _, none => R.liftC (some c) e
  | .ok c q, some i => (match e.getD i .no with
    | .own k _ => R.liftC (some c) (e.set i (.own k q))
    | _ => .no)
  | .ex x _, none => .ex x e
  | .ex x q, some i => (match e.getD i .no with
    | .own k _ => .ex x (e.set i (.own k q))
    | _ => .no)
  | .no, _ => .no
def callA (T : Nat → Fn) (f : Nat) (p : Option Nat) (ds : List D) (e : Env) : R Cl := match p with
  | none => callR (T f none ds) none e
  | some i => (match e.getD i .no with
    | .own _ q => callR (T f (some q) ds) (some i) e
    | _ => .no)
section
variable (T : Nat → Fn) (G : Nat → Option D)
mutual
def ev : E → Env → R Cl
  | .var i, e => readV i e
  | .lit d, e => .ok (.dat d) e
  | .gc x, e => R.lift ((G x).map .dat) e
  | .fnm f, e => .ok (.dat (.fn f)) e
  | .bin o a b, e => (data (ev a e)).bind fun x e1 => (data (ev b e1)).bind fun y e2 => R.liftC (opD o x y) e2
  | .neg a, e => (data (ev a e)).bind fun x e1 => match x with
    | .int i => .ok (.dat (.int (-i))) e1
    | _ => .no
  | .not a, e => (truth (data (ev a e))).bind fun b e1 => .ok (.dat (.bl (!b))) e1
  | .and a b, e => (truth (data (ev a e))).bind fun x e1 => if x then (data (ev b e1)).bind fun y e2 => .ok (.dat y) e2 else .ok (.dat (.bl false)) e1
  | .or a b, e => (truth (data (ev a e))).bind fun x e1 => if x then .ok (.dat (.bl true)) e1 else (data (ev b e1)).bind fun y e2 => .ok (.dat y) e2
  | .cmp o a b, e => (data (ev a e)).bind fun x e1 => (data (ev b e1)).bind fun y e2 => R.lift ((cmpD o x y).map fun c => .dat (.bl c)) e2
  | .chn o o' a b c, e => (data (ev a e)).bind fun x e1 => (data (ev b e1)).bind fun y e2 => (R.lift (cmpD o x y) e2).bind fun k e3 =>
      if k then (data (ev c e3)).bind fun z e4 => R.lift ((cmpD o' y z).map fun c => .dat (.bl c)) e4 else .ok (.dat (.bl false)) e3
  | .ite c a b, e => (truth (data (ev c e))).bind fun k e1 => if k then (data (ev a e1)).bind fun y e2 => .ok (.dat y) e2 else (data (ev b e1)).bind fun y e2 => .ok (.dat y) e2
  | .tup es, e => (evs es e).bind fun ds e1 => .ok (.dat (.tup ds)) e1
  | .lst es, e => (evs es e).bind fun ds e1 => .ok (.own false ds) e1
  | .idx a i, e => (data (ev a e)).bind fun x e1 => (data (ev i e1)).bind fun y e2 => R.lift ((atD x y).map .dat) e2
  | .vix i k, e => (R.lift (peek i e) e).bind fun _ _ => (data (ev k e)).bind fun y e1 => R.lift ((peek i e1).bind fun x => (atD x y).map .dat) e1
  | .vln i, e => R.liftC ((peek i e).bind fun x => biD .len x) e
  | .vcl o i b, e => (R.lift (peek i e) e).bind fun _ _ => (data (ev b e)).bind fun y e1 => R.lift ((peek i e1).bind fun x => (cmpD o x y).map fun c => .dat (.bl c)) e1
  | .vcr o a i, e => (data (ev a e)).bind fun x e1 => R.lift ((peek i e1).bind fun y => (cmpD o x y).map fun c => .dat (.bl c)) e1
  | .slc a lo hi, e => (data (ev a e)).bind fun x e1 => (evo lo e1).bind fun l e2 => (evo hi e2).bind fun h e3 => R.liftC (cutD x l h) e3
  | .rev a, e => (data (ev a e)).bind fun x e1 => R.liftC (revD x) e1
  | .app f p es, e => (match p with
    | none => (evs es e).bind fun ds e1 => callR (T f none ds) none e1
    | some i => (R.lift (peek i e) e).bind fun _ _ => (evs es e).bind fun ds e1 => callA T f (some i) ds e1)
  | .cal i es, e => (evs es e).bind fun ds e1 => match peek i e1 with
    | some (.fn f) => callR (T f none ds) none e1
    | _ => .no
  | .bi b a, e => (data (ev a e)).bind fun x e1 => R.liftC (biD b x) e1
  | .mn a b, e => (data (ev a e)).bind fun x e1 => (data (ev b e1)).bind fun y e2 => R.liftC (minD x y) e2
  | .rgl es, e => (evs es e).bind fun ds e1 => R.liftC ((rngD ds).map (.own false)) e1
  | .rgt es, e => (evs es e).bind fun ds e1 => R.liftC ((rngD ds).map fun l => .dat (.tup l)) e1
  | .isi a t, e => (data (ev a e)).bind fun x e1 => R.lift ((isD t x).map fun c => .dat (.bl c)) e1
  | .mth m a b, e => (data (ev a e)).bind fun x e1 => (R.lift (mtR m x) e1).bind fun _ _ => (data (ev b e1)).bind fun y e2 => R.liftC (mtD m x y) e2
  | .cm1 elt tg it c vs, e => (evi it e).bind fun items e1 =>
      (shut (turns (fun d e2 => (R.lift (bindTg tg d (wipeE e2 vs)) e2).bind fun e3 _ => (evc c e3).bind fun k e4 => if k then (data (ev elt e4)).bind fun y e5 => .ok [y] e5 else .ok [] e4) items e1)).bind fun ds e6 =>
        .ok (.own false ds) (backE e1 vs e6)
  | .cm2 elt tg it c tg' it' c' vs vs', e => (evi it e).bind fun items e1 =>
      (shut (turns (fun d e2 => (R.lift (bindTg tg d (wipeE e2 vs)) e2).bind fun e3 _ => (evc c e3).bind fun k e4 => if k then
          (evi it' e4).bind fun items' e5 => (turns (fun d' e6 => (R.lift (bindTg tg' d' (wipeE e6 vs')) e6).bind fun e7 _ => (evc c' e7).bind fun k' e8 =>
            if k' then (data (ev elt e8)).bind fun y e9 => .ok [y] e9 else .ok [] e8) items' e5)
        else .ok [] e4) items e1)).bind fun ds e6 => if ds.length ≤ LIM then .ok (.own false ds) (backE e1 vs e6) else .no
def evs : Es → Env → R (List D)
  | .nil, e => .ok [] e
  | .cons a es, e => (data (ev a e)).bind fun x e1 => (evs es e1).bind fun xs e2 => .ok (x :: xs) e2
def evo : Oe → Env → R (Option Int)
  | .non, e => .ok none e
  | .som a, e => (data (ev a e)).bind fun x e1 => match x with
    | .int i => .ok (some i) e1
    | _ => .no
/-- a clause's test -/
def evc : Oe → Env → R Bool
  | .non, e => .ok true e
  | .som a, e => truth (data (ev a e))
def evi : It → Env → R (List D)
  | .seq a, e => (data (ev a e)).bind fun x e1 => R.lift (itemsOf x) e1
  | .rng es, e => (evs es e).bind fun ds e1 => R.lift (rngD ds) e1
  | .enu a, e => (data (ev a e)).bind fun x e1 => R.lift ((itemsOf x).map (enumL 0)) e1
  | .zip a b, e => (data (ev a e)).bind fun x e1 => (data (ev b e1)).bind fun y e2 => R.lift ((itemsOf x).bind fun xs => (itemsOf y).map fun ys => zipL xs ys) e2
end
end

/-! ### statements -/
mutual
inductive S where
  | set (i : Nat) (e : E)
  | asg (t : Tg) (e : E)
  | par (vs : List Nat) (es : Es)
  | tpar (t : Tgs) (es : Es)
  | sti (i : Nat) (k e : E)
  | st2 (i : Nat) (k k' e e' : E)
  | aug (i : Nat) (o : Operator) (e : E)
  | apd (i : Nat) (e : E)
  | xtd (i : Nat) (e : E)
  | rvs (i : Nat)
  | exp (e : E)
  | iff (c : E) (a b : Ss)
  | for_ (t : Tg) (it : It) (b : Ss)
  | whl (c : E) (b : Ss)
  | ret (e : E)
  | rse (x : Nat) (e : E)
  | try_ (b : Ss) (x : Nat) (h : Ss)
  | pas
inductive Ss where
  | nil | cons (s : S) (ss : Ss)
end
def Fl.then (r : Fl) (f : Env → Fl) : Fl := match r with
  | .nx e => f e
  | r => r
def R.fl {α : Type} (r : R α) (f : α → Env → Fl) : Fl := match r with
  | .ok a e => f a e
  | .ex x e => .ex x e
  | .no => .no
def stC (i : Nat) (c : Cl) (e : Env) : Fl := if i < e.length then .nx (e.set i c) else .no
def stL : List Nat → List Cl → Env → Option Env
  | [], [], e => some e
  | i :: is, c :: cs, e => if i < e.length then stL is cs (e.set i c) else none
  | _, _, _ => none
def setAt (ds : List D) (i : Int) (d : D) : Option (List D) := (ixD ds.length i).map fun j => ds.set j d
/-- a slot's own list changed -/
def onOwn (i : Nat) (e : Env) (f : List D → Option (List D)) : Fl := match e.getD i .no with
  | .own k ds => (match f ds with
    | some ds' => .nx (e.set i (.own k ds'))
    | none => .no)
  | _ => .no
def augD : Operator → Int → D → Option Int
  | .Add, x, .int y => some (x + y)
  | .Mult, x, .int y => if cMul x y then some (x * y) else none
  | _, _, _ => none
def ownAt (i : Nat) (e : Env) : Option Unit := match e.getD i .no with
  | .own _ _ => some ()
  | _ => none
def ixOf : D → Option Int
  | .int i => some i
  | _ => none
def forL (f : D → Env → Fl) : List D → Env → Fl
  | [], e => .nx e
  | d :: ds, e => (f d e).then (forL f ds)
def whlL (c : Env → R Bool) (b : Env → Fl) : Nat → Env → Fl
  | 0, _ => .no
  | n + 1, e => (c e).fl fun k e1 => if k then (b e1).then (whlL c b n) else .nx e1
def FUEL : Nat := 100000
section
variable (T : Nat → Fn) (G : Nat → Option D)
/-- items as cells: new lists stay their own -/
def evcs : Es → Env → R (List Cl)
  | .nil, e => .ok [] e
  | .cons a es, e => (ev T G a e).bind fun x e1 => (evcs es e1).bind fun xs e2 => .ok (x :: xs) e2
mutual
def xs : S → Env → Fl
  | .set i a, e => (ev T G a e).fl fun c e1 => stC i c e1
  | .asg t a, e => (data (ev T G a e)).fl fun d e1 => (match bindTg t d e1 with
    | some e2 => .nx e2
    | none => .no)
  | .par vs es, e => (evcs T G es e).fl fun cs e1 => (match stL vs cs e1 with
    | some e2 => .nx e2
    | none => .no)
  | .tpar t es, e => (evs T G es e).fl fun ds e1 => (match bindTgs t ds e1 with
    | some e2 => .nx e2
    | none => .no)
  | .sti i k a, e => (data (ev T G a e)).fl fun d e1 => (R.lift (peek i e1) e1).fl fun _ _ => (data (ev T G k e1)).fl fun j e2 => onOwn i e2 fun ds => (ixOf j).bind fun j => setAt ds j d
  | .st2 i k k' a a', e => (data (ev T G a e)).fl fun d e1 => (data (ev T G a' e1)).fl fun d' e2 => (R.lift (peek i e2) e2).fl fun _ _ => (data (ev T G k e2)).fl fun j e3 =>
      (onOwn i e3 fun ds => (ixOf j).bind fun j => setAt ds j d).then fun e4 => (R.lift (peek i e4) e4).fl fun _ _ => (data (ev T G k' e4)).fl fun j' e5 => onOwn i e5 fun ds => (ixOf j').bind fun j => setAt ds j d'
  | .aug i o a, e => (R.lift ((peek i e).bind ixOf) e).fl fun x _ => (data (ev T G a e)).fl fun y e1 => (R.lift (augD o x y) e1).fl fun z e2 => stC i (.dat (.int z)) e2
  | .apd i a, e => (R.lift (ownAt i e) e).fl fun _ _ => (data (ev T G a e)).fl fun d e1 => onOwn i e1 fun ds => if ds.length < LIM then some (ds ++ [d]) else none
  | .xtd i a, e => (R.lift (ownAt i e) e).fl fun _ _ => (data (ev T G a e)).fl fun d e1 => onOwn i e1 fun ds => (itemsOf d).bind fun zs => if ds.length + zs.length ≤ LIM then some (ds ++ zs) else none
  | .rvs i, e => onOwn i e fun ds => some ds.reverse
  | .exp a, e => (data (ev T G a e)).fl fun _ e1 => .nx e1
  | .iff c a b, e => (truth (data (ev T G c e))).fl fun k e1 => if k then xss a e1 else xss b e1
  | .for_ t it b, e => (evi T G it e).fl fun items e1 => forL (fun d e2 => match bindTg t d e2 with
    | some e3 => xss b e3
    | none => .no) items e1
  | .whl c b, e => whlL (fun e => truth (data (ev T G c e))) (fun e => xss b e) FUEL e
  | .ret a, e => (ev T G a e).fl fun c e1 => .rt c e1
  | .rse x a, e => (data (ev T G a e)).fl fun _ e1 => .ex x e1
  | .try_ b x h, e => (match xss b e with
    | .ex y e1 => if y = x then xss h e1 else .ex y e1
    | r => r)
  | .pas, e => .nx e
def xss : Ss → Env → Fl
  | .nil, e => .nx e
  | .cons s ss, e => (xs s e).then fun e1 => xss ss e1
end
end

/-! ### defs -/
structure Fd where
  io : Bool
  np : Nat
  ns : Nat
  body : Ss
inductive Pf where
  | ast (d : Fd) | prim (g : Fn)
def poolOf (io : Bool) (e : Env) : Option (List D) := if io then (match e.getD 0 .no with
    | .own true q => some q
    | _ => none) else some []
def finF (io : Bool) (r : Fl) : FR := match r with
  | .nx e => (match poolOf io e with
    | some q => .ok (.dat .non) q
    | none => .no)
  | .rt c e => (match poolOf io e with
    | some q => .ok c q
    | none => .no)
  | .ex x e => (match poolOf io e with
    | some q => .ex x q
    | none => .no)
  | .no => .no
def entryE (d : Fd) (p : Option (List D)) (ds : List D) : Env :=
  (match p with
  | some q => [.own true q]
  | none => []) ++ ds.map .dat ++ List.replicate (d.ns - (d.np + (if d.io then 1 else 0))) .no
def runFd (T : Nat → Fn) (G : Nat → Option D) (d : Fd) : Fn := fun p ds =>
  if p.isSome = d.io ∧ ds.length = d.np then finF d.io (xss T G d.body (entryE d p ds)) else .no
def run (P : Nat → Option Pf) (G : Nat → Option D) : Nat → Nat → Fn
  | 0, _ => fun _ _ => .no
  | k + 1, f => match P f with
    | some (.ast d) => runFd (run P G k) G d
    | some (.prim g) => g
    | none => fun _ _ => .no
end Z

/-! Z2: how data lie in the layer's heap; what a step may change. -/
namespace Z
open PySem PySem.Spec L2

/-- the names of the text; what stands at the module's constants -/
structure Nm where
  nf : Nat → Str
  nx : Nat → Str
  ng : Nat → Str
  gv : Nat → Option D
  pr : Nat → Bool
  px : Nat → Bool

mutual
inductive Rp (n : Nm) (K : PySem.W.Frag) (mg : Str → Option Value) (F : Hp) : V → D → Prop
  | non : Rp n K mg F .non .non
  | bl (b : Bool) : Rp n K mg F (.bl b) (.bl b)
  | int (i : Int) : Rp n K mg F (.int i) (.int i)
  | str (x : Str) : Rp n K mg F (.str x) (.str x)
  | tup {a : Addr} {vs : List V} {ds : List D} : SqT K F a vs → vs.length ≤ sizeLine → Rps n K mg F vs ds → Rp n K mg F (.ref a) (.tup ds)
  | lst {a : Addr} {vs : List V} {ds : List D} : SqL K F a vs → vs.length ≤ sizeLine → Rps n K mg F vs ds → Rp n K mg F (.ref a) (.lst ds)
  | fn {f : Nat} {a : Addr} : mg (n.nf f) = some (.ref a) → Rp n K mg F (.ref a) (.fn f)
inductive Rps (n : Nm) (K : PySem.W.Frag) (mg : Str → Option Value) (F : Hp) : List V → List D → Prop
  | nil : Rps n K mg F [] []
  | cons {v : V} {vs : List V} {d : D} {ds : List D} : Rp n K mg F v d → Rps n K mg F vs ds → Rps n K mg F (v :: vs) (d :: ds)
end
section
variable {n : Nm} {K : PySem.W.Frag} {mg : Str → Option Value} {F F' : Hp}
theorem Rd.up {a : Addr} {u : HO} (h : Rd F a u) (e : ∀ b o, F b = some o → F' b = some o) : Rd F' a u := by
  rcases h with h | ⟨o, h⟩
  · exact .inl (e _ _ h)
  · exact .inr ⟨o, e _ _ h⟩
theorem SqL.up {a : Addr} {vs : List V} (h : SqL K F a vs) (e : ∀ b o, F b = some o → F' b = some o) : SqL K F' a vs := by
  rcases h with h | h
  · exact .inl (Rd.up h e)
  · exact .inr h
theorem SqT.up {a : Addr} {vs : List V} (h : SqT K F a vs) (e : ∀ b o, F b = some o → F' b = some o) : SqT K F' a vs := by
  rcases h with h | h
  · exact .inl (Rd.up h e)
  · exact .inr h
mutual
theorem Rp.up (e : ∀ b o, F b = some o → F' b = some o) : ∀ {v : V} {d : D}, Rp n K mg F v d → Rp n K mg F' v d
  | _, .non, h => by cases h; exact .non
  | _, .bl _, h => by cases h; exact .bl _
  | _, .int _, h => by cases h; exact .int _
  | _, .str _, h => by cases h; exact .str _
  | _, .tup ds, h => by
    cases h with
    | tup h1 h2 h3 => exact .tup (SqT.up h1 e) h2 (Rps.up e h3)
  | _, .lst ds, h => by
    cases h with
    | lst h1 h2 h3 => exact .lst (SqL.up h1 e) h2 (Rps.up e h3)
  | _, .fn _, h => by
    cases h with
    | fn h => exact .fn h
theorem Rps.up (e : ∀ b o, F b = some o → F' b = some o) : ∀ {vs : List V} {ds : List D}, Rps n K mg F vs ds → Rps n K mg F' vs ds
  | _, [], h => by cases h; exact .nil
  | _, d :: ds, h => by
    cases h with
    | cons h1 h2 => exact .cons (Rp.up e h1) (Rps.up e h2)
end
theorem Rps.length : ∀ {vs : List V} {ds : List D}, Rps n K mg F vs ds → vs.length = ds.length
  | _, _, .nil => rfl
  | _, _, .cons _ h => by rw [List.length_cons, List.length_cons, Rps.length h]
theorem Rps.app : ∀ {vs ws : List V} {ds es : List D}, Rps n K mg F vs ds → Rps n K mg F ws es → Rps n K mg F (vs ++ ws) (ds ++ es)
  | _, _, _, _, .nil, h => h
  | _, _, _, _, .cons h t, h' => .cons h (Rps.app t h')
theorem Rps.get : ∀ {vs : List V} {ds : List D} {i : Nat} {d : D}, Rps n K mg F vs ds → ds[i]? = some d → ∃ v, vs[i]? = some v ∧ Rp n K mg F v d
  | _, _, _, _, .nil, h => by simp at h
  | _, _, 0, _, .cons h _, e => by
    have e' := Option.some.inj (show some _ = some _ from e)
    exact ⟨_, rfl, e' ▸ h⟩
  | _, _, i + 1, _, .cons _ t, e => by
    obtain ⟨v, h1, h2⟩ := Rps.get (i := i) t (by simpa using e)
    exact ⟨v, by simpa using h1, h2⟩
theorem Rps.take : ∀ {vs : List V} {ds : List D} (m : Nat), Rps n K mg F vs ds → Rps n K mg F (vs.take m) (ds.take m)
  | _, _, 0, _ => .nil
  | _, _, _ + 1, .nil => .nil
  | _, _, m + 1, .cons h t => .cons h (Rps.take m t)
theorem Rps.drop : ∀ {vs : List V} {ds : List D} (m : Nat), Rps n K mg F vs ds → Rps n K mg F (vs.drop m) (ds.drop m)
  | _, _, 0, h => h
  | _, _, _ + 1, .nil => .nil
  | _, _, m + 1, .cons _ t => Rps.drop m t
theorem Rps.rev : ∀ {vs : List V} {ds : List D}, Rps n K mg F vs ds → Rps n K mg F vs.reverse ds.reverse
  | _, _, .nil => .nil
  | _, _, .cons h t => by
    rw [List.reverse_cons, List.reverse_cons]
    exact (Rps.rev t).app (.cons h .nil)
theorem Rps.set {v : V} {d : D} (hv : Rp n K mg F v d) : ∀ {vs : List V} {ds : List D} (i : Nat), Rps n K mg F vs ds → Rps n K mg F (vs.set i v) (ds.set i d)
  | _, _, _, .nil => .nil
  | _, _, 0, .cons _ t => .cons hv t
  | _, _, i + 1, .cons h t => .cons h (Rps.set hv i t)
theorem Rps.rep {vs : List V} {ds : List D} (h : Rps n K mg F vs ds) : ∀ k : Nat, Rps n K mg F (List.replicate k vs).flatten (List.replicate k ds).flatten
  | 0 => .nil
  | k + 1 => by
    rw [List.replicate_succ, List.replicate_succ, List.flatten_cons, List.flatten_cons]
    exact h.app (Rps.rep h k)
theorem Rps.ints : ∀ {vs : List V} {ds : List D} {ns : List Int}, Rps n K mg F vs ds → intsOf ds = some ns → vs = ns.map V.int
  | _, _, ns, .nil, h => by
    cases h
    rfl
  | v :: vs, .int i :: ds, ns, .cons h t, e => by
    cases h
    have e' : (intsOf ds).map (i :: ·) = some ns := e
    cases q : intsOf ds with
    | none => rw [q] at e'; cases e'
    | some ms =>
      rw [q] at e'
      cases e'
      rw [Rps.ints t q]
      rfl
  | _, .non :: _, _, .cons _ _, e => nomatch e
  | _, .bl _ :: _, _, .cons _ _, e => nomatch e
  | _, .str _ :: _, _, .cons _ _, e => nomatch e
  | _, .tup _ :: _, _, .cons _ _, e => nomatch e
  | _, .lst _ :: _, _, .cons _ _, e => nomatch e
  | _, .fn _ :: _, _, .cons _ _, e => nomatch e
theorem Rps.bls : ∀ {vs : List V} {ds : List D} {bs : List Bool}, Rps n K mg F vs ds → blsOf ds = some bs → vs = bs.map V.bl
  | _, _, ns, .nil, h => by
    cases h
    rfl
  | v :: vs, .bl b :: ds, ns, .cons h t, e => by
    cases h
    have e' : (blsOf ds).map (b :: ·) = some ns := e
    cases q : blsOf ds with
    | none => rw [q] at e'; cases e'
    | some ms =>
      rw [q] at e'
      cases e'
      rw [Rps.bls t q]
      rfl
  | _, .non :: _, _, .cons _ _, e => nomatch e
  | _, .int _ :: _, _, .cons _ _, e => nomatch e
  | _, .str _ :: _, _, .cons _ _, e => nomatch e
  | _, .tup _ :: _, _, .cons _ _, e => nomatch e
  | _, .lst _ :: _, _, .cons _ _, e => nomatch e
  | _, .fn _ :: _, _, .cons _ _, e => nomatch e
end

/-! ### states -/
def owns (σ : St) (e : Env) (a : Addr) : Prop := ∃ (i : Nat) (k : Bool) (ds : List D), e[i]? = some (.own k ds) ∧ σ[i]? = some (some (.ref a))
structure Stt (n : Nm) (K : PySem.W.Frag) (mg : Str → Option Value) (p : Addr) (F : Hp) (σ : St) (H : Hp) (e : Env) : Prop where
  sub : ∀ b o, F b = some o → H b = some o
  len : σ.length = e.length
  dat : ∀ (i : Nat) d, e[i]? = some (.dat d) → ∃ v, σ[i]? = some (some v) ∧ Rp n K mg F v d
  own : ∀ (i : Nat) k ds, e[i]? = some (.own k ds) → ∃ a vs, σ[i]? = some (some (.ref a)) ∧ H a = some (.lst vs) ∧ F a = none ∧ vs.length ≤ sizeLine ∧ Rps n K mg F vs ds ∧ (k = true → a = p)
  apart : ∀ (i j : Nat) k l ds es a, e[i]? = some (.own k ds) → e[j]? = some (.own l es) → σ[i]? = some (some (.ref a)) → σ[j]? = some (some (.ref a)) → i = j
/-- what may change: own lists (P), new objects -/
structure Step (F H : Hp) (P : Addr → Prop) (F' H' : Hp) (P' : Addr → Prop) : Prop where
  ext : ∀ b o, F b = some o → F' b = some o
  new : ∀ b o, F' b = some o → (∃ u, F b = some u) ∨ H b = none ∨ P b
  keep : ∀ b o, H b = some o → ¬ P b → H' b = some o
  own : ∀ b, P' b → P b ∨ H b = none
theorem Step.refl {F H : Hp} {P : Addr → Prop} : Step F H P F H P := ⟨fun _ _ h => h, fun b o h => .inl ⟨o, h⟩, fun _ _ h _ => h, fun _ h => .inl h⟩
theorem Step.trans {F H F1 H1 F2 H2 : Hp} {P P1 P2 : Addr → Prop} (a : Step F H P F1 H1 P1) (b : Step F1 H1 P1 F2 H2 P2) : Step F H P F2 H2 P2 := by
  have none_of : ∀ c, H1 c = none → H c = none ∨ P c := fun c h => by
    cases q : H c with
    | none => exact .inl rfl
    | some o =>
      by_cases hp : P c
      · exact .inr hp
      · have := a.keep c o q hp
        rw [h] at this; cases this
  have own_of : ∀ c, P1 c → H c = none ∨ P c := fun c h => (a.own c h).symm
  refine ⟨fun c o h => b.ext c o (a.ext c o h), fun c o h => ?_, fun c o h hp => ?_, fun c h => ?_⟩
  · rcases b.new c o h with ⟨u, h1⟩ | h1 | h1
    · exact a.new c u h1
    · exact .inr (none_of c h1)
    · exact .inr (own_of c h1)
  · refine b.keep c o (a.keep c o h hp) fun h1 => ?_
    rcases own_of c h1 with q | q
    · rw [h] at q; cases q
    · exact hp q
  · rcases b.own c h with h1 | h1
    · exact (own_of c h1).symm
    · exact (none_of c h1).symm
/-- an expression's value: data, or a new list of its own -/
def RC (n : Nm) (K : PySem.W.Frag) (mg : Str → Option Value) (F' H' : Hp) (v : V) (c : Cl) (P : Addr → Prop) (H : Hp) (P' : Addr → Prop) : Prop := match c with
  | .no => False
  | .dat d => Rp n K mg F' v d
  | .own k ds => k = false ∧ ∃ a vs, v = .ref a ∧ H' a = some (.lst vs) ∧ F' a = none ∧ vs.length ≤ sizeLine ∧ Rps n K mg F' vs ds ∧ ¬ P' a ∧ (H a = none ∨ P a)
section
variable {n : Nm} {K : PySem.W.Frag} {mg : Str → Option Value} {p : Addr} {F H F1 H1 F' H' : Hp} {σ : St} {e e1 : Env} {v : V} {ds : List D} {P P1 P' : Addr → Prop}
theorem RC.base {c : Cl} (s : Step F H P F1 H1 P1) (h : RC n K mg F' H' v c P1 H1 P') : RC n K mg F' H' v c P H P' := by
  cases c with
  | no => exact h
  | dat d => exact h
  | own k ds =>
    obtain ⟨hk, a, vs, e, h1, h2, h3, h4, h5, h6⟩ := h
    refine ⟨hk, a, vs, e, h1, h2, h3, h4, h5, ?_⟩
    cases q : H a with
    | none => exact .inl rfl
    | some o =>
      refine .inr ?_
      by_cases hp : P a
      · exact hp
      · have h7 := s.keep a o q hp
        rcases h6 with h6 | h6
        · rw [h6] at h7; cases h7
        · rcases s.own a h6 with h8 | h8
          · exact h8
          · rw [q] at h8; cases h8
/-- a list becomes data -/
theorem Stt.frz {a : Addr} {vs : List V} (S : Stt n K mg p F σ H e) (hH : H a = some (.lst vs)) (ha : ¬ owns σ e a) (hF : F a = none) : Stt n K mg p (upd F a (.lst vs)) σ H e := by
  have up : ∀ b o, F b = some o → upd F a (.lst vs) b = some o := fun b o h => by rw [upd_ne (ne_of_none h hF)]; exact h
  refine ⟨fun b o h => ?_, S.len, fun i d h => ?_, fun i k ds h => ?_, S.apart⟩
  · by_cases hb : b = a
    · subst hb; rw [upd_same] at h; cases h; exact hH
    · rw [upd_ne hb] at h; exact S.sub b o h
  · obtain ⟨v, h1, h2⟩ := S.dat i d h
    exact ⟨v, h1, h2.up up⟩
  · obtain ⟨c, ws, h1, h2, h3, h4, h5, h6⟩ := S.own i k ds h
    have hc : c ≠ a := fun z => ha ⟨i, k, ds, h, z ▸ h1⟩
    exact ⟨c, ws, h1, h2, by rw [upd_ne hc]; exact h3, h4, h5.up up, h6⟩
theorem Step.frz {a : Addr} {o : HO} (s : Step F H P F' H' P') (hF : F' a = none) (ho : H a = none ∨ P a) : Step F H P (upd F' a o) H' P' := by
  refine ⟨fun b u h => ?_, fun b u h => ?_, s.keep, s.own⟩
  · have h1 := s.ext b u h
    rw [upd_ne (ne_of_none h1 hF)]; exact h1
  · by_cases hb : b = a
    · subst hb; exact .inr ho
    · rw [upd_ne hb] at h; exact s.new b u h
/-- a new object of the layer is nobody's -/
theorem Stt.alloc {q : Addr} {o : HO} (S : Stt n K mg p F σ H e) (hq : H q = none) : Stt n K mg p F σ (upd H q o) e := by
  refine ⟨fun b u h => ?_, S.len, S.dat, fun i k ds h => ?_, S.apart⟩
  · have h1 := S.sub b u h
    rw [upd_ne (ne_of_none h1 hq)]; exact h1
  · obtain ⟨c, ws, h1, h2, h3⟩ := S.own i k ds h
    exact ⟨c, ws, h1, by rw [upd_ne (ne_of_none h2 hq)]; exact h2, h3⟩
theorem Stt.noF {q : Addr} (S : Stt n K mg p F σ H e) (hq : H q = none) : F q = none := by
  cases h : F q with
  | none => rfl
  | some o => rw [S.sub q o h] at hq; cases hq
theorem Stt.noOwn {q : Addr} (S : Stt n K mg p F σ H e) (hq : H q = none) : ¬ owns σ e q := fun ⟨i, k, ds, h1, h2⟩ => by
  obtain ⟨c, ws, h3, h4, _⟩ := S.own i k ds h1
  rw [h2] at h3
  cases h3
  rw [h4] at hq; cases hq
theorem Step.alloc {q : Addr} {o : HO} (S : Stt n K mg p F σ H e) (hq : H q = none) : Step F H (owns σ e) F (upd H q o) (owns σ e) :=
  ⟨fun _ _ h => h, fun b u h => .inl ⟨u, h⟩, fun b u h _ => by rw [upd_ne (ne_of_none h hq)]; exact h, fun _ h => .inl h⟩
/-- .. and is data at once -/
theorem Stt.allocF {q : Addr} {o : HO} (S : Stt n K mg p F σ H e) (hq : H q = none) : Stt n K mg p (upd F q o) σ (upd H q o) e := by
  have hF := S.noF hq
  have up : ∀ b u, F b = some u → upd F q o b = some u := fun b u h => by rw [upd_ne (ne_of_none h hF)]; exact h
  refine ⟨fun b u h => ?_, S.len, fun i d h => ?_, fun i k ds h => ?_, S.apart⟩
  · by_cases hb : b = q
    · subst hb; rw [upd_same] at h ⊢; exact h
    · rw [upd_ne hb] at h ⊢; exact S.sub b u h
  · obtain ⟨v, h1, h2⟩ := S.dat i d h
    exact ⟨v, h1, h2.up up⟩
  · obtain ⟨c, ws, h1, h2, h3, h4, h5, h6⟩ := S.own i k ds h
    have hc : c ≠ q := ne_of_none h2 hq
    exact ⟨c, ws, h1, by rw [upd_ne hc]; exact h2, by rw [upd_ne hc]; exact h3, h4, h5.up up, h6⟩
theorem Step.allocF {q : Addr} {o : HO} (S : Stt n K mg p F σ H e) (hq : H q = none) : Step F H (owns σ e) (upd F q o) (upd H q o) (owns σ e) := by
  have hF := S.noF hq
  refine ⟨fun b u h => by rw [upd_ne (ne_of_none h hF)]; exact h, fun b u h => ?_, fun b u h _ => by rw [upd_ne (ne_of_none h hq)]; exact h, fun _ h => .inl h⟩
  by_cases hb : b = q
  · subst hb; exact .inr (.inl hq)
  · rw [upd_ne hb] at h; exact .inl ⟨u, h⟩
end

/-! ### ends in the way of wishes -/
def Out {α : Type} (n : Nm) (K : PySem.W.Frag) (mg : Str → Option Value) (p : Addr) (W : WX) (σ : St) (F H : Hp) (e : Env) (r : R α) (k : Hp → Hp → Env → α → Prop) : Prop := match r with
  | .ok a e' => ∀ F' H', Step F H (owns σ e) F' H' (owns σ e') → Stt n K mg p F' σ H' e' → k F' H' e' a
  | .ex x e' => n.px x = true ∧ ∀ F' H', Step F H (owns σ e) F' H' (owns σ e') → Stt n K mg p F' σ H' e' → ∀ C, mg (n.nx x) = some (.ref C) → W (.ref C) none σ H'
  | .no => False
section
variable {n : Nm} {K : PySem.W.Frag} {mg : Str → Option Value} {p : Addr} {W : WX} {σ : St} {F H F1 H1 : Hp} {e e1 : Env} {α β : Type}
theorem Out.from {r : R α} {k : Hp → Hp → Env → α → Prop} (s : Step F H (owns σ e) F1 H1 (owns σ e1)) (h : Out n K mg p W σ F H e r k) : Out n K mg p W σ F1 H1 e1 r k := by
  cases r with
  | ok a e2 => exact fun F2 H2 s2 S2 => h F2 H2 (s.trans s2) S2
  | ex x e2 => exact ⟨h.1, fun F2 H2 s2 S2 => h.2 F2 H2 (s.trans s2) S2⟩
  | no => exact h
theorem Out.bind {r : R α} {f : α → Env → R β} {k : Hp → Hp → Env → β → Prop} (h : Out n K mg p W σ F H e (r.bind f) k) :
    Out n K mg p W σ F H e r fun F1 H1 e1 a => Step F H (owns σ e) F1 H1 (owns σ e1) ∧ Stt n K mg p F1 σ H1 e1 ∧ Out n K mg p W σ F1 H1 e1 (f a e1) k := by
  cases r with
  | ok a e2 => exact fun F2 H2 s2 S2 => ⟨s2, S2, Out.from s2 h⟩
  | ex x e2 => exact h
  | no => exact h
theorem Out.mono {r : R α} {k k' : Hp → Hp → Env → α → Prop} (h : Out n K mg p W σ F H e r k) (m : ∀ F1 H1 e1 a, k F1 H1 e1 a → k' F1 H1 e1 a) : Out n K mg p W σ F H e r k' := by
  cases r with
  | ok a e2 => exact fun F2 H2 s2 S2 => m _ _ _ _ (h F2 H2 s2 S2)
  | ex x e2 => exact h
  | no => exact h
theorem Out.here {a : α} {k : Hp → Hp → Env → α → Prop} (S : Stt n K mg p F σ H e) (h : Out n K mg p W σ F H e (.ok a e) k) : k F H e a := h F H Step.refl S
theorem Out.lift {o : Option α} {k : Hp → Hp → Env → α → Prop} (S : Stt n K mg p F σ H e) (h : Out n K mg p W σ F H e (R.lift o e) k) : ∃ a, o = some a ∧ Out n K mg p W σ F H e (.ok a e) k := by
  cases o with
  | none => exact h.elim
  | some a => exact ⟨a, rfl, h⟩
end

/-! ### readings -/
section
variable (n : Nm) (K : PySem.W.Frag) (mg : Str → Option Value) (p : Addr) (T : Nat → Fn) (W : WX)
def tE (c : E) : TE := fun σ H Q => ∃ F e, Stt n K mg p F σ H e ∧ Out n K mg p W σ F H e (ev T n.gv c e) fun F' H' e' r => ∀ v, RC n K mg F' H' v r (owns σ e) H (owns σ e') → Q v H'
def tD (c : E) : TE := fun σ H Q => ∃ F e, Stt n K mg p F σ H e ∧ Out n K mg p W σ F H e (data (ev T n.gv c e)) fun F' H' _ d => ∀ v, Rp n K mg F' v d → Q v H'
def tT (c : E) : TT := fun σ H Q => ∃ F e, Stt n K mg p F σ H e ∧ Out n K mg p W σ F H e (truth (data (ev T n.gv c e))) fun _ H' _ b => Q b H'
def tDs (c : Es) : TA := fun σ H Q => ∃ F e, Stt n K mg p F σ H e ∧ Out n K mg p W σ F H e (evs T n.gv c e) fun F' H' _ ds => ∀ vs, Rps n K mg F' vs ds → Q vs H'
end
theorem weakE {X : Cx} {x : Expr} {t t' : TE} (h : PE X x t) (w : ∀ σ H Q, t' σ H Q → t σ H Q) : PE X x t' := ⟨fun pins s σ H Q I hq => h.run pins s σ H Q I (w σ H Q hq)⟩
theorem weakT {X : Cx} {x : Expr} {t t' : TT} (h : PT X x t) (w : ∀ σ H Q, t' σ H Q → t σ H Q) : PT X x t' := ⟨fun pins s σ H Q I hq => h.run pins s σ H Q I (w σ H Q hq)⟩
theorem weakA {X : Cx} {x : List Expr} {t t' : TA} (h : PA X x t) (w : ∀ σ H Q, t' σ H Q → t σ H Q) : PA X x t' := ⟨fun pos pins s σ H Q I hq => h.run pos pins s σ H Q I (w σ H Q hq)⟩
section
variable {n : Nm} {K : PySem.W.Frag} {mg : Str → Option Value} {p : Addr} {T : Nat → Fn} {W : WX}
theorem data_frz {σ : St} {F H : Hp} {e : Env} {r : R Cl} {Q : VK} (h : Out n K mg p W σ F H e (data r) fun F' H' _ d => ∀ v, Rp n K mg F' v d → Q v H') :
    Out n K mg p W σ F H e r fun F' H' e' c => ∀ v, RC n K mg F' H' v c (owns σ e) H (owns σ e') → Q v H' := by
  cases r with
  | no => exact h
  | ex x e' => exact h
  | ok c e' =>
    intro F' H' s S v hv
    cases c with
    | no => exact hv.elim
    | dat d => exact h F' H' s S v hv
    | own k ds =>
      obtain ⟨_, a, vs, rfl, h1, h2, h3, h4, h5, h6⟩ := hv
      refine h (upd F' a (.lst vs)) H' (s.frz h2 h6) (S.frz h1 h5 h2) _ (.lst (.inl (Rd.of upd_same)) h3 ?_)
      exact h4.up fun b o q => by rw [upd_ne (ne_of_none q h2)]; exact q
theorem toD {X : Cx} {c : E} {x : Expr} (h : PE X x (tE n X.K X.mg p T W c)) : PE X x (tD n X.K X.mg p T W c) := weakE h fun σ H Q ⟨F, e, S, q⟩ => ⟨F, e, S, data_frz q⟩
end
end Z

/-! Z3a: the operations, by values. -/
namespace Z
open PySem PySem.Spec L2

mutual
theorem sh_lay : ∀ (m : Nat) (d : D), d.sh m = true → d.py.canLay0 = true ∧ d.py.depth ≤ m
  | _, .non, _ => by simp [D.py, PyData.canLay0, PyData.depth]
  | _, .bl _, _ => by simp [D.py, PyData.canLay0, PyData.depth]
  | _, .int _, _ => by simp [D.py, PyData.canLay0, PyData.depth]
  | m, .str x, h => by
    have h' : x.cps.all (· < 0x110000) = true := by cases m <;> simpa only [D.sh] using h
    refine ⟨?_, by simp [D.py, PyData.depth]⟩
    simp only [D.py, PyData.canLay0]
    exact h'
  | 0, .tup _, h => by simp [D.sh] at h
  | m + 1, .tup ds, h => by
    obtain ⟨h1, h2⟩ := shs_lay m ds (by simpa only [D.sh] using h)
    simp only [D.py, PyData.canLay0, PyData.depth]
    exact ⟨h1, by omega⟩
  | 0, .lst _, h => by simp [D.sh] at h
  | m + 1, .lst ds, h => by
    obtain ⟨h1, h2⟩ := shs_lay m ds (by simpa only [D.sh] using h)
    simp only [D.py, PyData.canLay0, PyData.depth]
    exact ⟨h1, by omega⟩
  | m, .fn _, h => by cases m <;> simp [D.sh] at h
theorem shs_lay : ∀ (m : Nat) (ds : List D), D.shs m ds = true → PyData.canLayAll0 (D.pys ds) = true ∧ PyData.depthAll (D.pys ds) ≤ m
  | _, [], _ => by simp [D.pys, PyData.canLayAll0, PyData.depthAll]
  | m, d :: ds, h => by
    have h' : D.sh m d = true ∧ D.shs m ds = true := by cases m <;> simpa only [D.shs, Bool.and_eq_true] using h
    obtain ⟨a1, a2⟩ := sh_lay m d h'.1
    obtain ⟨b1, b2⟩ := shs_lay m ds h'.2
    simp only [D.pys, PyData.canLayAll0, PyData.depthAll, a1, b1, Bool.and_self, true_and]
    omega
end
mutual
theorem eq_py : ∀ (a b : D) (m k : Nat), a.sh m = true → b.sh k = true → D.eq a b = PyData.eqv a.py b.py
  | a, b, m, k, ha, hb => by
    cases a <;> cases b <;> first
      | (simp only [D.eq, D.py, PyData.eqv]; done)
      | (exfalso; cases m <;> simp [D.sh] at ha; done)
      | (exfalso; cases k <;> simp [D.sh] at hb; done)
      | skip
    all_goals
      simp only [D.eq, D.py, PyData.eqv]
      cases m <;> cases k <;> first
        | (simp [D.sh] at ha; done)
        | (simp [D.sh] at hb; done)
        | (simp only [D.sh] at ha hb; exact eqs_py _ _ _ _ ha hb)
theorem eqs_py : ∀ (a b : List D) (m k : Nat), D.shs m a = true → D.shs k b = true → D.eqs a b = PyData.eqvAll (D.pys a) (D.pys b)
  | [], [], _, _, _, _ => by simp only [D.eqs, D.pys, PyData.eqvAll]
  | [], _ :: _, _, _, _, _ => by simp only [D.eqs, D.pys, PyData.eqvAll]
  | _ :: _, [], _, _, _, _ => by simp only [D.eqs, D.pys, PyData.eqvAll]
  | x :: xs, y :: ys, m, k, ha, hb => by
    have ha' : D.sh m x = true ∧ D.shs m xs = true := by cases m <;> simpa only [D.shs, Bool.and_eq_true] using ha
    have hb' : D.sh k y = true ∧ D.shs k ys = true := by cases k <;> simpa only [D.shs, Bool.and_eq_true] using hb
    simp only [D.eqs, D.pys, PyData.eqvAll]
    rw [eq_py x y m k ha'.1 hb'.1, eqs_py xs ys m k ha'.2 hb'.2]
end
theorem sh_shaped {d : D} (h : d.sh 60 = true) : SeqAt.shaped d.py = true := by
  obtain ⟨h1, h2⟩ := sh_lay 60 d h
  show (d.py.canLay0 && decide (d.py.depth ≤ 64)) = true
  rw [h1, Bool.true_and]
  exact decide_eq_true (by omega)

/-- what lies at v, its items fixed in F -/
def Sh (n : Nm) (X : Cx) (F H : Hp) (v : V) (d : D) : Prop := match d with
  | .lst ds => ∃ a vs, v = .ref a ∧ SqL X.K H a vs ∧ vs.length ≤ sizeLine ∧ Rps n X.K X.mg F vs ds
  | d => Rp n X.K X.mg F v d
section
variable {n : Nm} {X : Cx} {F H : Hp} {v : V} {d : D}
theorem Sh.of (sub : ∀ b o, F b = some o → H b = some o) (h : Rp n X.K X.mg F v d) : Sh n X F H v d := by
  cases h with
  | tup h1 h2 h3 => exact .tup h1 h2 h3
  | lst h1 h2 h3 => exact ⟨_, _, rfl, SqL.up h1 sub, h2, h3⟩
  | non => exact .non
  | bl b => exact .bl b
  | int i => exact .int i
  | str x => exact .str x
  | fn h => exact .fn h
mutual
theorem Rp.dp (sub : ∀ b o, F b = some o → H b = some o) : ∀ (m : Nat) (d : D) (v : V), d.sh m = true → Rp n X.K X.mg F v d → Dp X.K H v d.py
  | _, .non, _, _, h => by cases h; exact .non
  | _, .bl _, _, _, h => by cases h; exact .bl _
  | _, .int _, _, _, h => by cases h; exact .int _
  | _, .str _, _, _, h => by cases h; exact .str _
  | 0, .tup _, _, hs, _ => by simp [D.sh] at hs
  | m + 1, .tup ds, _, hs, h => by
    cases h with
    | tup h1 h2 h3 => exact .tup (SqT.up h1 sub) (Rps.dp sub m ds _ (by simpa only [D.sh] using hs) h3)
  | 0, .lst _, _, hs, _ => by simp [D.sh] at hs
  | m + 1, .lst ds, _, hs, h => by
    cases h with
    | lst h1 h2 h3 => exact .lst (SqL.up h1 sub) (Rps.dp sub m ds _ (by simpa only [D.sh] using hs) h3)
  | m, .fn _, _, hs, _ => by cases m <;> simp [D.sh] at hs
theorem Rps.dp (sub : ∀ b o, F b = some o → H b = some o) : ∀ (m : Nat) (ds : List D) (vs : List V), D.shs m ds = true → Rps n X.K X.mg F vs ds → DpAll X.K H vs (D.pys ds)
  | _, [], _, _, h => by cases h; exact .nil
  | m, d :: ds, _, hs, h => by
    have hs' : D.sh m d = true ∧ D.shs m ds = true := by cases m <;> simpa only [D.shs, Bool.and_eq_true] using hs
    cases h with
    | cons h1 h2 => exact .cons (Rp.dp sub m d _ hs'.1 h1) (Rps.dp sub m ds _ hs'.2 h2)
end
theorem Sh.dp (sub : ∀ b o, F b = some o → H b = some o) (hs : d.sh 60 = true) (h : Sh n X F H v d) : Dp X.K H v d.py := by
  cases d with
  | lst ds =>
    obtain ⟨a, vs, rfl, h1, h2, h3⟩ := h
    exact .lst h1 (h3.dp sub 59 _ _ (by simpa only [D.sh] using hs))
  | _ => exact Rp.dp sub 60 _ _ hs h
/-- what may be handed on of a result -/
def Res (n : Nm) (X : Cx) (F H : Hp) (c : Cl) (Q : VK) : Prop := match c with
  | .no => False
  | .dat d => (∀ v, Rp n X.K X.mg F v d → Q v H) ∧ ∀ q vs ds, H q = none → d = .tup ds → vs.length ≤ sizeLine → Rps n X.K X.mg F vs ds → Q (.ref q) (upd H q (.tup vs))
  | .own _ ds => ∀ q vs, H q = none → vs.length ≤ sizeLine → Rps n X.K X.mg F vs ds → Q (.ref q) (upd H q (.lst vs))
theorem res_of {p : Addr} {W : WX} {σ : St} {e : Env} {c : Cl} {P0 : Addr → Prop} {F0 H0 : Hp} {Q : VK} (s : Step F0 H0 P0 F H (owns σ e)) (S : Stt n X.K X.mg p F σ H e)
    (h : Out n X.K X.mg p W σ F H e (.ok c e) fun F' H' e' r => ∀ v, RC n X.K X.mg F' H' v r P0 H0 (owns σ e') → Q v H') (hc : ∀ k ds, c = .own k ds → k = false) (hn : c ≠ .no) : Res n X F H c Q := by
  cases c with
  | no => exact hn rfl
  | dat d =>
    refine ⟨fun v hv => h F H Step.refl S v hv, fun q vs ds hq e1 hl hr => ?_⟩
    subst e1
    refine h _ _ (Step.allocF S hq) (S.allocF hq) _ (.tup (.inl (.inl upd_same)) hl (hr.up fun b o z => ?_))
    rw [upd_ne (ne_of_none z (S.noF hq))]; exact z
  | own k ds =>
    intro q vs hq hl hr
    refine h F _ (Step.alloc S hq) (S.alloc hq) _ ⟨hc k ds rfl, q, vs, rfl, upd_same, S.noF hq, hl, hr, S.noOwn hq, ?_⟩
    cases z : H0 q with
    | none => exact .inl rfl
    | some o =>
      refine .inr ?_
      by_cases hp : P0 q
      · exact hp
      · have := s.keep q o z hp
        rw [hq] at this; cases this
end

/-! ### binary operations -/
def rOp (n : Nm) (X : Cx) (f : D → D → Option Cl) : R2 := fun x y H Q => ∃ F d1 d2 c, (∀ b o, F b = some o → H b = some o) ∧ Sh n X F H x d1 ∧ Sh n X F H y d2 ∧ f d1 d2 = some c ∧ Res n X F H c Q
theorem lim_eq : LIM = sizeLine := rfl
section
variable {n : Nm} {X : Cx}
theorem op_catL : OpR X (binaryOp .Add) (fun x y H Q => ∃ a b us ws, x = .ref a ∧ y = .ref b ∧ SqL X.K H a us ∧ SqL X.K H b ws ∧ us.length + ws.length ≤ sizeLine ∧ ∀ q, H q = none → Q (.ref q) (upd H q (.lst (us ++ ws)))) := by
  intro pins s σ H x y v u Q I rx ry ⟨a, b, us, ws, ex, ey, ha, hb, hz, q⟩
  subst ex ey
  cases rx
  cases ry
  obtain ⟨i1, r1, ⟨⟨cl, dc, da, sl⟩, n1, e1, hc, hn, hd⟩, _⟩ := I.list ha
  obtain ⟨i2, r2, ⟨⟨cl2, dc2, da2, sl2⟩, n2, e2, hc2, hn2, hd2⟩, _⟩ := I.list hb
  simp only at hc hn hd hc2 hn2 hd2
  subst hc hn hd hc2 hn2 hd2
  have l1 := r1.length
  have l2 := r2.length
  refine PySem.concat_meets ⟨_, e1, rfl⟩ ⟨_, e2, rfl⟩ PySem.noFill_list_add PySem.seq_list_add PySem.F.slot_list_add PySem.F.entry_list_add (PySem.F.args_list_add_2 _ _) (PyProof.Rows.list_addW a b i1.toArray i2.toArray n1 n2 none none sl sl2 (by rw [List.size_toArray, List.size_toArray]; omega)) ⟨e1, e2, ?_⟩
  rw [show i1.toArray ++ i2.toArray = (i1 ++ i2).toArray by simp]
  exact ⟨.ref _, _, I.lnew (t' := s.toks) (r1.append r2) (by rw [List.length_append]; exact hz), rfl, q _ I.fresh⟩
theorem rmul_list (j : Int) (u : Tok) (p : Addr) (us : Array Value) (m : Nat) (sl : Array (Option Value)) :
    Meets (Builtin.«int.__rmul__» ⟨[.int j u, .ref p], []⟩) (fun _ R s => s.heap.get? p = some { cls := .type "list", dict := none, data := .seq us m, slots := sl } ∧ R (.ok (.ret Value.notImplemented)) s) :=
  .of_wp fun prog w A R s h => by
    obtain ⟨hp, g, d, tk, os⟩ := s
    obtain ⟨hl, h⟩ := h
    wp_walk
    exact ⟨_, rfl, h⟩
theorem mul_list (p : Addr) (us : Array Value) (m : Nat) (j : Int) (u : Tok) (sl : Array (Option Value)) (k0 : ¬(!Builtin.List.listFitsIndex j) = true) (k1 : ¬us.size * j.toNat > (2 ^ 63 - 1) / 8) (k2 : ¬Builtin.List.listTooLong (us.size * j.toNat) = true) :
    Meets (Builtin.«list.__mul__» ⟨[.ref p, .int j u], []⟩) (fun _ R s => s.heap.get? p = some { cls := .type "list", dict := none, data := .seq us m, slots := sl } ∧
      R (.ok (.ret (Value.ref s.heap.objs.size))) { s with heap := s.heap.push { cls := Value.type "list", data := Data.seq (List.foldl (fun x1 x2 => x1 ++ x2) #[] (List.replicate (if us.isEmpty = true then 0 else j.toNat) us)) }, toks := s.toks }) :=
  .of_wp fun prog w A R s h => by
    obtain ⟨hp, g, d, tk, os⟩ := s
    obtain ⟨hl, h⟩ := h
    have hsz := AutoListH.joined_fits k2
    wp_walk
    refine wpAny_ite_false (decide_eq_false (Nat.not_lt.mpr hsz)) ?_
    wp_walk
    exact ⟨_, rfl, h⟩
theorem op_repL : OpR X (binaryOp .Mult) (fun x y H Q => ∃ a k us, x = .ref a ∧ y = .int k ∧ SqL X.K H a us ∧ 0 ≤ k ∧ k < 2 ^ 62 ∧ us.length * k.toNat ≤ sizeLine ∧ ∀ q, H q = none → Q (.ref q) (upd H q (.lst (List.replicate k.toNat us).flatten))) := by
  intro pins s σ H x y v u Q I rx ry ⟨a, k, us, ex, ey, ha, h1, h2, hz, q⟩
  subst ex ey
  cases rx
  obtain ⟨t, rfl⟩ := ry
  obtain ⟨its, r, ⟨⟨cl, dc, da, sl⟩, c, e, hc, hn, hd⟩, _⟩ := I.list ha
  simp only at hc hn hd
  subst hc hn hd
  have hl := r.length
  have hsz : its.toArray.size * k.toNat ≤ sizeLine := by rw [List.size_toArray, ← hl]; exact hz
  have c1 : ¬ its.toArray.size * k.toNat > (2 ^ 63 - 1) / 8 := by
    have : (sizeLine : Nat) ≤ (2 ^ 63 - 1) / 8 := by decide
    omega
  have c2 : ¬ (!Builtin.List.listFitsIndex k) = true := by
    rw [fitsIndex_both (by omega) (by omega)]; decide
  have c3 : ¬ Builtin.List.listTooLong (its.toArray.size * k.toNat) = true := by rw [notLongL hsz]; decide
  have hnew : List.foldl (fun x1 x2 => x1 ++ x2) #[] (List.replicate (if its.toArray.isEmpty = true then 0 else k.toNat) its.toArray) = (List.replicate k.toNat its).flatten.toArray := by
    have f0 : ∀ m : Nat, List.foldl (fun x1 x2 => x1 ++ x2) #[] (List.replicate m its.toArray) = (List.replicate m its).flatten.toArray := fun m => by
      have := foldl_rep its m []
      rw [List.nil_append] at this
      exact this
    rw [f0]
    cases its with
    | nil => simp
    | cons _ _ => rw [if_neg (by simp)]
  refine wpAny_binaryOp_repeat_ref (T := "list") (U := "int") (by decide) ⟨_, e, rfl⟩ (fun s' => typeIs_int s' k t) noFill_list_mul F.fills_int_mul F.slot_int_rmul repeat_list F.slot_int_index.lookup
    (call_meets F.slot_int_rmul (typeIs_int s k t) F.entry_int_rmul (F.args_int_rmul_2 _ _) (rmul_list k t a its.toArray c sl) ⟨e, rfl, ⟨_, e, rfl⟩, ?_⟩)
  refine call_meets F.slot_list_mul ⟨_, e, rfl⟩ F.entry_list_mul (F.args_list_mul_2 _ _) (mul_list a its.toArray c k t sl c2 c1 c3) ⟨e, ?_⟩
  rw [hnew]
  exact ⟨.ref _, _, I.lnew (t' := s.toks) (r.rep k.toNat) (by rw [PyProof.Rows.lm_len_rep_flat, Nat.mul_comm]; exact hz), rfl, q _ I.fresh⟩
theorem no_some {α : Type} {a : α} {P : Prop} (h : (none : Option α) = some a) : P := nomatch h
theorem op_bin (o : Operator) : OpR X (binaryOp o) (rOp n X (opD o)) := by
  intro pins s σ H x y v u Q I rx ry ⟨F, d1, d2, c, sub, h1, h2, hf, hr⟩
  cases o <;> first | (exact no_some hf) | skip
  case Add =>
    cases d1 <;> first | (exact no_some hf) | skip
    case int i =>
      cases d2 <;> first | (exact no_some hf) | skip
      cases h1; cases h2
      cases hf
      exact op_add pins s σ H _ _ v u Q I rx ry ⟨_, _, rfl, rfl, hr.1 _ (.int _)⟩
    case str i =>
      cases d2 <;> first | (exact no_some hf) | skip
      cases h1; cases h2
      simp only [opD] at hf
      split at hf
      · cases hf
        exact op_add_str pins s σ H _ _ v u Q I rx ry ⟨_, _, rfl, rfl, by assumption, hr.1 _ (.str _)⟩
      · cases hf
    case tup i =>
      cases d2 <;> first | (exact no_some hf) | skip
      simp only [opD] at hf
      split at hf
      case isFalse => cases hf
      cases hf
      rename_i j hz
      have g1 := h1
      have g2 := h2
      cases h1 with
      | @tup a us _ ha hla ra =>
      cases h2 with
      | @tup b ws _ hb hlb rb =>
      have la := ra.length
      have lb := rb.length
      have hz' : us.length + ws.length ≤ sizeLine := by rw [la, lb]; exact hz
      refine op_catA pins s σ H _ _ v u Q I rx ry ⟨a, b, us, ws, rfl, rfl, SqT.up ha sub, SqT.up hb sub, hz', fun e => ?_, fun _ e => ?_, fun _ _ q hq => ?_⟩
      · refine hr.1 _ ?_
        have e1 : i = [] := List.eq_nil_of_length_eq_zero (by rw [← la, e]; rfl)
        rw [e1]
        exact g2
      · refine hr.1 _ ?_
        have e1 : j = [] := List.eq_nil_of_length_eq_zero (by rw [← lb, e]; rfl)
        rw [e1, List.append_nil]
        exact g1
      · exact hr.2 q (us ++ ws) _ hq rfl (by rw [List.length_append]; exact hz') (ra.app rb)
    case lst i =>
      cases d2 <;> first | (exact no_some hf) | skip
      simp only [opD] at hf
      split at hf
      case isFalse => cases hf
      cases hf
      rename_i j hz
      obtain ⟨a, us, rfl, ha, hla, ra⟩ := h1
      obtain ⟨b, ws, rfl, hb, hlb, rb⟩ := h2
      have hz' : us.length + ws.length ≤ sizeLine := by rw [ra.length, rb.length]; exact hz
      exact op_catL pins s σ H _ _ v u Q I rx ry ⟨a, b, us, ws, rfl, rfl, ha, hb, hz', fun q hq => hr q _ hq (by rw [List.length_append]; exact hz') (ra.app rb)⟩
  case Sub =>
    cases d1 <;> first | (exact no_some hf) | skip
    cases d2 <;> first | (exact no_some hf) | skip
    cases h1; cases h2; cases hf
    exact op_sub pins s σ H _ _ v u Q I rx ry ⟨_, _, rfl, rfl, hr.1 _ (.int _)⟩
  case Mult =>
    cases d1 <;> first | (exact no_some hf) | skip
    case int i =>
      cases d2 <;> first | (exact no_some hf) | skip
      cases h1; cases h2
      simp only [opD] at hf
      split at hf
      case isFalse => cases hf
      cases hf
      rename_i hc
      refine op_mul pins s σ H _ _ v u Q I rx ry ⟨_, _, rfl, rfl, ?_, hr.1 _ (.int _)⟩
      simpa only [cMul, CMul, Bool.or_eq_true, Bool.and_eq_true, decide_eq_true_eq] using hc
    case lst i =>
      cases d2 <;> first | (exact no_some hf) | skip
      cases h2
      simp only [opD] at hf
      split at hf
      case isFalse => cases hf
      cases hf
      rename_i k hc
      simp only [Bool.and_eq_true, decide_eq_true_eq] at hc
      obtain ⟨a, us, rfl, ha, hla, ra⟩ := h1
      have hz' : us.length * k.toNat ≤ sizeLine := by rw [ra.length]; exact hc.2
      refine op_repL pins s σ H _ _ v u Q I rx ry ⟨a, k, us, rfl, rfl, ha, hc.1.1, by omega, hz', fun q hq => hr q _ hq ?_ (ra.rep _)⟩
      rw [PyProof.Rows.lm_len_rep_flat, Nat.mul_comm]; exact hz'
  case Mod =>
    cases d1 <;> first | (exact no_some hf) | skip
    cases d2 <;> first | (exact no_some hf) | skip
    cases h1; cases h2
    simp only [opD] at hf
    split at hf
    case isFalse => cases hf
    cases hf
    exact op_mod pins s σ H _ _ v u Q I rx ry ⟨_, _, rfl, rfl, by assumption, hr.1 _ (.int _)⟩
  case FloorDiv =>
    cases d1 <;> first | (exact no_some hf) | skip
    cases d2 <;> first | (exact no_some hf) | skip
    cases h1; cases h2
    simp only [opD] at hf
    split at hf
    case isFalse => cases hf
    cases hf
    rename_i hc
    simp only [Bool.and_eq_true, decide_eq_true_eq] at hc
    exact op_fdiv pins s σ H _ _ v u Q I rx ry ⟨_, _, rfl, rfl, hc, hr.1 _ (.int _)⟩
end

/-! ### comparisons -/
def rCmp (n : Nm) (X : Cx) (o : CmpOp) : R2 := fun x y H Q => ∃ F d1 d2 b, (∀ b o, F b = some o → H b = some o) ∧ Sh n X F H x d1 ∧ Sh n X F H y d2 ∧ cmpD o d1 d2 = some b ∧ Q (.bl b) H
theorem ne_v {P : Prop} (h : ¬ P) : P → False := h
theorem lexI_eq : ∀ a b : List Int, lexI a b = HT.lexLt a b
  | [], [] => rfl
  | [], _ :: _ => rfl
  | _ :: _, [] => rfl
  | x :: xs, y :: ys => by
    show (if x = y then lexI xs ys else decide (x < y)) = (if x = y then HT.lexLt xs ys else decide (x < y))
    rw [lexI_eq xs ys]
theorem lexAt_le : ∀ (k : Nat) (a b : List Int) (j : Nat), min a.length b.length - j = k → j ≤ min a.length b.length →
    Ob.lexAt (fun j => decide (a.getD j 0 = b.getD j 0)) (fun j => decide (a.getD j 0 ≤ b.getD j 0)) (decide (a.length ≤ b.length)) j k = !lexI (b.drop j) (a.drop j) := by
  intro k
  induction k with
  | zero =>
    intro a b j h hj
    rw [Ob.lexAt_zero]
    by_cases hl : a.length ≤ b.length
    · have e : a.drop j = [] := List.drop_eq_nil_of_le (by omega)
      rw [e, decide_eq_true hl]
      cases b.drop j <;> rfl
    · have e : b.drop j = [] := List.drop_eq_nil_of_le (by omega)
      have e2 : a.drop j ≠ [] := fun z => by
        have := congrArg List.length z
        rw [List.length_drop] at this
        simp at this
        omega
      rw [e, decide_eq_false hl]
      cases q : a.drop j with
      | nil => exact absurd q e2
      | cons x r => rfl
  | succ k ih =>
    intro a b j h hj
    rw [Ob.lexAt_succ, ih a b (j + 1) (by omega) (by omega)]
    have ha : j < a.length := by omega
    have hb : j < b.length := by omega
    rw [List.drop_eq_getElem_cons ha, List.drop_eq_getElem_cons hb]
    have g1 : a.getD j 0 = a[j] := by simp [List.getD, ha]
    have g2 : b.getD j 0 = b[j] := by simp [List.getD, hb]
    rw [g1, g2]
    show (if decide (a[j] = b[j]) = true then _ else _) = !(if b[j] = a[j] then _ else _)
    by_cases e : a[j] = b[j]
    · rw [if_pos (decide_eq_true e), if_pos e.symm]
    · rw [if_neg (by simpa using e), if_neg (Ne.symm e)]
      by_cases h1 : a[j] ≤ b[j]
      · rw [decide_eq_true h1, decide_eq_false (by omega)]; rfl
      · rw [decide_eq_false h1, decide_eq_true (by omega)]; rfl
theorem pys_any (x : D) : ∀ ds : List D, x.sh 60 = true → D.shs 60 ds = true → ((D.pys ds).any fun y => PyData.eqv y x.py) = memD x ds
  | [], _, _ => rfl
  | d :: ds, hx, h => by
    have h' : D.sh 60 d = true ∧ D.shs 60 ds = true := by simpa only [D.shs, Bool.and_eq_true] using h
    show (PyData.eqv d.py x.py || (D.pys ds).any fun y => PyData.eqv y x.py) = (D.eq d x || memD x ds)
    rw [pys_any x ds hx h'.2, eq_py d x 60 60 h'.1 hx]
section
variable {n : Nm} {X : Cx}
theorem Rp.non_iff {F : Hp} {v : V} {d : D} (h : Rp n X.K X.mg F v d) : decide (v = .non) = isNon d := by
  cases h <;> simp [isNon]
theorem Sh.non_iff {F H : Hp} {v : V} {d : D} (h : Sh n X F H v d) : decide (v = .non) = isNon d := by
  cases d with
  | lst ds => obtain ⟨a, _, rfl, _⟩ := h; simp [isNon]
  | _ => exact Rp.non_iff h
theorem op_cmp (o : CmpOp) (hu : X.A.units + 65 < cLine) : OpR X (compareOp o) (rCmp n X o) := by
  intro pins s σ H x y v u Q I rx ry ⟨F, d1, d2, b, sub, h1, h2, hf, hr⟩
  cases o
  case Eq =>
    simp only [cmpD] at hf
    split at hf
    case isFalse => cases hf
    cases hf
    rename_i hs
    simp only [Bool.and_eq_true] at hs
    refine op_eqD (by omega) pins s σ H _ _ v u Q I rx ry ⟨_, _, h1.dp sub hs.1, h2.dp sub hs.2, sh_shaped hs.1, sh_shaped hs.2, ?_⟩
    rw [← eq_py _ _ 60 60 hs.1 hs.2]
    exact hr
  case NotEq =>
    simp only [cmpD] at hf
    split at hf
    case isFalse => cases hf
    cases hf
    rename_i hs
    simp only [Bool.and_eq_true] at hs
    refine op_neD (by omega) pins s σ H _ _ v u Q I rx ry ⟨_, _, h1.dp sub hs.1, h2.dp sub hs.2, sh_shaped hs.1, sh_shaped hs.2, ?_⟩
    rw [← eq_py _ _ 60 60 hs.1 hs.2]
    exact hr
  case Lt =>
    cases d1 <;> first | (exact no_some hf) | skip
    case int i =>
      cases d2 <;> first | (exact no_some hf) | skip
      cases h1; cases h2; cases hf
      exact op_lt pins s σ H _ _ v u Q I rx ry ⟨_, _, rfl, rfl, hr⟩
    case tup i =>
      cases d2 <;> first | (exact no_some hf) | skip
      rename_i j
      cases h1 with
      | @tup a us _ ha hla ra =>
      cases h2 with
      | @tup c ws _ hc hlc rc =>
      simp only [cmpD] at hf
      cases e1 : intsOf i with
      | none => rw [e1] at hf; cases hf
      | some ns =>
      cases e2 : intsOf j with
      | none => rw [e1, e2] at hf; cases hf
      | some ms =>
      rw [e1, e2] at hf
      have z1 := ra.ints e1
      have z2 := rc.ints e2
      subst z1 z2
      cases hf
      refine op_ltT (by omega) pins s σ H _ _ v u Q I rx ry ⟨a, c, ns, ms, rfl, rfl, SqT.up ha sub, SqT.up hc sub, ?_⟩
      rw [← lexI_eq]
      exact hr
  case LtE =>
    cases d1 <;> first | (exact no_some hf) | skip
    case int i =>
      cases d2 <;> first | (exact no_some hf) | skip
      cases h1; cases h2; cases hf
      exact op_le pins s σ H _ _ v u Q I rx ry ⟨_, _, rfl, rfl, hr⟩
    case tup i =>
      cases d2 <;> first | (exact no_some hf) | skip
      rename_i j
      cases h1 with
      | @tup a us _ ha hla ra =>
      cases h2 with
      | @tup c ws _ hc hlc rc =>
      simp only [cmpD] at hf
      cases e1 : intsOf i with
      | none => rw [e1] at hf; cases hf
      | some ns =>
      cases e2 : intsOf j with
      | none => rw [e1, e2] at hf; cases hf
      | some ms =>
      rw [e1, e2] at hf
      have z1 := ra.ints e1
      have z2 := rc.ints e2
      subst z1 z2
      cases hf
      refine op_leT (by omega) pins s σ H _ _ v u Q I rx ry ⟨a, c, ns, ms, rfl, rfl, SqT.up ha sub, SqT.up hc sub, ?_⟩
      rw [lexAt_le _ _ _ 0 (by omega) (by omega)]
      exact hr
  case Gt =>
    cases d1 <;> first | (exact no_some hf) | skip
    cases d2 <;> first | (exact no_some hf) | skip
    cases h1; cases h2; cases hf
    exact op_gt pins s σ H _ _ v u Q I rx ry ⟨_, _, rfl, rfl, hr⟩
  case GtE =>
    cases d1 <;> first | (exact no_some hf) | skip
    cases d2 <;> first | (exact no_some hf) | skip
    cases h1; cases h2; cases hf
    exact op_ge pins s σ H _ _ v u Q I rx ry ⟨_, _, rfl, rfl, hr⟩
  case Is =>
    cases d2 <;> first | (exact no_some hf) | skip
    cases h2
    refine op_isN pins s σ H _ _ v u Q I rx ry ⟨rfl, ?_⟩
    have e : isNon d1 = b := Option.some.inj (show some (isNon d1) = some b by cases d1 <;> exact hf)
    rw [h1.non_iff, e]
    exact hr
  case IsNot =>
    cases d2 <;> first | (exact no_some hf) | skip
    cases h2
    refine op_notN pins s σ H _ _ v u Q I rx ry ⟨rfl, ?_⟩
    have e : (!isNon d1) = b := Option.some.inj (show some (!isNon d1) = some b by cases d1 <;> exact hf)
    rw [h1.non_iff, e]
    exact hr
  case In =>
    cases d2 <;> first | (exact no_some hf) | skip
    case str j =>
      cases d1 <;> first | (exact no_some hf) | skip
      cases h1; cases h2; cases hf
      exact op_in_str pins s σ H _ _ v u Q I rx ry ⟨_, _, rfl, rfl, hr⟩
    case lst ds =>
      have hf' : (if d1.sh 60 && D.shs 60 ds then some (memD d1 ds) else none) = some b := by cases d1 <;> exact hf
      split at hf'
      case isFalse => cases hf'
      cases hf'
      rename_i hs
      simp only [Bool.and_eq_true] at hs
      obtain ⟨as, q1⟩ := Dp.reads I _ _ v (h1.dp sub hs.1) rx
      obtain ⟨a, vs, rfl, g1, g2, g3⟩ := h2
      obtain ⟨bs, q2⟩ := Dp.reads I (.list (D.pys ds)) _ u (.lst g1 (g3.dp sub 60 _ _ hs.2)) ry
      refine SeqAt.in_list_reads q2 q1 (shs_lay 60 ds hs.2).1 (sh_lay 60 d1 hs.1).1 (PyProof.Rows.room_in_shaped (sh_shaped hs.1) hu) ⟨.bl _, H, I, rfl, ?_⟩
      rw [pys_any d1 ds hs.1 hs.2]
      exact hr
    case tup ds =>
      have hf' : (if d1.sh 60 && D.shs 60 ds then some (memD d1 ds) else none) = some b := by cases d1 <;> exact hf
      split at hf'
      case isFalse => cases hf'
      cases hf'
      rename_i hs
      simp only [Bool.and_eq_true] at hs
      obtain ⟨as, q1⟩ := Dp.reads I _ _ v (h1.dp sub hs.1) rx
      cases h2 with
      | @tup a vs _ g1 g2 g3 =>
      obtain ⟨bs, q2⟩ := Dp.reads I (.tuple (D.pys ds)) _ u (.tup (SqT.up g1 sub) (g3.dp sub 60 _ _ hs.2)) ry
      refine SeqAt.in_tuple_reads q2 q1 (shs_lay 60 ds hs.2).1 (sh_lay 60 d1 hs.1).1 (PyProof.Rows.room_in_shaped (sh_shaped hs.1) hu) ⟨.bl _, H, I, rfl, ?_⟩
      rw [pys_any d1 ds hs.1 hs.2]
      exact hr
  case NotIn =>
    cases d2 <;> first | (exact no_some hf) | skip
    case str j =>
      cases d1 <;> first | (exact no_some hf) | skip
      cases h1; cases h2; cases hf
      exact op_notIn_str pins s σ H _ _ v u Q I rx ry ⟨_, _, rfl, rfl, hr⟩
    case lst ds =>
      have hf' : (if d1.sh 60 && D.shs 60 ds then some (!memD d1 ds) else none) = some b := by cases d1 <;> exact hf
      split at hf'
      case isFalse => cases hf'
      cases hf'
      rename_i hs
      simp only [Bool.and_eq_true] at hs
      obtain ⟨as, q1⟩ := Dp.reads I _ _ v (h1.dp sub hs.1) rx
      obtain ⟨a, vs, rfl, g1, g2, g3⟩ := h2
      obtain ⟨bs, q2⟩ := Dp.reads I (.list (D.pys ds)) _ u (.lst g1 (g3.dp sub 60 _ _ hs.2)) ry
      refine SeqAt.notIn_list_reads q2 q1 (shs_lay 60 ds hs.2).1 (sh_lay 60 d1 hs.1).1 (PyProof.Rows.room_in_shaped (sh_shaped hs.1) hu) ⟨.bl _, H, I, rfl, ?_⟩
      rw [pys_any d1 ds hs.1 hs.2]
      exact hr
    case tup ds =>
      have hf' : (if d1.sh 60 && D.shs 60 ds then some (!memD d1 ds) else none) = some b := by cases d1 <;> exact hf
      split at hf'
      case isFalse => cases hf'
      cases hf'
      rename_i hs
      simp only [Bool.and_eq_true] at hs
      obtain ⟨as, q1⟩ := Dp.reads I _ _ v (h1.dp sub hs.1) rx
      cases h2 with
      | @tup a vs _ g1 g2 g3 =>
      obtain ⟨bs, q2⟩ := Dp.reads I (.tuple (D.pys ds)) _ u (.tup (SqT.up g1 sub) (g3.dp sub 60 _ _ hs.2)) ry
      refine SeqAt.notIn_tuple_reads q2 q1 (shs_lay 60 ds hs.2).1 (sh_lay 60 d1 hs.1).1 (PyProof.Rows.room_in_shaped (sh_shaped hs.1) hu) ⟨.bl _, H, I, rfl, ?_⟩
      rw [pys_any d1 ds hs.1 hs.2]
      exact hr
end
end Z

/-! Z3b: subscripts, slices, built-ins, by values. -/
namespace Z
open PySem PySem.Spec L2
section
variable {n : Nm} {X : Cx}
/-! ### places -/
def rIxD (n : Nm) (X : Cx) : R2 := fun x y H Q => ∃ F d1 d2 d, (∀ b o, F b = some o → H b = some o) ∧ Sh n X F H x d1 ∧ Sh n X F H y d2 ∧ atD d1 d2 = some d ∧ ∀ v, Rp n X.K X.mg F v d → Q v H
theorem ixD_eq (m : Nat) (i : Int) : ixD m i = ixN m i := rfl
theorem at_of {F : Hp} {vs : List V} {ds : List D} {i : Int} {d : D} (h : Rps n X.K X.mg F vs ds) (e : (ixD ds.length i).bind (fun j => ds[j]?) = some d) : ∃ v, atI vs i = some v ∧ Rp n X.K X.mg F v d := by
  unfold atI
  rw [← ixD_eq, h.length]
  cases q : ixD ds.length i with
  | none => rw [q] at e; cases e
  | some j =>
    rw [q] at e
    exact h.get e
theorem ix_D : IxR X (rIxD n X) := by
  intro value slice pins s σ H x y v u Q I rx ry ⟨F, d1, d2, d, sub, h1, h2, hf, hr⟩ hs
  cases d1 <;> first | (exact no_some hf) | skip
  case str z =>
    cases d2 <;> first | (exact no_some hf) | skip
    cases h1; cases h2
    simp only [atD] at hf
    split at hf
    case isFalse => cases hf
    rename_i i hz
    cases q : ixD z.cps.toList.length i with
    | none => rw [q] at hf; cases hf
    | some j =>
      rw [q] at hf
      cases q2 : z.cps.toList[j]? with
      | none =>
        have hf' : (z.cps.toList[j]?).map (fun c => D.str ⟨#[c]⟩) = some d := hf
        rw [q2] at hf'; cases hf'
      | some c =>
        have hf' : (z.cps.toList[j]?).map (fun c => D.str ⟨#[c]⟩) = some d := hf
        rw [q2] at hf'
        cases hf'
        refine ix_str value slice pins s σ H _ _ v u Q I rx ry ⟨z, i, c, rfl, rfl, hz, ?_, hr _ (.str _)⟩ hs
        unfold atI
        rw [← ixD_eq, q]
        exact q2
  case tup ds =>
    cases d2 <;> first | (exact no_some hf) | skip
    cases h2
    cases h1 with
    | @tup a vs _ ha hl ra =>
    obtain ⟨w, hw, rw'⟩ := at_of ra hf
    exact ix_tup value slice pins s σ H _ _ v u Q I rx ry ⟨a, vs, _, w, rfl, rfl, SqT.up ha sub, hw, hr _ rw'⟩ hs
  case lst ds =>
    cases d2 <;> first | (exact no_some hf) | skip
    cases h2
    obtain ⟨a, vs, rfl, ha, hl, ra⟩ := h1
    obtain ⟨w, hw, rw'⟩ := at_of ra hf
    exact ix_list value slice pins s σ H _ _ v u Q I rx ry ⟨a, vs, _, w, rfl, rfl, ha, hw, hr _ rw'⟩ hs

/-! ### slices -/
theorem sIx_eq (m d : Nat) (o : Option Int) : sIx m d o = HT.sIx m d o := by cases o <;> rfl
theorem cut_eq (vs : List V) (l h : Option Int) : cutL vs l h = cutV vs l h := by
  unfold cutL cutV
  rw [sIx_eq, sIx_eq]
theorem Rps.cut {F : Hp} {vs : List V} {ds : List D} (h : Rps n X.K X.mg F vs ds) (l u : Option Int) : Rps n X.K X.mg F (cutV vs l u) (cutL ds l u) := by
  rw [← cut_eq]
  unfold cutL
  rw [h.length]
  exact (h.drop _).take _
theorem cut_whole {ds : List D} {l u : Option Int} (h : HT.sIx ds.length 0 l = 0 ∧ HT.sIx ds.length ds.length u = ds.length) : cutL ds l u = ds := by
  unfold cutL
  rw [sIx_eq, sIx_eq, h.1, h.2, List.drop_zero, Nat.sub_zero, List.take_length]
theorem sl_D : SlR X (fun x l u H Q => ∃ F d c, (∀ b o, F b = some o → H b = some o) ∧ Sh n X F H x d ∧ cutD d l u = some c ∧ Res n X F H c Q) := by
  intro pins s σ H x v vl vu lo hi sl Q I rx hs pl pu ⟨F, d, c, sub, h1, hf, hr⟩
  cases d <;> first | (exact no_some hf) | skip
  case str z =>
    cases h1
    simp only [cutD] at hf
    split at hf
    case isFalse => cases hf
    cases hf
    rename_i hz
    refine sl_str pins s σ H _ v vl vu lo hi sl Q I rx hs pl pu ⟨z, rfl, hz, ?_⟩
    have e : cutS z lo hi = ⟨(cutL z.cps.toList lo hi).toArray⟩ := by
      unfold cutS cutL
      rw [sIx_eq, sIx_eq]
      have : z.cps.toList.length = z.length := by simp [Str.length]
      rw [this]
    rw [e]
    exact hr.1 _ (.str _)
  case tup ds =>
    have g1 := h1
    cases h1 with
    | @tup a vs _ ha hl ra =>
    cases hf
    refine sl_tupA pins s σ H _ v vl vu lo hi sl Q I rx hs pl pu ⟨a, vs, rfl, SqT.up ha sub, fun hw => ?_, fun _ q hq => ?_⟩
    · rw [ra.length] at hw
      have := hr.1 (.ref a)
      rw [cut_whole hw] at this
      exact this g1
    · exact hr.2 q _ _ hq rfl (Nat.le_trans (cutV_length _ _ _) hl) (ra.cut lo hi)
  case lst ds =>
    obtain ⟨a, vs, rfl, ha, hl, ra⟩ := h1
    cases hf
    exact sl_list pins s σ H _ v vl vu lo hi sl Q I rx hs pl pu ⟨a, vs, rfl, ha, fun q hq => hr q _ hq (Nat.le_trans (cutV_length _ _ _) hl) (ra.cut lo hi)⟩

/-! ### calls of built-ins -/
inductive Shs (n : Nm) (X : Cx) (F H : Hp) : List V → List D → Prop
  | nil : Shs n X F H [] []
  | cons {v : V} {vs : List V} {d : D} {ds : List D} : Sh n X F H v d → Shs n X F H vs ds → Shs n X F H (v :: vs) (d :: ds)
theorem Shs.of {F H : Hp} (sub : ∀ b o, F b = some o → H b = some o) : ∀ {vs : List V} {ds : List D}, Rps n X.K X.mg F vs ds → Shs n X F H vs ds
  | _, _, .nil => .nil
  | _, _, .cons h t => .cons (Sh.of sub h) (Shs.of sub t)
theorem Shs.one {F H : Hp} {vs : List V} {d : D} (h : Shs n X F H vs [d]) : ∃ v, vs = [v] ∧ Sh n X F H v d := by
  cases h with
  | cons h t => cases t; exact ⟨_, rfl, h⟩
theorem Shs.two {F H : Hp} {vs : List V} {d e : D} (h : Shs n X F H vs [d, e]) : ∃ v w, vs = [v, w] ∧ Sh n X F H v d ∧ Sh n X F H w e := by
  cases h with
  | cons h t =>
    cases t with
    | cons h2 t => cases t; exact ⟨_, _, rfl, h, h2⟩
def rBi (n : Nm) (X : Cx) (b : Bi) : List V → Hp → VK → Prop := fun vs H Q => ∃ F v d c, (∀ b o, F b = some o → H b = some o) ∧ vs = [v] ∧ Sh n X F H v d ∧ biD b d = some c ∧ Res n X F H c Q
theorem cl_len : CallR X (.builtin "len") (rBi n X .len) := by
  intro pins s σ H vs us Q I r ⟨F, v, d, c, sub, hv, h1, hf, hr⟩
  subst hv
  cases d <;> first | (exact no_some hf) | skip
  case str z =>
    cases h1
    simp only [biD] at hf
    split at hf
    case isFalse => cases hf
    cases hf
    exact call_len_str pins s σ H _ us Q I r ⟨z, rfl, by assumption, hr.1 _ (.int _)⟩
  case tup ds =>
    cases h1 with
    | @tup a vs _ ha hl ra =>
    cases hf
    refine call_len_seq pins s σ H _ us Q I r ⟨a, vs, rfl, .inr (SqT.up ha sub), ?_⟩
    rw [ra.length]
    exact hr.1 _ (.int _)
  case lst ds =>
    obtain ⟨a, vs, rfl, ha, hl, ra⟩ := h1
    cases hf
    refine call_len_seq pins s σ H _ us Q I r ⟨a, vs, rfl, .inl ha, ?_⟩
    rw [ra.length]
    exact hr.1 _ (.int _)
theorem cl_sum (hc : X.calm = true) : CallR X (.builtin "sum") (rBi n X .sum) := by
  intro pins s σ H vs us Q I r ⟨F, v, d, c, sub, hv, h1, hf, hr⟩
  subst hv
  cases d <;> first | (exact no_some hf) | skip
  case lst ds =>
    obtain ⟨a, vs, rfl, ha, hl, ra⟩ := h1
    have hf' : (intsOf ds).map (fun ns => Cl.dat (.int ns.sum)) = some c := hf
    cases e : intsOf ds with
    | none => rw [e] at hf'; cases hf'
    | some ns =>
      rw [e] at hf'
      cases hf'
      have z := ra.ints e
      subst z
      exact cr_sum hc pins s σ H _ us Q I r ⟨a, ns, rfl, ha, hr.1 _ (.int _)⟩
theorem cl_min (hc : X.calm = true) : CallR X (.builtin "min") (fun vs H Q => ∃ F v w d e c, (∀ b o, F b = some o → H b = some o) ∧ vs = [v, w] ∧ Sh n X F H v d ∧ Sh n X F H w e ∧ minD d e = some c ∧ Res n X F H c Q) := by
  intro pins s σ H vs us Q I r ⟨F, v, w, d, e, c, sub, hv, h1, h2, hf, hr⟩
  subst hv
  cases d <;> first | (exact no_some hf) | skip
  cases e <;> first | (exact no_some hf) | skip
  cases h1; cases h2; cases hf
  exact call_min2 hc pins s σ H _ us Q I r ⟨_, _, rfl, hr.1 _ (.int _)⟩
theorem cl_all (hc : X.calm = true) : CallR X (.builtin "all") (rBi n X .all) := by
  intro pins s σ H vs us Q I r ⟨F, v, d, c, sub, hv, h1, hf, hr⟩
  subst hv
  cases d <;> first | (exact no_some hf) | skip
  case lst ds =>
    obtain ⟨a, vs, rfl, ha, hl, ra⟩ := h1
    have hf' : (blsOf ds).map (fun ns => Cl.dat (.bl (ns.all id))) = some c := hf
    cases e : blsOf ds with
    | none => rw [e] at hf'; cases hf'
    | some ns =>
      rw [e] at hf'
      cases hf'
      have z := ra.bls e
      subst z
      exact cr_all hc pins s σ H _ us Q I r ⟨a, ns, rfl, ha, hr.1 _ (.bl _)⟩
theorem cl_any (hc : X.calm = true) : CallR X (.builtin "any") (rBi n X .any) := by
  intro pins s σ H vs us Q I r ⟨F, v, d, c, sub, hv, h1, hf, hr⟩
  subst hv
  cases d <;> first | (exact no_some hf) | skip
  case lst ds =>
    obtain ⟨a, vs, rfl, ha, hl, ra⟩ := h1
    have hf' : (blsOf ds).map (fun ns => Cl.dat (.bl (ns.any id))) = some c := hf
    cases e : blsOf ds with
    | none => rw [e] at hf'; cases hf'
    | some ns =>
      rw [e] at hf'
      cases hf'
      have z := ra.bls e
      subst z
      exact cr_any hc pins s σ H _ us Q I r ⟨a, ns, rfl, ha, hr.1 _ (.bl _)⟩
theorem cl_int : CallR X (.type "int") (rBi n X .int) := by
  intro pins s σ H vs us Q I r ⟨F, v, d, c, sub, hv, h1, hf, hr⟩
  subst hv
  cases d <;> first | (exact no_some hf) | skip
  case bl b =>
    cases h1; cases hf
    exact call_int1 pins s σ H _ us Q I r (.inr ⟨b, rfl, hr.1 _ (.int _)⟩)
  case int i =>
    cases h1; cases hf
    exact call_int1 pins s σ H _ us Q I r (.inl ⟨i, rfl, hr.1 _ (.int _)⟩)
  case str z =>
    cases h1
    simp only [biD] at hf
    split at hf
    case isFalse => cases hf
    cases e : PySem.intText? z with
    | none => rw [e] at hf; cases hf
    | some m =>
      rw [e] at hf
      cases hf
      exact call_int_str pins s σ H _ us Q I r ⟨z, m, rfl, e, by assumption, hr.1 _ (.int _)⟩
theorem cl_list : CallR X (.type "list") (rBi n X .list) := by
  intro pins s σ H vs us Q I r ⟨F, v, d, c, sub, hv, h1, hf, hr⟩
  subst hv
  cases d <;> first | (exact no_some hf) | skip
  case tup ds =>
    cases h1 with
    | @tup a vs _ ha hl ra =>
    cases hf
    exact call_list_of pins s σ H _ us Q I r ⟨a, vs, rfl, .inr (SqT.up ha sub), fun q hq => hr q _ hq hl ra⟩
  case lst ds =>
    obtain ⟨a, vs, rfl, ha, hl, ra⟩ := h1
    cases hf
    exact call_list_of pins s σ H _ us Q I r ⟨a, vs, rfl, .inl ha, fun q hq => hr q _ hq hl ra⟩
theorem cl_tuple : CallR X (.type "tuple") (rBi n X .tuple) := by
  intro pins s σ H vs us Q I r ⟨F, v, d, c, sub, hv, h1, hf, hr⟩
  subst hv
  cases d <;> first | (exact no_some hf) | skip
  case tup ds =>
    have g1 := h1
    cases h1 with
    | @tup a vs _ ha hl ra =>
    cases hf
    exact call_tuple_of pins s σ H _ us Q I r ⟨a, vs, rfl, .inr ⟨SqT.up ha sub, hr.1 _ g1⟩⟩
  case lst ds =>
    obtain ⟨a, vs, rfl, ha, hl, ra⟩ := h1
    cases hf
    exact call_tuple_of pins s σ H _ us Q I r ⟨a, vs, rfl, .inl ⟨ha, fun q hq => hr.2 q _ _ hq rfl hl ra⟩⟩
theorem cl_str : CallR X (.type "str") (rBi n X .str) := by
  intro pins s σ H vs us Q I r ⟨F, v, d, c, sub, hv, h1, hf, hr⟩
  subst hv
  cases d <;> first | (exact no_some hf) | skip
  case int i =>
    cases h1
    simp only [biD] at hf
    split at hf
    case isFalse => cases hf
    cases hf
    exact call_str_int pins s σ H _ us Q I r ⟨i, rfl, by assumption, hr.1 _ (.str _)⟩

/-! ### isinstance -/
def tyN : Ty → String
  | .int => "int"
  | .bool => "bool"
  | .tuple => "tuple"
  | .list => "list"
  | .str => "str"
theorem cl_isi : CallR X (.builtin "isinstance") (fun vs H Q => ∃ F v d t b, (∀ b o, F b = some o → H b = some o) ∧ vs = [v, .ty (tyN t)] ∧ Sh n X F H v d ∧ isD t d = some b ∧ Q (.bl b) H) := by
  intro pins s σ H vs us Q I r ⟨F, v, d, t, b, sub, hv, h1, hf, hr⟩
  subst hv
  have go : ∀ (m : String), TyX X.K H v (.type m) → kitB m (tyN t) = some b → wpAny (model X.prog X.w) X.A (call (.builtin "isinstance") us) (EP X pins σ Q) X.xe s := fun m h k =>
    call_isi pins s σ H _ us Q I r ⟨v, .ty (tyN t), .type m, .type (tyN t), b, rfl, .ty _, h, kit_ty k, hr⟩
  cases d
  case non =>
    cases h1; cases hf
    exact go "NoneType" (.base .non) (by cases t <;> decide +kernel)
  case bl x =>
    cases h1; cases hf
    exact go "bool" (.base (.bl x)) (by cases t <;> decide +kernel)
  case int x =>
    cases h1; cases hf
    exact go "int" (.base (.int x)) (by cases t <;> decide +kernel)
  case str x =>
    cases h1; cases hf
    exact go "str" (.base (.str x)) (by cases t <;> decide +kernel)
  case tup ds =>
    cases h1 with
    | @tup a vs _ ha hl ra =>
    cases hf
    refine go "tuple" ?_ (by cases t <;> decide +kernel)
    rcases ha with (ha | ⟨o, ha⟩) | ⟨o, its, m, k, c, _⟩
    · exact .base (.tup (sub _ _ ha))
    · exact .fTuple (sub _ _ ha)
    · exact .kTuple k c
  case lst ds =>
    obtain ⟨a, vs, rfl, ha, hl, ra⟩ := h1
    cases hf
    refine go "list" ?_ (by cases t <;> decide +kernel)
    rcases ha with (ha | ⟨o, ha⟩) | ⟨o, its, m, k, c, _⟩
    · exact .base (.lst ha)
    · exact .base (.frz ha)
    · exact .kList k c
  case fn f => cases t <;> exact no_some hf
end
end Z

/-! Z3s: sorted(..) of data, from a list or a tuple. -/
namespace Z
open PySem PySem.Spec PyProof.Rows PySem.W
theorem perm_few {α : Type} : ∀ {us out : List α}, out.Perm us → us.length < 2 → out = us
  | [], _, p, _ => p.eq_nil
  | [_], _, p, _ => List.perm_singleton.mp p
  | _ :: _ :: _, _, _, h => absurd h (by simp)
section
variable {prog : Program} {w : World} {A : Around} {E : Value → Shared → Prop} {s : Shared}
/-- what collecting leaves -/
abbrev colH (h : Heap) (us : List Value) : Heap := (h.push (seqObj "list" #[] 0)).update h.objs.size (Obj.mapSeq (· ++ us.toArray))
theorem coll_tup {t : Addr} {us : List Value} {Q : List Value → Shared → Prop} (ht : IsTup s.heap t us.toArray) (h : Q us { s with heap := colH s.heap us }) (hz : us.length ≤ sizeLine) : wpAny (model prog w) A (collect (.ref t)) Q E s := by
  obtain ⟨ob, go, gc, m, gd⟩ := id ht
  unfold collect
  refine wpAny_bind (wpAny_runValue (codeAny_builtin entry_proto_collect' ?_))
  show wpAny _ _ (do again (.builtin "list.__iadd__" ⟨[← newList [], .ref t], []⟩)) _ _ s
  refine wpAny_bind (wpAny_newList (wpAny_pure ⟨Code.quiet_builtin _ (by decide +kernel), codeAny_builtin entry_list_iadd' ?_⟩))
  show wpAny _ _ (Builtin.List.listExtendWith (.ref s.heap.objs.size) (.ref t) (.ref s.heap.objs.size)) _ _ { s with heap := s.heap.push (seqObj "list" #[] 0) }
  unfold Builtin.List.listExtendWith
  have go' : (s.heap.push (seqObj "list" #[] 0)).get? t = some ob := Heap.get?_push_of_some _ go
  refine wpAny_bind (wpAny_typeOf (T := "tuple") ⟨ob, go', gc⟩ ?_)
  have hy : (Value.type "tuple" == Value.type "tuple") = true := by rfl
  rw [if_pos (by rw [hy]; simp)]
  refine wpAny_bind (listItems_at go' gd ?_)
  refine wpAny_bind (listItems_at (xs := #[]) (n := 0) (Heap.get?_push_size _ rfl) rfl ?_)
  rw [if_neg (by simp)]
  refine wpAny_bind (listUpdate_at (xs := #[]) (n := 0) (Heap.get?_push_size _ rfl) rfl ?_ (Nat.zero_le _) (by show (#[] ++ us.toArray).size ≤ sizeLine + 1; simp only [Array.size_append, List.size_toArray, List.length_nil]; omega))
  refine wpAny_pure ?_
  show wpAny (model prog w) A (do
      let o ← load s.heap.objs.size
      match o.data with
      | .seq ys _ => pure ys.toList
      | _ => unsupported "internal:collect") Q E { s with heap := colH s.heap us }
  refine wpAny_bind (wpAny_load (get?_update_seq (Heap.get?_push_size _ rfl) _) ?_)
  show wpAny _ _ (pure ((#[] : Array Value) ++ us.toArray).toList) Q E _
  rw [show ((#[] : Array Value) ++ us.toArray).toList = us by simp]
  exact wpAny_pure h
/-- collected as us, whatever follows -/
def Coll (prog : Program) (w : World) (s : Shared) (v : Value) (us : List Value) : Prop := ∀ (A : Around) (E : Value → Shared → Prop) (Q : List Value → Shared → Prop), Q us { s with heap := colH s.heap us } → wpAny (model prog w) A (collect v) Q E s
theorem sorted_by {v : Value} {us : List Value} {Q : Value → Shared → Prop} (hc : Coll prog w s v us) (hL : us.length ≤ sizeLine)
    (body : ∀ E' : Value → Shared → Prop, wpAny (model prog w) A.in1.in1 (Builtin.«list.sort» ⟨[.ref (s.heap.objs.size + 1)], []⟩) (fun f s' => f = .done (.ret .none) ∧ Q (.ref (s.heap.objs.size + 1)) s') E' { s with heap := copyHeap s.heap us }) :
    wpAny (model prog w) A (call (.builtin "sorted") [v]) Q E s := by
  refine Calls.call_function_entry kind_sorted plain_sorted entry_sorted (args_sorted1 _) ?_
  unfold Builtin.«sorted»
  refine wpAny_bind (m := checkCount "sorted" 1 1 _) (wpAny_pure ?_)
  refine wpAny_bind (hc _ _ _ ?_)
  refine wpAny_bind (wpAny_newList ?_ hL)
  have hsz : (colH s.heap us).objs.size = s.heap.objs.size + 1 := by
    show ((s.heap.push (seqObj "list" #[] 0)).update s.heap.objs.size (Obj.mapSeq (· ++ us.toArray))).objs.size = _
    rw [Heap.size_update, size_push']
  show wpAny _ _ _ _ _ { s with heap := copyHeap s.heap us }
  rw [hsz]
  refine wpAny_bind (wpAny_holding (wpAny_call_entry slot_list_sort ⟨_, copyHeap_at s.heap us, rfl⟩ entry_list_sort ?body (args_list_sort _)))
  case body =>
    show wpAny (model prog w) A.in1.in1 (Builtin.«list.sort» ⟨[.ref (s.heap.objs.size + 1)], []⟩) _ _ _
    refine wpAny_mono (body _) (fun f s' hf => ?_) fun _ _ e => e
    obtain ⟨rfl, hq⟩ := hf
    exact ⟨_, rfl, wpAny_pure ⟨_, rfl, hq⟩⟩
/-- sorted(..) of data -/
theorem sorted_dat {β : Type} {R : Value → β → Prop} {enc : β → PyData} {v : Value} {us : List Value} {bs : List β} {Q : Value → Shared → Prop} (hc : Coll prog w s v us) (e : EachIs R us bs) (er : EachIs (fun v b => ∃ as, Reads s.heap v (enc b) as) us bs) (hal : AllAlike (bs.map enc)) (hk : Sortable (bs.map enc)) (hL : bs.length ≤ sizeLine)
    (hu : ∀ b, b ∈ bs → A.units + 2 + (enc b).depth < cLine) (h : ∀ out, out.length = bs.length → EachIs R out (bs.mergeSort (dataLe false enc)) → Q (.ref (s.heap.objs.size + 1)) { s with heap := sortedAll s.heap us (List.toArray out) }) :
    wpAny (model prog w) A (call (.builtin "sorted") [v]) Q E s := by
  have er' : EachIs (fun v b => ∃ as, Reads (sortingHeap (copyHeap s.heap us) (s.heap.objs.size + 1) us) v (enc b) as) us bs := er.mono fun _ _ ⟨as, r⟩ => ⟨as, PyProof.Rows.Reads.keeps (fun _ _ => sorting_copy_old) r⟩
  refine sorted_by hc (by rw [e.length]; exact hL) fun E' => ?_
  exact list_sort_vals (s := { s with heap := copyHeap s.heap us }) (copyHeap_at s.heap us) (SortsAt.data (s := { s with heap := sortingHeap (copyHeap s.heap us) (s.heap.objs.size + 1) us }) (each_map (R := fun v d => ∃ as, Reads (sortingHeap (copyHeap s.heap us) (s.heap.objs.size + 1) us) v d as) enc er') hal hk (bound_map hu))
    (by rw [e.length]; exact hL) ⟨rfl, h _ (by rw [sortVals_length false rfl]; exact e.length) (sortVals_data false e er' hal)⟩
/-- .. of one thing, or none -/
theorem sorted_few {v : Value} {us : List Value} {Q : Value → Shared → Prop} (hc : Coll prog w s v us) (h2 : us.length < 2) (h : Q (.ref (s.heap.objs.size + 1)) { s with heap := sortedAll s.heap us us.toArray }) :
    wpAny (model prog w) A (call (.builtin "sorted") [v]) Q E s := by
  have hL : us.length ≤ sizeLine := by rw [sizeLine_eq]; omega
  refine sorted_by hc hL fun E' => ?_
  refine SrtO.list_sort_ord (ltv := fun _ _ => false) ⟨fun _ _ z => (nomatch z), fun _ _ _ _ _ => rfl⟩ (copyHeap_at s.heap us) hL (fun z => by omega) fun out hs hb => ?_
  rw [perm_few hb.perm h2]
  exact ⟨rfl, h⟩
end
end Z

/-! Z3t: sorted(..), by values. -/
namespace Z
open PySem PySem.Spec L2
section
variable {n : Nm} {X : Cx} {F H : Hp} {pins : List (Addr × Obj)} {σ : L2.St} {s : Shared}
mutual
theorem Rp.reads (I : Inv X pins σ H s) (sub : ∀ b o, F b = some o → H b = some o) : ∀ (m : Nat) (d : Z.D) (v : V) (u : Value), d.sh m = true → Rp n X.K X.mg F v d → RelV v u → ∃ as, Reads s.heap u d.py as
  | _, .non, _, _, _, h, r => by cases h; cases r; exact ⟨_, .none⟩
  | _, .bl _, _, _, _, h, r => by cases h; cases r; exact ⟨_, .bool _⟩
  | _, .int _, _, _, _, h, r => by cases h; obtain ⟨t, rfl⟩ := r; exact ⟨_, .int _ _⟩
  | _, .str _, _, _, _, h, r => by cases h; obtain ⟨t, rfl⟩ := r; exact ⟨_, .str _ _⟩
  | 0, .tup _, _, _, hs, _, _ => by simp [Z.D.sh] at hs
  | m + 1, .tup ds, _, _, hs, h, r => by
    cases h with
    | @tup a vs _ h1 h2 h3 =>
    cases r
    obtain ⟨its, rv, ⟨ob, ho, hc, k, hd⟩, _⟩ := I.tuple (SqT.up h1 sub)
    obtain ⟨as, ra⟩ := Rps.reads I sub m ds vs its (by simpa only [Z.D.sh] using hs) h3 rv
    exact ⟨as, .tuple ho hc hd (by simpa using ra)⟩
  | 0, .lst _, _, _, hs, _, _ => by simp [Z.D.sh] at hs
  | m + 1, .lst ds, _, _, hs, h, r => by
    cases h with
    | @lst a vs _ h1 h2 h3 =>
    cases r
    obtain ⟨its, rv, ⟨ob, k, ho, hc, hn, hd⟩, _⟩ := I.list (SqL.up h1 sub)
    obtain ⟨as, ra⟩ := Rps.reads I sub m ds vs its (by simpa only [Z.D.sh] using hs) h3 rv
    exact ⟨_, .list ho hc hd (by simpa using ra)⟩
  | m, .fn _, _, _, hs, _, _ => by cases m <;> simp [Z.D.sh] at hs
theorem Rps.reads (I : Inv X pins σ H s) (sub : ∀ b o, F b = some o → H b = some o) : ∀ (m : Nat) (ds : List Z.D) (vs : List V) (us : List Value), Z.D.shs m ds = true → Rps n X.K X.mg F vs ds → Vals vs us → ∃ as, ReadsAll s.heap us (Z.D.pys ds) as
  | _, [], _, _, _, h, r => by cases h; cases r; exact ⟨_, .nil⟩
  | m, d :: ds, _, _, hs, h, r => by
    have hs' : Z.D.sh m d = true ∧ Z.D.shs m ds = true := by cases m <;> simpa only [Z.D.shs, Bool.and_eq_true] using hs
    cases h with
    | cons h1 h2 =>
      cases r with
      | cons r1 r2 =>
        obtain ⟨as, ra⟩ := Rp.reads I sub m d _ _ hs'.1 h1 r1
        obtain ⟨bs, rb⟩ := Rps.reads I sub m ds _ _ hs'.2 h2 r2
        exact ⟨_, .cons ra rb⟩
end
/-- a value that stands for d -/
def RR (n : Nm) (X : Cx) (F : Hp) (u : Value) (d : Z.D) : Prop := ∃ v, RelV v u ∧ Rp n X.K X.mg F v d
theorem each_of : ∀ {vs : List V} {ds : List Z.D} {us : List Value}, Rps n X.K X.mg F vs ds → Vals vs us → PySem.W.EachIs (RR n X F) us ds
  | _, _, _, .nil, r => by cases r; exact .nil
  | _, _, _, .cons h t, r => by
    cases r with
    | cons r1 r2 => exact .cons ⟨_, r1, h⟩ (each_of t r2)
theorem of_each : ∀ {us : List Value} {ds : List Z.D}, PySem.W.EachIs (RR n X F) us ds → ∃ vs, Vals vs us ∧ Rps n X.K X.mg F vs ds
  | _, _, .nil => ⟨[], .nil, .nil⟩
  | _, _, .cons ⟨v, h1, h2⟩ t => by
    obtain ⟨vs, g1, g2⟩ := of_each t
    exact ⟨v :: vs, .cons h1 g1, .cons h2 g2⟩
theorem each_reads (I : Inv X pins σ H s) (sub : ∀ b o, F b = some o → H b = some o) : ∀ {vs : List V} {ds : List Z.D} {us : List Value}, Z.D.shs 60 ds = true → Rps n X.K X.mg F vs ds → Vals vs us → PySem.W.EachIs (fun u d => ∃ as, Reads s.heap u (Z.D.py d) as) us ds
  | _, _, _, _, .nil, r => by cases r; exact .nil
  | _, d :: ds, _, hs, .cons h t, r => by
    have hs' : Z.D.sh 60 d = true ∧ Z.D.shs 60 ds = true := by simpa only [Z.D.shs, Bool.and_eq_true] using hs
    cases r with
    | cons r1 r2 => exact .cons (Rp.reads I sub 60 d _ _ hs'.1 h r1) (each_reads I sub hs'.2 t r2)
theorem shs_mem {m : Nat} : ∀ {ds : List Z.D}, Z.D.shs m ds = true → ∀ d ∈ ds, d.sh m = true
  | [], _, d, hd => absurd hd (by simp)
  | e :: ds, h, d, hd => by
    have hs' : Z.D.sh m e = true ∧ Z.D.shs m ds = true := by cases m <;> simpa only [Z.D.shs, Bool.and_eq_true] using h
    rcases List.mem_cons.mp hd with rfl | hd
    · exact hs'.1
    · exact shs_mem hs'.2 d hd
theorem sortD_length (ds : List Z.D) : (sortD ds).length = ds.length := (List.mergeSort_perm ds _).length_eq
theorem sortD_few {ds : List Z.D} (h : ds.length < 2) : sortD ds = ds := perm_few (List.mergeSort_perm ds _) h
/-- the run -/
theorem sorted_run (I : Inv X pins σ H s) (sub : ∀ b o, F b = some o → H b = some o) (hu : X.A.units + 65 < cLine) {u : Value} {vs : List V} {us : List Value} {ds : List Z.D} {Q : VK} (hc : Coll X.prog X.w s u us) (rv : Vals vs us) (rs : Rps n X.K X.mg F vs ds) (hz : vs.length ≤ sizeLine) (h : sortable ds = true)
    (hq : ∀ q ws, H q = none → ws.length ≤ sizeLine → Rps n X.K X.mg F ws (sortD ds) → Q (.ref q) (upd H q (.lst ws))) : wpAny (model X.prog X.w) X.A (call (.builtin "sorted") [u]) (EP X pins σ Q) X.xe s := by
  have fin : ∀ out : List Value, out.length = us.length → PySem.W.EachIs (RR n X F) out (sortD ds) → EP X pins σ Q (.ref (s.heap.objs.size + 1)) { s with heap := PyProof.Rows.sortedAll s.heap us out.toArray } := fun out hl he => by
    obtain ⟨ws, w1, w2⟩ := of_each he
    obtain ⟨ep, he'⟩ := PyProof.Rows.sortedAll_at s.heap us out.toArray
    have hlen : ws.length ≤ sizeLine := by rw [w1.length, hl, ← rv.length]; exact hz
    exact ⟨.ref _, upd H (s.heap.objs.size + 1) (.lst ws), I.laid (t' := s.toks) (fun _ _ => PyProof.Rows.sortedAll_old) (Nat.le_succ _) ⟨hlen, out, ep, w1, he'⟩, rfl, hq _ _ (I.hok.fresh (Nat.le_succ _)) hlen w2⟩
  have lu : us.length = ds.length := by rw [← rv.length, rs.length]
  unfold sortable at h
  rcases (Bool.or_eq_true _ _).mp h with h2 | h
  · have h2 := of_decide_eq_true h2
    refine sorted_few hc (by rw [lu]; exact h2) (fin us rfl ?_)
    rw [sortD_few h2]
    exact each_of rs rv
  · simp only [Bool.and_eq_true, decide_eq_true_eq, List.all_eq_true, Bool.or_eq_true] at h
    obtain ⟨⟨⟨h1, h2⟩, h3⟩, h4⟩ := h
    refine sorted_dat (enc := Z.D.py) hc (each_of rs rv) (each_reads I sub h2 rs rv) ?_ ?_ h1 (fun d hd => ?_) fun out hl he => fin out (by rw [hl, lu]) he
    · intro a ha b hb
      obtain ⟨x, hx, rfl⟩ := List.mem_map.mp ha
      obtain ⟨y, hy, rfl⟩ := List.mem_map.mp hb
      exact h3 x hx y hy
    · rcases h4 with h4 | h4
      · refine .inl fun d hd => ?_
        obtain ⟨x, hx, rfl⟩ := List.mem_map.mp hd
        have := h4 x hx
        cases x <;> first | (exact absurd this Bool.false_ne_true) | skip
        rename_i es
        cases es with
        | nil => exact absurd this Bool.false_ne_true
        | cons e es => exact ⟨_, _, rfl⟩
      · refine .inr fun d hd => ?_
        obtain ⟨x, hx, rfl⟩ := List.mem_map.mp hd
        have := h4 x hx
        cases x <;> first | (exact absurd this Bool.false_ne_true) | (exact ⟨(fun z => nomatch z), fun _ z => nomatch z⟩)
    · have := (sh_lay 60 d (shs_mem h2 d hd)).2
      omega
theorem cl_sorted (hu : X.A.units + 65 < cLine) : CallR X (.builtin "sorted") (rBi n X .sorted) := by
  intro pins s σ H vs us Q I r ⟨F, v, d, c, sub, hv, h1, hf, hr⟩
  subst hv
  obtain ⟨u, rfl, ru⟩ := vals1 r
  have hf' : (itemsOf d).bind (fun ds => if sortable ds then some (Cl.own false (sortD ds)) else none) = some c := hf
  cases hi : itemsOf d with
  | none => rw [hi] at hf'; cases hf'
  | some ds =>
  rw [hi] at hf'
  have hf2 : (if sortable ds then some (Cl.own false (sortD ds)) else none) = some c := hf'
  split at hf2
  case isFalse => cases hf2
  rename_i hs
  cases hf2
  cases d <;> first | (exact no_some hi) | skip
  · cases hi
    cases h1 with
    | @tup a ws _ ha hl ra =>
    cases ru
    obtain ⟨its, rv, ht, hz⟩ := I.tuple (SqT.up ha sub)
    exact sorted_run I sub hu (fun A E Q' q => coll_tup ht q (by rw [← rv.length]; exact hl)) rv ra hl hs hr
  · cases hi
    obtain ⟨a, ws, rfl, ha, hl, ra⟩ := h1
    cases ru
    obtain ⟨its, rv, ht, hz⟩ := I.list ha
    exact sorted_run I sub hu (fun A E Q' q => PyProof.Rows.collect_list ht.isList q (by rw [← rv.length]; exact hl)) rv ra hl hs hr
end
end Z

/-! Z3c: an expression of the text read as one of the evaluator's; what a context must hold. -/
namespace Z
open PySem PySem.Spec L2

def visB (sc : Scope) (x : Str) : Bool := match sc.names.lookup x with
  | some .local => true
  | some .cell => true
  | some .free => true
  | _ => false
def okV (N : List Str) (sc : Scope) (i : Nat) (x : Str) : Bool := decide (N[i]? = some x) && visB sc x && !(x == ("__debug__" : Str)) && !(x == ("__classdict__" : Str))
def okG (sc : Scope) (x : Str) : Bool := decide (sc.names.lookup x = some .globalImplicit) && !(x == ("__debug__" : Str)) && decide (x ≠ ("__name__" : Str))
def biN : Bi → Str
  | .len => "len"
  | .sum => "sum"
  | .int => "int"
  | .list => "list"
  | .tuple => "tuple"
  | .sorted => "sorted"
  | .all => "all"
  | .any => "any"
  | .repr => "repr"
  | .str => "str"
  | .lenset => "len"
  | .sortset => "sorted"
/-- the built-ins that the texts here name -/
def bltNames : List Str := ["len", "sum", "min", "int", "list", "tuple", "sorted", "all", "any", "repr", "str", "range", "isinstance", "bool", "set", "enumerate", "zip"]
def mtN : Mt → Str
  | .index => "index"
  | .split => "split"
  | .join => "join"
def tyS : Ty → Str
  | .int => "int"
  | .bool => "bool"
  | .tuple => "tuple"
  | .list => "list"
  | .str => "str"
/-- a target's names: local, or cells of the frame's own (cl) -/
def okT (N : List Str) (sc : Scope) (cl : Str → Bool) (i : Nat) (x : Str) : Bool := decide (N[i]? = some x) && (decide (sc.names.lookup x = some .local) || (decide (sc.names.lookup x = some .cell) && cl x))
/-- which built-ins the walk knows -/
def biOk : Bi → Bool
  | .repr => false
  | .lenset => false
  | .sortset => false
  | _ => true
mutual
def isTg (N : List Str) (sc : Scope) (cl : Str → Bool) : Tg → Expr → Bool
  | .nm i, .Name x _ => okT N sc cl i x
  | .tp ts, .Tuple es _ _ => isTgs N sc cl ts es
  | _, _ => false
def isTgs (N : List Str) (sc : Scope) (cl : Str → Bool) : Tgs → List Expr → Bool
  | .nil, [] => true
  | .cons t ts, e :: es => isTg N sc cl t e && isTgs N sc cl ts es
  | _, _ => false
end
mutual
/-- a target's slots are among vs -/
def tgIn : Tg → List Nat → Bool
  | .nm i, vs => vs.contains i
  | .tp ts, vs => tgsIn ts vs
def tgsIn : Tgs → List Nat → Bool
  | .nil, _ => true
  | .cons t ts, vs => tgIn t vs && tgsIn ts vs
end
def ownOf (N : List Str) (vs : List Nat) : List (Str × Nat) := vs.map fun i => (N.getD i default, i)
def isLit : D → Const → Bool
  | .int i, .int j => decide (i = j)
  | .bl b, .bool c => b == c
  | .non, .none => true
  | .str s, .str t => decide (s = t)
  | _, _ => false
section
variable (n : Nm) (N : List Str)
mutual
def isE : E → Scope → Expr → Bool
  | .var i, sc, .Name x _ => okV N sc i x
  | .lit d, _, .Constant c _ _ => isLit d c
  | .gc c, sc, .Name x _ => decide (n.ng c = x) && okG sc x
  | .fnm f, sc, .Name x _ => decide (n.nf f = x) && n.pr f && okG sc x
  | .bin o a b, sc, .BinOp l o' r _ => decide (o = o') && isE a sc l && isE b sc r
  | .neg a, sc, .UnaryOp .USub x _ => isE a sc x
  | .not a, sc, .UnaryOp .Not x _ => isE a sc x
  | .and a b, sc, .BoolOp .And [x, y] _ => isE a sc x && isE b sc y
  | .and a b, sc, .BoolOp .And (x :: y :: z :: r) p => isE a sc x && isE b sc (.BoolOp .And (y :: z :: r) p)
  | .or a b, sc, .BoolOp .Or [x, y] _ => isE a sc x && isE b sc y
  | .or a b, sc, .BoolOp .Or (x :: y :: z :: r) p => isE a sc x && isE b sc (.BoolOp .Or (y :: z :: r) p)
  | .cmp o a b, sc, .Compare l [o'] [r] _ => decide (o = o') && isE a sc l && isE b sc r
  | .chn o o' a b c, sc, .Compare l [p, p'] [r, s] _ => decide (o = p) && decide (o' = p') && isE a sc l && isE b sc r && isE c sc s
  | .ite c a b, sc, .IfExp t x y _ => isE c sc t && isE a sc x && isE b sc y
  | .tup es, sc, .Tuple xs _ _ => isEs es sc xs && decide (es.len ≤ 1000)
  | .lst es, sc, .List xs _ => isEs es sc xs && decide (es.len ≤ 1000)
  | .idx a i, sc, .Subscript x y _ => isE a sc x && isE i sc y
  | .vix i k, sc, .Subscript (.Name x _) y _ => okV N sc i x && isE k sc y
  | .vln i, sc, .Call (.Name f _) [.Name x _] [] _ => decide (f = "len") && okG sc f && okV N sc i x
  | .vcl o i b, sc, .Compare (.Name x _) [o'] [r] _ => decide (o = o') && okV N sc i x && isE b sc r
  | .vcr o a i, sc, .Compare l [o'] [.Name x _] _ => decide (o = o') && isE a sc l && okV N sc i x
  | .slc a lo hi, sc, .Subscript x (.Slice l h none _) _ => isE a sc x && isOe lo sc l && isOe hi sc h
  | .rev a, sc, .Subscript x (.Slice none none (some (.UnaryOp .USub (.Constant (.int j) _ _) _)) _) _ => decide (j = 1) && isE a sc x
  | .app f none es, sc, .Call (.Name x _) (e :: xs) [] _ => decide (n.nf f = x) && n.pr f && okG sc x && isEs es sc (e :: xs)
  | .app f (some i) es, sc, .Call (.Name x _) (.Name y _ :: xs) [] _ => decide (n.nf f = x) && n.pr f && okG sc x && okV N sc i y && isEs es sc xs
  | .bi b a, sc, .Call (.Name x _) [y] [] _ => biOk b && decide (x = biN b) && okG sc x && isE a sc y
  | .mn a b, sc, .Call (.Name x _) [y, z] [] _ => decide (x = "min") && okG sc x && isE a sc y && isE b sc z
  | .rgl es, sc, .Call (.Name x _) [.Call (.Name y _) ys [] _] [] _ => decide (x = "list") && okG sc x && decide (y = "range") && okG sc y && isEs es sc ys && (decide (es.len = 1) || decide (es.len = 2))
  | .rgt es, sc, .Call (.Name x _) [.Call (.Name y _) ys [] _] [] _ => decide (x = "tuple") && okG sc x && decide (y = "range") && okG sc y && isEs es sc ys && decide (es.len = 1)
  | .isi a t, sc, .Call (.Name x _) [y, .Name z _] [] _ => decide (x = "isinstance") && okG sc x && isE a sc y && decide (z = tyS t) && okG sc z
  | .mth mt a b, sc, .Call (.Attribute x m ap) [y] [] cp => decide (m = mtN mt) && (ap.endLine == cp.line) && isE a sc x && isE b sc y
  | .cm1 elt tg it c vs, sc, .ListComp el [⟨t, i, ifs, z⟩] scope _ =>
    decide (z = 0) && isTg N (relS scope sc) (fun x => scope.names.lookup x == some .cell) tg t && tgIn tg vs && isIt it sc t i && isOc c (relS scope sc) ifs && isE elt (relS scope sc) el && blkC N sc scope (ownOf N vs)
  | .cm2 elt tg it c tg' it' c' vs vs', sc, .ListComp el [⟨t, i, ifs, z⟩, ⟨t', i', ifs', z'⟩] scope _ =>
    decide (z = 0) && decide (z' = 0) && isTg N (relS scope sc) (fun x => scope.names.lookup x == some .cell) tg t && tgIn tg vs && isIt it sc t i && isOc c (relS scope sc) ifs &&
    isTg N (relS scope sc) (fun x => scope.names.lookup x == some .cell) tg' t' && tgIn tg' vs' && isIt it' (relS scope sc) t' i' && isOc c' (relS scope sc) ifs' &&
    isE elt (relS scope sc) el && blkC N sc scope (ownOf N vs) && (vs'.all fun i => vs.contains i)
  | _, _, _ => false
def isEs : Es → Scope → List Expr → Bool
  | .nil, _, [] => true
  | .cons a es, sc, x :: xs => isE a sc x && isEs es sc xs
  | _, _, _ => false
def isOe : Oe → Scope → Option Expr → Bool
  | .non, _, none => true
  | .som a, sc, some x => isE a sc x
  | _, _, _ => false
def isOc : Oe → Scope → List Expr → Bool
  | .non, _, [] => true
  | .som a, sc, [x] => isE a sc x
  | _, _, _ => false
def isIt : It → Scope → Expr → Expr → Bool
  | .seq a, sc, _, x => isE a sc x
  | .rng es, sc, _, .Call (.Name y _) ys [] _ => decide (y = "range") && okG sc y && isEs es sc ys && decide (es.len ≤ 3)
  | .enu a, sc, .Tuple _ _ _, .Call (.Name y _) [x] [] _ => false && decide (y = "enumerate") && okG sc y && isE a sc x
  | .zip a b, sc, .Tuple _ _ _, .Call (.Name y _) [x, z] [] _ => false && decide (y = "zip") && okG sc y && isE a sc x && isE b sc z
  | _, _, _, _ => false
end
end
def badE : Expr → Bool
  | .Starred .. => true
  | .Set .. => true
  | .Slice .. => true
  | _ => false
theorem and1 {a b : Bool} (h : (a && b) = true) : a = true ∧ b = true := by cases a <;> cases b <;> simp_all
section
variable {n : Nm} {N : List Str}
theorem isE_good : ∀ (c : E) (sc : Scope) (x : Expr), isE n N c sc x = true → badE x = false := by
  intro c sc x h
  cases x <;> first | rfl | (exfalso; cases c <;> first | (exact absurd h Bool.false_ne_true) | (rename_i p _; cases p <;> exact absurd h Bool.false_ne_true) | (exact absurd h Bool.false_ne_true))
theorem good_star {x : Expr} (h : badE x = false) (es : List Expr) (env : PySem.Env) : PySem.starEach (x :: es) env = (false, PySem.eval x env) :: PySem.starEach es env := by
  cases x <;> first | rfl | exact absurd h.symm Bool.false_ne_true
theorem good_mark {x : Expr} (h : badE x = false) (op : CmpOp) : behindInMarks op x = false := by
  cases x <;> first | rfl | exact absurd h.symm Bool.false_ne_true
theorem good_plain {x : Expr} (h : badE x = false) : PlainIx x := by
  intro o i
  cases x <;> first | rfl | exact absurd h.symm Bool.false_ne_true
theorem good_fold {x : Expr} (h : badE x = false) (env : PySem.Env) : ∀ y, foldedSetIterable x env y = pure y := by
  intro y
  cases x <;> first | rfl | exact absurd h.symm Bool.false_ne_true
theorem isEs_good : ∀ (c : Es) (sc : Scope) (xs : List Expr), isEs n N c sc xs = true → (∀ x ∈ xs, badE x = false) ∧ xs.length = c.len
  | .nil, _, [], _ => ⟨fun x h => absurd h (by simp), rfl⟩
  | .nil, _, _ :: _, h => absurd h Bool.false_ne_true
  | .cons a es, _, [], h => absurd h Bool.false_ne_true
  | .cons a es, sc, x :: xs, h => by
    obtain ⟨h1, h2⟩ := and1 (show (isE n N a sc x && isEs n N es sc xs) = true from h)
    obtain ⟨g1, g2⟩ := isEs_good es sc xs h2
    refine ⟨fun y hy => ?_, by rw [List.length_cons, g2]; rfl⟩
    rcases List.mem_cons.mp hy with rfl | hy
    · exact isE_good a sc _ h1
    · exact g1 y hy
theorem good_stars (pos : Pos) (env : PySem.Env) : ∀ (xs : List Expr), (∀ x ∈ xs, badE x = false) → (PySem.backTo pos (PySem.starEach xs env)).any (·.1) = false
  | [], _ => rfl
  | x :: xs, h => by
    rw [good_star (h x List.mem_cons_self)]
    show (false || (PySem.backTo pos (PySem.starEach xs env)).any (·.1)) = false
    rw [Bool.false_or]
    exact good_stars pos env xs fun y hy => h y (List.mem_cons_of_mem _ hy)
end
end Z

/-! Z3r: t[::-1] of a tuple. -/
namespace Z
open PySem PySem.Spec L2 PyProof.Rows HT
section
variable {prog : Program} {w : World} {A : Around} {E : Value → Shared → Prop} {s : Shared}
theorem rev_places (m : Nat) : Builtin.Slice.slicePlaces ((m : Int) - 1) (-1) (-1) = m := by
  unfold Builtin.Slice.slicePlaces
  rw [if_neg (by decide)]
  have e : -(-1 : Int) = 1 := by decide
  rw [e]
  by_cases h : (m : Int) - 1 > -1
  · rw [if_pos h, Int.ediv_one]; omega
  · rw [if_neg h]
    have : m = 0 := by omega
    rw [this]; rfl
theorem rev_pick (xs : Array Value) : ((List.range xs.size).filterMap fun (k : Nat) => xs[((xs.size : Int) - 1 + (k : Int) * (-1)).toNat]?).toArray = xs.toList.reverse.toArray := by
  congr 1
  have e : (fun (k : Nat) => xs[((xs.size : Int) - 1 + (k : Int) * (-1)).toNat]?) = fun k => (xs[·]?) ((fun k => xs.size - 1 - k) k) := by
    funext k
    have : ((xs.size : Int) - 1 + (k : Int) * (-1)).toNat = xs.size - 1 - k := by omega
    rw [this]
  rw [e, show (fun k => (fun x => xs[x]?) ((fun k => xs.size - 1 - k) k)) = (fun x : Nat => xs[x]?) ∘ (fun k => xs.size - 1 - k) from rfl, ← List.filterMap_map, PySem.W.krv_range, List.filterMap_reverse, PySem.W.krv_all]
theorem sliceApplied_rev {sl : Addr} {vk : Value} {m : Nat} {Q : Int × Int × Nat → Shared → Prop} (hs : s.heap.IsSliceOf sl .none .none vk) (pk : IsPart vk (some (-1)))
    (h : Q ((m : Int) - 1, -1, m) s) : wpAny (model prog w) A (Builtin.Slice.sliceApplied (.ref sl) (pure (m : Int))) Q E s := by
  obtain ⟨os, hos, hcs, hds⟩ := id hs
  unfold Builtin.Slice.sliceApplied Builtin.Slice.sliceFields
  refine wpAny_bind (wpAny_bind (wpAny_field hos hds (x := .none) rfl (wpAny_bind (wpAny_field hos hds (x := .none) rfl (wpAny_bind (wpAny_field hos hds (x := vk) rfl (wpAny_pure ?_)))))))
  refine wpAny_bind (slicePart_ pk ?_)
  show wpAny _ _ (if ((-1 : Int) == 0) = true then _ else _) _ _ s
  rw [if_neg (by decide)]
  refine wpAny_bind (slicePart_none (wpAny_bind (slicePart_none (wpAny_bind (wpAny_pure ?_)))))
  show wpAny _ _ (match Builtin.Slice.sliceAdjust none none (-1) (m : Int) with | (lo, hi) => pure (lo, (-1 : Int), Builtin.Slice.slicePlaces lo hi (-1))) _ _ s
  show wpAny _ _ (pure ((m : Int) - 1, (-1 : Int), Builtin.Slice.slicePlaces ((m : Int) - 1) (-1) (-1))) _ _ s
  rw [rev_places]
  exact wpAny_pure h
theorem getItem_tuple_rev {t sl : Addr} {items : Array Value} {vk : Value} {Q : Value → Shared → Prop} (ht : IsTup s.heap t items) (hs : s.heap.IsSliceOf sl .none .none vk) (pk : IsPart vk (some (-1)))
    (h : Q (.ref s.heap.objs.size) { s with heap := s.heap.push { cls := .type "tuple", data := .seq items.toList.reverse.toArray } })
    (hsz : items.size ≤ sizeLine) : wpAny (model prog w) A (getItem (.ref t) (.ref sl)) Q E s := by
  have htake : sizeOk (.seq items.toList.reverse.toArray) := by
    show items.toList.reverse.toArray.size ≤ sizeLine
    rw [List.size_toArray, List.length_reverse, Array.length_toList]
    exact hsz
  obtain ⟨os, hos, hcs, hds⟩ := id hs
  have hTs : s.TypeIs (.ref sl) "slice" := ⟨os, hos, hcs⟩
  unfold getItem
  try with_reducible refine wpAny_holding ?_
  first | refine wpAny_bind (wpAny_pure ?_) | skip
  refine wpAny_bind (wpAny_sequenceKey ht.typeIs (by decide) ?_)
  refine wpAny_bind (wpAny_callSpecial?_slot (name := Str.ofString "__getitem__") ht.typeIs PyProof.Rows.slot_tuple_getitem
    (wpAny_call_entry PyProof.Rows.slot_tuple_getitem ht.typeIs entry_tuple_getitem ?_ (args_tuple_getitem _ _)))
  show wpAny _ _ (Builtin.Tuple.tupleItemsOf (.ref t) >>= _) _ _ s
  refine wpAny_bind (tupleItemsOf_ ht ?_)
  refine wpAny_bind (wpAny_typeOf hTs ?_)
  rw [if_pos (by decide)]
  refine wpAny_bind (sliceApplied_rev (m := items.size) hs pk ?_)
  show wpAny _ _ (if (((items.size : Int) - 1) == 0 && (-1 : Int) == 1 && items.size == items.size) = true then _ else _) _ _ s
  rw [if_neg (by simp), rev_pick]
  first
    | exact wpAny_bind (m := Builtin.Tuple.tupleExact _) (wpAny_newObj_type (wpAny_pure ⟨_, rfl, wpAny_pure h⟩) htake)
    | exact wpAny_bind (m := Builtin.Tuple.tupleExact _) (wpAny_newObj_type (wpAny_bind (wpAny_pure (wpAny_pure ⟨_, rfl, wpAny_pure h⟩))) htake)
    | exact wpAny_bind (wpAny_bind (m := Builtin.Tuple.tupleExact _) (wpAny_newObj_type (wpAny_pure (wpAny_pure ⟨_, rfl, wpAny_pure h⟩)) htake))
    | exact wpAny_bind (wpAny_bind (m := Builtin.Tuple.tupleExact _) (wpAny_newObj_type (wpAny_pure ⟨_, rfl, wpAny_pure h⟩) htake))
end
/-- l[::-1], t[::-1] -/
def tRevA (K : PySem.W.Frag) (te : TE) : TE := fun σ H Q => te σ H fun x H1 => ∃ a xs, x = .ref a ∧ ((SqL K H1 a xs ∧ ∀ p, H1 p = none → Q (.ref p) (upd H1 p (.lst xs.reverse))) ∨ (SqT K H1 a xs ∧ ∀ p, H1 p = none → Q (.ref p) (upd H1 p (.tup xs.reverse))))
theorem pe_revA {X : Cx} {e : Expr} {te : TE} {k : Nat} {p1 p2 p3 pos : Pos} (he : PE X e te) : PE X (.Subscript e (.Slice none none (some (.UnaryOp .USub (.Constant (.int 1) k p1) p2)) p3) pos) (tRevA X.K te) := by
  refine ⟨fun pins s σ H Q I h => ?_⟩
  refine Subscript_ (thn (he.run pins s σ H _ I h) fun v s1 ⟨x, H1, I1, r1, q1⟩ => ?_)
  obtain ⟨a, xs, ex, q⟩ := q1
  subst ex
  cases r1
  have hst : PO X (some (.UnaryOp .USub (.Constant (.int 1) k p1) p2)) (tPart (tUn (rU fun i => .int (-i)) (tC (.int 1)))) := po_some (pe_un un_neg pe_int)
  refine wpAny_Slice (thn (po_none.run pins s1 σ H1 (fun o H2 => o = none ∧ H2 = H1) I1 ⟨rfl, rfl⟩) fun vl s2 ⟨l, H2, I2, pl, el, e2⟩ => ?_)
  subst el e2
  refine thn (po_none.run pins s2 σ H2 (fun o H3 => o = none ∧ H3 = H2) I2 ⟨rfl, rfl⟩) fun vu s3 ⟨u, H3, I3, pu, eu, e3⟩ => ?_
  subst eu e3
  refine thn (hst.run pins s3 σ H3 (fun o H4 => o = some (-1) ∧ H4 = H3) I3 ⟨1, rfl, -1, rfl, rfl, rfl⟩) fun vs s4 ⟨o, H4, I4, ps, eo, e4⟩ => ?_
  subst eo e4
  have I5 : Inv X pins σ H4 { s4 with heap := s4.heap.push { cls := .type "slice", data := .fields #[vl, vu, vs] } } := I4.kept (t' := s4.toks) fun b ob q => Heap.get?_push_of_some _ q
  show wpAny (model X.prog X.w) X.A (subscriptTail e (.Slice none none (some (.UnaryOp .USub (.Constant (.int 1) k p1) p2)) p3) (.ref a) (.ref s4.heap.objs.size)) (EP X pins σ Q) X.xe { s4 with heap := s4.heap.push { cls := .type "slice", data := .fields #[vl, vu, vs] } }
  rcases q with ⟨hx, q⟩ | ⟨hx, q⟩
  · obtain ⟨its, r, ht, hz⟩ := I5.list hx
    have hlen := r.length
    refine tail_any (ops := [.ref a, .ref s4.heap.objs.size]) ht.isList.typeIs (PySem.slot_list_getitem.lookup) ?_ (by with_unfolding_all rfl)
    refine wpAny_getItem_list_slice ht.isList (Heap.IsSliceOf.new _ vl vu vs) pl pu ps (by decide) ?_ (by rw [List.size_toArray]; omega)
    rw [PySem.W.krv_pick]
    refine ⟨.ref _, _, I5.laid (t' := s4.toks) (o := .lst xs.reverse) (fun b ob q => Heap.get?_push_of_some _ q) (Nat.le_refl _) ?_, rfl, q _ (I5.hok.fresh (Nat.le_refl _))⟩
    exact ⟨by rw [List.length_reverse]; exact hz, _, 0, r.reverse, Heap.get?_push_size _ rfl⟩
  · cases pl
    cases pu
    obtain ⟨its, r, ht, hz⟩ := I5.tuple hx
    have hlen := r.length
    refine tail_any (ops := [.ref a, .ref s4.heap.objs.size]) ht.typeIs (PyProof.Rows.slot_tuple_getitem.lookup) ?_ (by with_unfolding_all rfl)
    refine getItem_tuple_rev ht (Heap.IsSliceOf.new _ .none .none vs) ps ?_ (by rw [List.size_toArray]; omega)
    refine ⟨.ref _, _, I5.laid (t' := s4.toks) (o := .tup xs.reverse) (fun b ob q => Heap.get?_push_of_some _ q) (Nat.le_refl _) ?_, rfl, q _ (I5.hok.fresh (Nat.le_refl _))⟩
    exact ⟨by rw [List.length_reverse]; exact hz, _, r.reverse, IsTup.new _ _⟩
end Z

/-! Z3d: each form of expression keeps what the evaluator says; loops and calls apart. -/
namespace Z
open PySem PySem.Spec L2

section
variable {n : Nm} {X : Cx} {p : Addr} {T : Nat → Fn} {W : WX}
/-! ### peeking at slots -/
theorem getD_get {e : Env} {i : Nat} {c : Cl} (h : e.getD i .no = c) (hc : c ≠ .no) : e[i]? = some c := by
  unfold List.getD at h
  cases q : e[i]? with
  | none => rw [q] at h; exact absurd h.symm hc
  | some d => rw [q] at h; exact congrArg some h
/-- a slot's value as it lies now, and where its items are fixed -/
theorem peek_sh {F H : Hp} {σ : St} {e : Env} {i : Nat} {d : D} (S : Stt n X.K X.mg p F σ H e) (h : peek i e = some d) : ∃ v, σ[i]? = some (some v) ∧ Sh n X F H v d := by
  unfold peek at h
  cases q : e.getD i .no with
  | no => rw [q] at h; cases h
  | dat c =>
    rw [q] at h
    cases h
    obtain ⟨v, h1, h2⟩ := S.dat i d (getD_get q (fun z => nomatch z))
    exact ⟨v, h1, Sh.of S.sub h2⟩
  | own k ds =>
    rw [q] at h
    cases h
    obtain ⟨a, vs, h1, h2, h3, h4, h5, _⟩ := S.own i k ds (getD_get q (fun z => nomatch z))
    exact ⟨_, h1, a, vs, rfl, .inl (.inl h2), h4, h5⟩
theorem liftC_ok {F H : Hp} {σ : St} {e : Env} {o : Option Cl} {k : Hp → Hp → Env → Cl → Prop} (h : Out n X.K X.mg p W σ F H e (R.liftC o e) k) : ∃ c, o = some c ∧ Out n X.K X.mg p W σ F H e (.ok c e) k ∧ (∀ b ds, c = .own b ds → b = false) ∧ c ≠ .no := by
  cases o with
  | none => exact h.elim
  | some c =>
    cases c with
    | no => exact h.elim
    | dat d => exact ⟨_, rfl, h, (fun _ _ z => nomatch z), (fun z => nomatch z)⟩
    | own b ds =>
      cases b with
      | true => exact h.elim
      | false => exact ⟨_, rfl, h, (fun _ _ z => by cases z; rfl), (fun z => nomatch z)⟩
/-- behind a step the earlier values stand -/
theorem Step.up {F H F' H' : Hp} {P P' : Addr → Prop} {v : V} {d : D} (s : Step F H P F' H' P') (h : Rp n X.K X.mg F v d) : Rp n X.K X.mg F' v d := h.up s.ext

/-! ### names and constants -/
theorem e_var {i : Nat} {x : Str} {pos : Pos} (h : okV X.N X.env.scope i x = true) : PE X (.Name x pos) (tE n X.K X.mg p T W (.var i)) := by
  obtain ⟨h, h4⟩ := and1 h
  obtain ⟨h, h3⟩ := and1 h
  obtain ⟨h1, h2⟩ := and1 h
  have hv : Vis X.env.scope x := by
    unfold visB at h2
    split at h2 <;> first | (exact .inl (by assumption)) | (exact .inr (.inl (by assumption))) | (exact .inr (.inr (by assumption))) | cases h2
  refine weakE (pe_var (of_decide_eq_true h1) hv (by simpa using h3) (by simpa using h4)) fun σ H Q ⟨F, e, S, q⟩ => ?_
  have q' : Out n X.K X.mg p W σ F H e (readV i e) _ := q
  unfold readV at q'
  cases g : e.getD i .no with
  | no => rw [g] at q'; exact q'.elim
  | dat d =>
    rw [g] at q'
    obtain ⟨v, a1, a2⟩ := S.dat i d (getD_get g (fun z => nomatch z))
    exact ⟨v, a1, Out.here S q' v a2⟩
  | own k ds =>
    rw [g] at q'
    cases k with
    | true => exact q'.elim
    | false =>
      have gi := getD_get g (fun z => nomatch z)
      obtain ⟨a, vs, a1, a2, a3, a4, a5, _⟩ := S.own i false ds gi
      refine ⟨_, a1, ?_⟩
      have hi : i < e.length := (List.getElem?_eq_some_iff.mp gi).1
      have ho : owns σ e a := ⟨i, false, ds, gi, a1⟩
      -- the slot becomes data
      have noi : ¬ owns σ (e.set i (.dat (.lst ds))) a := fun ⟨j, l, es, b1, b2⟩ => by
        by_cases hj : j = i
        · subst hj
          rw [List.getElem?_set_self hi] at b1
          cases b1
        · rw [List.getElem?_set_ne (Ne.symm hj)] at b1
          exact hj (S.apart j i l false es ds a b1 gi b2 a1)
      have rp : Rp n X.K X.mg (upd F a (.lst vs)) (.ref a) (.lst ds) := .lst (.inl (.inl upd_same)) a4 (a5.up fun b o z => by rw [upd_ne (ne_of_none z a3)]; exact z)
      refine q' (upd F a (.lst vs)) H ⟨fun b o z => by rw [upd_ne (ne_of_none z a3)]; exact z, fun b o z => ?_, fun b o z _ => z, fun b ⟨j, l, es, b1, b2⟩ => ?_⟩ ⟨fun b o z => ?_, by rw [List.length_set]; exact S.len, fun j d z => ?_, fun j l es z => ?_, fun j m l l' es es' c z1 z2 z3 z4 => ?_⟩ _ rp
      · by_cases hb : b = a
        · subst hb; exact .inr (.inr ho)
        · rw [upd_ne hb] at z; exact .inl ⟨o, z⟩
      · by_cases hj : j = i
        · subst hj; rw [List.getElem?_set_self hi] at b1; cases b1
        · rw [List.getElem?_set_ne (Ne.symm hj)] at b1; exact .inl ⟨j, l, es, b1, b2⟩
      · by_cases hb : b = a
        · subst hb; rw [upd_same] at z; cases z; exact a2
        · rw [upd_ne hb] at z; exact S.sub b o z
      · by_cases hj : j = i
        · subst hj
          rw [List.getElem?_set_self hi] at z
          cases z
          exact ⟨_, a1, rp⟩
        · rw [List.getElem?_set_ne (Ne.symm hj)] at z
          obtain ⟨v, c1, c2⟩ := S.dat j d z
          exact ⟨v, c1, c2.up fun b o z => by rw [upd_ne (ne_of_none z a3)]; exact z⟩
      · by_cases hj : j = i
        · subst hj
          rw [List.getElem?_set_self hi] at z
          cases z
        · have z' := z
          rw [List.getElem?_set_ne (Ne.symm hj)] at z
          obtain ⟨c, us, c1, c2, c3, c4, c5, c6⟩ := S.own j l es z
          have hc : c ≠ a := fun y => hj (S.apart j i l false es ds a z gi (y ▸ c1) a1)
          exact ⟨c, us, c1, c2, by rw [upd_ne hc]; exact c3, c4, c5.up fun b o z => by rw [upd_ne (ne_of_none z a3)]; exact z, c6⟩
      · have f1 : ∀ (m : Nat) (es : List D) (l : Bool), (e.set i (.dat (.lst ds)))[m]? = some (Cl.own l es) → e[m]? = some (Cl.own l es) := fun m es l z => by
          by_cases hm : m = i
          · subst hm; rw [List.getElem?_set_self hi] at z; cases z
          · rw [List.getElem?_set_ne (Ne.symm hm)] at z; exact z
        exact S.apart j m l l' es es' c (f1 _ _ _ z1) (f1 _ _ _ z2) z3 z4
theorem e_lit {d : D} {c : Const} {j : Nat} {pos : Pos} (h : isLit d c = true) : PE X (.Constant c j pos) (tE n X.K X.mg p T W (.lit d)) := by
  have go : ∀ v, Rp n X.K X.mg (fun _ => none) v d → ∀ σ H Q, tE n X.K X.mg p T W (.lit d) σ H Q → tC v σ H Q := fun v hv σ H Q ⟨F, e, S, q⟩ =>
    Out.here S (show Out n X.K X.mg p W σ F H e (.ok (Cl.dat d) e) _ from q) v (hv.up fun _ _ z => by cases z)
  cases d <;> cases c <;> first | (exact absurd h Bool.false_ne_true) | skip
  · exact weakE pe_non (go .non .non)
  · rename_i a b
    obtain rfl : a = b := by simpa [isLit] using h
    exact weakE pe_bl (go (.bl a) (.bl a))
  · rename_i a b
    obtain rfl : a = b := of_decide_eq_true h
    exact weakE pe_int (go (.int a) (.int a))
  · rename_i a b
    obtain rfl : a = b := of_decide_eq_true h
    exact weakE pe_str (go (.str a) (.str a))

/-! ### what a def promises, by the evaluator's function -/
/-- a call's value: data, or a new list -/
def RV (n : Nm) (K : PySem.W.Frag) (mg : Str → Option Value) (H F' H' : Hp) (pa : Option Addr) (c : Cl) (v : V) : Prop := match c with
  | .no => False
  | .dat d => Rp n K mg F' v d
  | .own k es => k = false ∧ ∃ a us, v = .ref a ∧ H' a = some (.lst us) ∧ F' a = none ∧ us.length ≤ sizeLine ∧ Rps n K mg F' us es ∧ pa ≠ some a ∧ H a = none
/-- the borrowed list behind a call -/
def PoolIs (n : Nm) (K : PySem.W.Frag) (mg : Str → Option Value) (F' H' : Hp) (pa : Option Addr) (q : List D) : Prop :=
  ∀ a, pa = some a → ∃ ws, H' a = some (.lst ws) ∧ F' a = none ∧ ws.length ≤ sizeLine ∧ Rps n K mg F' ws q
/-- what follows a call's end -/
def spK (n : Nm) (K : PySem.W.Frag) (mg : Str → Option Value) (F H : Hp) (pa : Option Addr) (Q : VK) (E : XK) (r : FR) : Prop := match r with
  | .ok c q' => ∀ F' H' v, Step F H (fun b => pa = some b) F' H' (fun b => pa = some b) → (∀ b o, F' b = some o → H' b = some o) → PoolIs n K mg F' H' pa q' → RV n K mg H F' H' pa c v → Q v H'
  | .ex x q' => n.px x = true ∧ ∀ F' H', Step F H (fun b => pa = some b) F' H' (fun b => pa = some b) → (∀ b o, F' b = some o → H' b = some o) → PoolIs n K mg F' H' pa q' → ∀ C, mg (n.nx x) = some (.ref C) → E (.ref C) none H'
  | .no => False
def spF (n : Nm) (K : PySem.W.Frag) (mg : Str → Option Value) (g : Fn) : Sp := fun vs H Q E => ∃ (F : Hp) (dv : List V) (ds : List D), (∀ b o, F b = some o → H b = some o) ∧ Rps n K mg F dv ds ∧
  ((vs = dv ∧ spK n K mg F H none Q E (g none ds)) ∨
   ∃ a ws q, vs = .ref a :: dv ∧ H a = some (.lst ws) ∧ F a = none ∧ ws.length ≤ sizeLine ∧ Rps n K mg F ws q ∧ spK n K mg F H (some a) Q E (g (some q) ds))
/-- what a context must hold -/
structure Gd (n : Nm) (T : Nat → Fn) (k : Nat) (X : Cx) : Prop where
  calm : X.calm = true
  nd : X.N.Nodup
  room : Room k X.A
  blt : ∀ x ∈ bltNames, X.mg x = none
  glv : ∀ i d, n.gv i = some d → ∃ u v, X.mg (n.ng i) = some u ∧ RelV v u ∧ ∀ F, Rp n X.K X.mg F v d
  fns : ∀ f, n.pr f = true → ∃ a fd ps, X.mg (n.nf f) = some (.ref a) ∧ PySem.W.keepIn X.K (.ref a) = true ∧ Binds X.K fd ps [] ∧ FnOk X.prog X.w X.K X.mg X.base (L2.CX X.prog X.w) k a fd ps (spF n X.K X.mg (T f))
theorem Gd.hu {k : Nat} (g : Gd n T k X) : X.A.units + 65 < cLine := by have := g.room.un; omega
theorem gl_of {x : Str} (h : okG X.env.scope x = true) : Gl X x ∧ (x == ("__debug__" : Str)) = false ∧ x ≠ ("__name__" : Str) := by
  obtain ⟨h, h3⟩ := and1 h
  obtain ⟨h1, h2⟩ := and1 h
  exact ⟨(of_decide_eq_true h1 : X.env.scope.names.lookup x = some .globalImplicit), by simpa using h2, of_decide_eq_true h3⟩
theorem e_gc {k c : Nat} {x : Str} {pos : Pos} (g : Gd n T k X) (h1 : n.ng c = x) (h2 : okG X.env.scope x = true) : PE X (.Name x pos) (tE n X.K X.mg p T W (.gc c)) := by
  subst h1
  obtain ⟨a1, a2, a3⟩ := gl_of h2
  cases e : n.gv c with
  | none =>
    refine ⟨fun pins s σ H Q I h => ?_⟩
    obtain ⟨F, en, S, q⟩ := h
    have q' : Out n X.K X.mg p W σ F H en (R.lift ((n.gv c).map Cl.dat) en) _ := q
    rw [e] at q'
    exact q'.elim
  | some d =>
    obtain ⟨u, v, b1, b2, b3⟩ := g.glv c d e
    refine weakE (pe_glob a1 b1 b2 a2) fun σ H Q ⟨F, en, S, q⟩ => ?_
    have q' : Out n X.K X.mg p W σ F H en (R.lift ((n.gv c).map Cl.dat) en) _ := q
    rw [e] at q'
    exact Out.here S (show Out n X.K X.mg p W σ F H en (.ok (Cl.dat d) en) _ from q') v (b3 F)
theorem e_fnm {k f : Nat} {x : Str} {pos : Pos} (g : Gd n T k X) (h1 : n.nf f = x) (h3 : n.pr f = true) (h2 : okG X.env.scope x = true) : PE X (.Name x pos) (tE n X.K X.mg p T W (.fnm f)) := by
  subst h1
  obtain ⟨a1, a2, a3⟩ := gl_of h2
  obtain ⟨a, fd, ps, b1, _⟩ := g.fns f h3
  exact weakE (pe_glob (v := .ref a) a1 b1 rfl a2) fun σ H Q ⟨F, en, S, q⟩ => Out.here S (show Out n X.K X.mg p W σ F H en (.ok (Cl.dat (.fn f)) en) _ from q) _ (.fn b1)

/-! ### operators -/
variable {a b c : E} {x y z : Expr} {pos : Pos}
theorem e_bin {o : Operator} (ha : PE X x (tD n X.K X.mg p T W a)) (hb : PE X y (tD n X.K X.mg p T W b)) : PE X (.BinOp x o y pos) (tE n X.K X.mg p T W (.bin o a b)) := by
  refine weakE (pe_op (op_bin (n := n) o) ha hb) fun σ H Q ⟨F, e, S, q⟩ => ?_
  refine ⟨F, e, S, (Out.bind q).mono fun F1 H1 e1 d1 ⟨s1, S1, q1⟩ v1 r1 => ?_⟩
  refine ⟨F1, e1, S1, (Out.bind q1).mono fun F2 H2 e2 d2 ⟨s2, S2, q2⟩ v2 r2 => ?_⟩
  obtain ⟨c, hc, q3, hk, hn⟩ := liftC_ok q2
  exact ⟨F2, d1, d2, c, S2.sub, Sh.of S2.sub (s2.up r1), Sh.of S2.sub r2, hc, res_of (s1.trans s2) S2 q3 hk hn⟩
theorem e_neg (ha : PE X x (tD n X.K X.mg p T W a)) : PE X (.UnaryOp .USub x pos) (tE n X.K X.mg p T W (.neg a)) := by
  refine weakE (pe_un un_neg ha) fun σ H Q ⟨F, e, S, q⟩ => ?_
  refine ⟨F, e, S, (Out.bind q).mono fun F1 H1 e1 d1 ⟨s1, S1, q1⟩ v1 r1 => ?_⟩
  cases d1 <;> first | (exact q1.elim) | skip
  cases r1
  exact ⟨_, rfl, Out.here S1 q1 _ (.int _)⟩
theorem tB_of (ha : PE X x (tD n X.K X.mg p T W a)) : PE X x (fun σ H Q => ∃ F e, Stt n X.K X.mg p F σ H e ∧ Out n X.K X.mg p W σ F H e (truth (data (ev T n.gv a e))) fun F' H' e' b => Q (.bl b) H') := by
  refine weakE ha fun σ H Q ⟨F, e, S, q⟩ => ?_
  refine ⟨F, e, S, (Out.bind q).mono fun F1 H1 e1 d1 ⟨s1, S1, q1⟩ v1 r1 => ?_⟩
  cases d1 <;> first | (exact q1.elim) | skip
  cases r1
  exact Out.here S1 q1
theorem e_not (ha : PE X x (tD n X.K X.mg p T W a)) : PE X (.UnaryOp .Not x pos) (tE n X.K X.mg p T W (.not a)) := by
  refine weakE (pe_not (tB_of ha)) fun σ H Q ⟨F, e, S, q⟩ => ?_
  exact ⟨F, e, S, (Out.bind q).mono fun F1 H1 e1 b ⟨s1, S1, q1⟩ => ⟨b, rfl, Out.here S1 q1 _ (.bl _)⟩⟩
theorem e_and_core {t : TE} (ha : PE X x (tD n X.K X.mg p T W a)) (hy : PE X y (tD n X.K X.mg p T W b)) (hp : ∀ tb, PE X y tb → PE X z (tAndV (fun σ H Q => ∃ F e, Stt n X.K X.mg p F σ H e ∧ Out n X.K X.mg p W σ F H e (truth (data (ev T n.gv a e))) fun F' H' e' b => Q (.bl b) H') tb)) : PE X z (tE n X.K X.mg p T W (.and a b)) := by
  refine weakE (hp _ hy) fun σ H Q ⟨F, e, S, q⟩ => ?_
  refine ⟨F, e, S, (Out.bind q).mono fun F1 H1 e1 b ⟨s1, S1, q1⟩ => ⟨b, rfl, ?_⟩⟩
  cases b with
  | true =>
    rw [if_pos rfl] at q1 ⊢
    exact ⟨F1, e1, S1, (Out.bind q1).mono fun F2 H2 e2 d2 ⟨s2, S2, q2⟩ v2 r2 => Out.here S2 q2 _ r2⟩
  | false =>
    rw [if_neg (by decide)] at q1 ⊢
    exact Out.here S1 q1 _ (.bl _)
theorem e_or_core (ha : PE X x (tD n X.K X.mg p T W a)) (hy : PE X y (tD n X.K X.mg p T W b)) (hp : ∀ tb, PE X y tb → PE X z (tOrV (fun σ H Q => ∃ F e, Stt n X.K X.mg p F σ H e ∧ Out n X.K X.mg p W σ F H e (truth (data (ev T n.gv a e))) fun F' H' e' b => Q (.bl b) H') tb)) : PE X z (tE n X.K X.mg p T W (.or a b)) := by
  refine weakE (hp _ hy) fun σ H Q ⟨F, e, S, q⟩ => ?_
  refine ⟨F, e, S, (Out.bind q).mono fun F1 H1 e1 b ⟨s1, S1, q1⟩ => ⟨b, rfl, ?_⟩⟩
  cases b with
  | true =>
    rw [if_pos rfl] at q1 ⊢
    exact Out.here S1 q1 _ (.bl _)
  | false =>
    rw [if_neg (by decide)] at q1 ⊢
    exact ⟨F1, e1, S1, (Out.bind q1).mono fun F2 H2 e2 d2 ⟨s2, S2, q2⟩ v2 r2 => Out.here S2 q2 _ r2⟩
theorem r_cmp {o : CmpOp} : ∀ σ H Q, tE n X.K X.mg p T W (.cmp o a b) σ H Q → (tOp (rCmp n X o) (tD n X.K X.mg p T W a) (tD n X.K X.mg p T W b)) σ H Q := by
  intro σ H Q ⟨F, e, S, q⟩
  refine ⟨F, e, S, (Out.bind q).mono fun F1 H1 e1 d1 ⟨s1, S1, q1⟩ v1 r1 => ?_⟩
  refine ⟨F1, e1, S1, (Out.bind q1).mono fun F2 H2 e2 d2 ⟨s2, S2, q2⟩ v2 r2 => ?_⟩
  obtain ⟨c, hc, q3⟩ := Out.lift S2 q2
  cases hd : cmpD o d1 d2 with
  | none => rw [hd] at hc; cases hc
  | some b =>
    rw [hd] at hc
    cases hc
    exact ⟨F2, d1, d2, b, S2.sub, Sh.of S2.sub (s2.up r1), Sh.of S2.sub r2, hd, Out.here S2 q3 _ (.bl _)⟩
theorem e_cmp {k : Nat} {o : CmpOp} (g : Gd n T k X) (ha : PE X x (tD n X.K X.mg p T W a)) (hb : PE X y (tD n X.K X.mg p T W b)) (hm : behindInMarks o y = false) : PE X (.Compare x [o] [y] pos) (tE n X.K X.mg p T W (.cmp o a b)) := by
  exact weakE (pe_cmpR (op_cmp (n := n) o g.hu) ha hb hm) r_cmp
theorem r_vcl {o : CmpOp} {i : Nat} : ∀ σ H Q, tE n X.K X.mg p T W (.vcl o i b) σ H Q → (tOp (rCmp n X o) (tVar i) (tD n X.K X.mg p T W b)) σ H Q := by
  intro σ H Q ⟨F, e, S, q⟩
  obtain ⟨d0, hd0, q0⟩ := Out.lift S (Out.bind q)
  obtain ⟨v, hv', _⟩ := peek_sh S hd0
  have q1 := (Out.here S q0).2.2
  refine ⟨v, hv', F, e, S, (Out.bind q1).mono fun F2 H2 e2 d2 ⟨s2, S2, q2⟩ v2 r2 => ?_⟩
  obtain ⟨c, hc, q3⟩ := Out.lift S2 q2
  cases hp : peek i e2 with
  | none => rw [hp] at hc; cases hc
  | some d1 =>
    rw [hp] at hc
    have hc' : (cmpD o d1 d2).map (fun c => Cl.dat (.bl c)) = some c := hc
    cases hd : cmpD o d1 d2 with
    | none => rw [hd] at hc'; cases hc'
    | some b =>
      rw [hd] at hc'
      cases hc'
      obtain ⟨w', g1, g2⟩ := peek_sh S2 hp
      rw [hv'] at g1
      cases g1
      exact ⟨F2, d1, d2, b, S2.sub, g2, Sh.of S2.sub r2, hd, Out.here S2 q3 _ (.bl _)⟩
theorem e_vcl {k : Nat} {o : CmpOp} {i : Nat} {w : Str} {p1 : Pos} (g : Gd n T k X) (h : okV X.N X.env.scope i w = true) (hb : PE X y (tD n X.K X.mg p T W b)) (hm : behindInMarks o y = false) : PE X (.Compare (.Name w p1) [o] [y] pos) (tE n X.K X.mg p T W (.vcl o i b)) := by
  obtain ⟨h, h4⟩ := and1 h
  obtain ⟨h, h3⟩ := and1 h
  obtain ⟨h1, h2⟩ := and1 h
  have hv : Vis X.env.scope w := by
    unfold visB at h2
    split at h2 <;> first | (exact .inl (by assumption)) | (exact .inr (.inl (by assumption))) | (exact .inr (.inr (by assumption))) | cases h2
  exact weakE (pe_cmpR (op_cmp (n := n) o g.hu) (pe_var (i := i) (of_decide_eq_true h1) hv (by simpa using h3) (by simpa using h4)) hb hm) r_vcl
theorem pe_slot {i : Nat} {w : Str} {p1 : Pos} (h : okV X.N X.env.scope i w = true) : PE X (.Name w p1) (tVar i) := by
  obtain ⟨h, h4⟩ := and1 h
  obtain ⟨h, h3⟩ := and1 h
  obtain ⟨h1, h2⟩ := and1 h
  have hv : Vis X.env.scope w := by
    unfold visB at h2
    split at h2 <;> first | (exact .inl (by assumption)) | (exact .inr (.inl (by assumption))) | (exact .inr (.inr (by assumption))) | cases h2
  exact pe_var (i := i) (of_decide_eq_true h1) hv (by simpa using h3) (by simpa using h4)
theorem r_vcr {o : CmpOp} {i : Nat} : ∀ σ H Q, tE n X.K X.mg p T W (.vcr o a i) σ H Q → (tOp (rCmp n X o) (tD n X.K X.mg p T W a) (tVar i)) σ H Q := by
  intro σ H Q ⟨F, e, S, q⟩
  refine ⟨F, e, S, (Out.bind q).mono fun F1 H1 e1 d1 ⟨s1, S1, q1⟩ v1 r1 => ?_⟩
  obtain ⟨c, hc, q3⟩ := Out.lift S1 q1
  cases hp : peek i e1 with
  | none => rw [hp] at hc; cases hc
  | some d2 =>
    rw [hp] at hc
    have hc' : (cmpD o d1 d2).map (fun c => Cl.dat (.bl c)) = some c := hc
    cases hd : cmpD o d1 d2 with
    | none => rw [hd] at hc'; cases hc'
    | some b =>
      rw [hd] at hc'
      cases hc'
      obtain ⟨w', g1, g2⟩ := peek_sh S1 hp
      exact ⟨w', g1, F1, d1, d2, b, S1.sub, Sh.of S1.sub r1, g2, hd, Out.here S1 q3 _ (.bl _)⟩
theorem e_vcr {k : Nat} {o : CmpOp} {i : Nat} {w : Str} {p1 : Pos} (g : Gd n T k X) (ha : PE X x (tD n X.K X.mg p T W a)) (h : okV X.N X.env.scope i w = true) : PE X (.Compare x [o] [.Name w p1] pos) (tE n X.K X.mg p T W (.vcr o a i)) := by
  exact weakE (pe_cmpR (op_cmp (n := n) o g.hu) ha (pe_slot h) rfl) r_vcr
theorem r_chn {o o' : CmpOp} : ∀ σ H Q, tE n X.K X.mg p T W (.chn o o' a b c) σ H Q → (tChain (rCmp n X o) (rCmp n X o') (tD n X.K X.mg p T W a) (tD n X.K X.mg p T W b) (tD n X.K X.mg p T W c)) σ H Q := by
  intro σ H Q ⟨F, e, S, q⟩
  refine ⟨F, e, S, (Out.bind q).mono fun F1 H1 e1 d1 ⟨s1, S1, q1⟩ v1 r1 => ?_⟩
  refine ⟨F1, e1, S1, (Out.bind q1).mono fun F2 H2 e2 d2 ⟨s2, S2, q2⟩ v2 r2 => ?_⟩
  obtain ⟨k, hk, q3⟩ := Out.lift S2 (Out.bind q2)
  refine ⟨F2, d1, d2, k, S2.sub, Sh.of S2.sub (s2.up r1), Sh.of S2.sub r2, hk, k, rfl, ?_⟩
  have q4 := (Out.here S2 q3).2.2
  cases k with
  | false =>
    rw [if_neg (by decide)] at q4 ⊢
    exact Out.here S2 q4 _ (.bl _)
  | true =>
    rw [if_pos rfl] at q4 ⊢
    refine ⟨F2, e2, S2, (Out.bind q4).mono fun F3 H3 e3 d3 ⟨s3, S3, q5⟩ v3 r3 => ?_⟩
    obtain ⟨m, hm, q6⟩ := Out.lift S3 q5
    cases hd : cmpD o' d2 d3 with
    | none => rw [hd] at hm; cases hm
    | some b =>
      rw [hd] at hm
      cases hm
      exact ⟨F3, d2, d3, b, S3.sub, Sh.of S3.sub (s3.up r2), Sh.of S3.sub r3, hd, Out.here S3 q6 _ (.bl _)⟩
theorem e_chn {k : Nat} {o o' : CmpOp} (g : Gd n T k X) (ha : PE X x (tD n X.K X.mg p T W a)) (hb : PE X y (tD n X.K X.mg p T W b)) (hc : PE X z (tD n X.K X.mg p T W c)) (hm : lastMarks [o, o'] [y, z] = false) : PE X (.Compare x [o, o'] [y, z] pos) (tE n X.K X.mg p T W (.chn o o' a b c)) := by
  exact weakE (pe_chain (op_cmp (n := n) o g.hu) (op_cmp (n := n) o' g.hu) ha hb hc hm) r_chn
theorem e_ite (hc : PT X z (tT n X.K X.mg p T W c)) (ha : PE X x (tD n X.K X.mg p T W a)) (hb : PE X y (tD n X.K X.mg p T W b)) : PE X (.IfExp z x y pos) (tE n X.K X.mg p T W (.ite c a b)) := by
  refine weakE (pe_ifExp hc ha hb) fun σ H Q ⟨F, e, S, q⟩ => ?_
  refine ⟨F, e, S, (Out.bind q).mono fun F1 H1 e1 k ⟨s1, S1, q1⟩ => ?_⟩
  cases k with
  | true =>
    rw [if_pos rfl] at q1 ⊢
    exact ⟨F1, e1, S1, (Out.bind q1).mono fun F2 H2 e2 d2 ⟨s2, S2, q2⟩ v2 r2 => Out.here S2 q2 _ r2⟩
  | false =>
    rw [if_neg (by decide)] at q1 ⊢
    exact ⟨F1, e1, S1, (Out.bind q1).mono fun F2 H2 e2 d2 ⟨s2, S2, q2⟩ v2 r2 => Out.here S2 q2 _ r2⟩

/-! ### argument lists, displays -/
theorem es_nil : PA X [] (tDs n X.K X.mg p T W .nil) := weakA pa_nil fun σ H Q ⟨F, e, S, q⟩ => Out.here S (show Out n X.K X.mg p W σ F H e (.ok ([] : List D) e) _ from q) _ .nil
theorem es_cons {es : Es} {xs : List Expr} (ha : PE X x (tD n X.K X.mg p T W a)) (hr : PA X xs (tDs n X.K X.mg p T W es)) (hx : badE x = false) : PA X (x :: xs) (tDs n X.K X.mg p T W (.cons a es)) := by
  refine weakA (pa_cons ha hr (good_star hx xs X.env)) fun σ H Q ⟨F, e, S, q⟩ => ?_
  refine ⟨F, e, S, (Out.bind q).mono fun F1 H1 e1 d1 ⟨s1, S1, q1⟩ v1 r1 => ?_⟩
  exact ⟨F1, e1, S1, (Out.bind q1).mono fun F2 H2 e2 ds ⟨s2, S2, q2⟩ vs rs => Out.here S2 q2 _ (.cons (s2.up r1) rs)⟩
theorem evs_len : ∀ (es : Es) (e : Env) (ds : List D) (e' : Env), evs T n.gv es e = .ok ds e' → ds.length = es.len
  | .nil, e, ds, e', h => by
    have h' : (R.ok ([] : List D) e) = .ok ds e' := h
    cases h'
    rfl
  | .cons a es, e, ds, e', h => by
    have h' : ((data (ev T n.gv a e)).bind fun x e1 => (evs T n.gv es e1).bind fun ys e2 => R.ok (x :: ys) e2) = .ok ds e' := h
    cases q : data (ev T n.gv a e) with
    | no => rw [q] at h'; cases h'
    | ex y e1 => rw [q] at h'; cases h'
    | ok d e1 =>
      rw [q] at h'
      have h2 : ((evs T n.gv es e1).bind fun ys e2 => R.ok (d :: ys) e2) = .ok ds e' := h'
      cases q2 : evs T n.gv es e1 with
      | no => rw [q2] at h2; cases h2
      | ex y e1 => rw [q2] at h2; cases h2
      | ok ds2 e2 =>
        rw [q2] at h2
        have h3 : R.ok (d :: ds2) e2 = .ok ds e' := h2
        cases h3
        rw [List.length_cons, evs_len es e1 _ _ q2]
        rfl
theorem evs_keep {es : Es} {F H : Hp} {σ : St} {e : Env} {k : Hp → Hp → Env → List D → Prop} (h : Out n X.K X.mg p W σ F H e (evs T n.gv es e) k) : Out n X.K X.mg p W σ F H e (evs T n.gv es e) fun F' H' e' ds => ds.length = es.len ∧ k F' H' e' ds := by
  cases q : evs T n.gv es e with
  | no => rw [q] at h; exact h
  | ex x e' => rw [q] at h; exact h
  | ok ds e' =>
    rw [q] at h
    exact fun F' H' s S => ⟨evs_len es e ds e' q, h F' H' s S⟩
theorem small_lim {m : Nat} (h : m ≤ 1000) : m ≤ sizeLine := Nat.le_trans h (by decide)
theorem e_tup {es : Es} {xs : List Expr} {k : Nat} (h : PA X xs (tDs n X.K X.mg p T W es)) (hl : es.len ≤ 1000) : PE X (.Tuple xs k pos) (tE n X.K X.mg p T W (.tup es)) := by
  refine weakE (pe_tup h) fun σ H Q ⟨F, e, S, q⟩ => ?_
  refine ⟨F, e, S, (evs_keep (Out.bind q)).mono fun F1 H1 e1 ds ⟨hd, s1, S1, q1⟩ vs rs => ?_⟩
  have hz : vs.length ≤ sizeLine := by rw [rs.length, hd]; exact small_lim hl
  refine ⟨hz, fun r hr => ?_⟩
  exact (res_of s1 S1 q1 (fun _ _ z => nomatch z) (fun z => nomatch z)).2 r vs ds hr rfl hz rs
theorem e_lst {es : Es} {xs : List Expr} (h : PA X xs (tDs n X.K X.mg p T W es)) (hl : es.len ≤ 1000) : PE X (.List xs pos) (tE n X.K X.mg p T W (.lst es)) := by
  refine weakE (pe_lst h) fun σ H Q ⟨F, e, S, q⟩ => ?_
  refine ⟨F, e, S, (evs_keep (Out.bind q)).mono fun F1 H1 e1 ds ⟨hd, s1, S1, q1⟩ vs rs => ?_⟩
  have hz : vs.length ≤ sizeLine := by rw [rs.length, hd]; exact small_lim hl
  refine ⟨hz, fun r hr => ?_⟩
  exact (res_of s1 S1 q1 (fun _ _ z => by cases z; rfl) (fun z => nomatch z)) r vs hr hz rs

/-! ### subscripts, slices -/
theorem e_idx (ha : PE X x (tD n X.K X.mg p T W a)) (hb : PE X y (tD n X.K X.mg p T W b)) (hy : badE y = false) : PE X (.Subscript x y pos) (tE n X.K X.mg p T W (.idx a b)) := by
  refine weakE (pe_ix (ix_D (n := n)) ha hb (good_plain hy)) fun σ H Q ⟨F, e, S, q⟩ => ?_
  refine ⟨F, e, S, (Out.bind q).mono fun F1 H1 e1 d1 ⟨s1, S1, q1⟩ v1 r1 => ?_⟩
  refine ⟨F1, e1, S1, (Out.bind q1).mono fun F2 H2 e2 d2 ⟨s2, S2, q2⟩ v2 r2 => ?_⟩
  obtain ⟨c, hc, q3⟩ := Out.lift S2 q2
  cases hd : atD d1 d2 with
  | none => rw [hd] at hc; cases hc
  | some d =>
    rw [hd] at hc
    cases hc
    exact ⟨F2, d1, d2, d, S2.sub, Sh.of S2.sub (s2.up r1), Sh.of S2.sub r2, hd, fun v hv => Out.here S2 q3 v hv⟩
theorem e_vix {i : Nat} {w : Str} {p1 : Pos} (h : okV X.N X.env.scope i w = true) (hb : PE X y (tD n X.K X.mg p T W b)) (hy : badE y = false) : PE X (.Subscript (.Name w p1) y pos) (tE n X.K X.mg p T W (.vix i b)) := by
  refine weakE (pe_ix (ix_D (n := n)) (pe_slot h) hb (good_plain hy)) fun σ H Q ⟨F, e, S, q⟩ => ?_
  obtain ⟨d0, hd0, q0⟩ := Out.lift S (Out.bind q)
  obtain ⟨v, hv', _⟩ := peek_sh S hd0
  have q1 := (Out.here S q0).2.2
  refine ⟨v, hv', F, e, S, (Out.bind q1).mono fun F2 H2 e2 d2 ⟨s2, S2, q2⟩ v2 r2 => ?_⟩
  obtain ⟨c, hc, q3⟩ := Out.lift S2 q2
  cases hp : peek i e2 with
  | none => rw [hp] at hc; cases hc
  | some d1 =>
    rw [hp] at hc
    have hc' : (atD d1 d2).map Cl.dat = some c := hc
    cases hd : atD d1 d2 with
    | none => rw [hd] at hc'; cases hc'
    | some d =>
      rw [hd] at hc'
      cases hc'
      obtain ⟨w', g1, g2⟩ := peek_sh S2 hp
      rw [hv'] at g1
      cases g1
      exact ⟨F2, d1, d2, d, S2.sub, g2, Sh.of S2.sub r2, hd, fun v hv => Out.here S2 q3 v hv⟩
def OeOk (n : Nm) (X : Cx) (p : Addr) (T : Nat → Fn) (W : WX) (o : Oe) (ox : Option Expr) : Prop := o = .non ∧ ox = none ∨ ∃ a x, o = .som a ∧ ox = some x ∧ PE X x (tD n X.K X.mg p T W a)
theorem po_D {o : Oe} {ox : Option Expr} (ho : OeOk n X p T W o ox) :
    ∃ t, PO X ox t ∧ ∀ σ H Q, (∃ F e, Stt n X.K X.mg p F σ H e ∧ Out n X.K X.mg p W σ F H e (evo T n.gv o e) fun F' H' _ l => Q l H') → t σ H Q := by
  rcases ho with ⟨rfl, rfl⟩ | ⟨a, x, rfl, rfl, ha⟩
  · refine ⟨_, po_none, fun σ H Q ⟨F, e, S, q⟩ => ?_⟩
    exact Out.here S (show Out n X.K X.mg p W σ F H e (.ok (none : Option Int) e) _ from q)
  · refine ⟨_, po_some ha, fun σ H Q ⟨F, e, S, q⟩ => ?_⟩
    refine ⟨F, e, S, (Out.bind q).mono fun F1 H1 e1 d1 ⟨s1, S1, q1⟩ v1 r1 => ?_⟩
    cases d1 <;> first | (exact q1.elim) | skip
    cases r1
    exact ⟨_, rfl, Out.here S1 q1⟩
theorem e_slc {lo hi : Oe} {lx hx : Option Expr} {p2 : Pos} (ha : PE X x (tD n X.K X.mg p T W a)) (hl : OeOk n X p T W lo lx) (hh : OeOk n X p T W hi hx) :
    PE X (.Subscript x (.Slice lx hx none p2) pos) (tE n X.K X.mg p T W (.slc a lo hi)) := by
  obtain ⟨tl, hl1, hl2⟩ := po_D hl
  obtain ⟨th, hh1, hh2⟩ := po_D hh
  refine weakE (pe_slice (sl_D (n := n)) ha hl1 hh1) fun σ H Q ⟨F, e, S, q⟩ => ?_
  refine ⟨F, e, S, (Out.bind q).mono fun F1 H1 e1 d1 ⟨s1, S1, q1⟩ v1 r1 => ?_⟩
  refine hl2 σ H1 _ ⟨F1, e1, S1, (Out.bind q1).mono fun F2 H2 e2 l ⟨s2, S2, q2⟩ => ?_⟩
  refine hh2 σ H2 _ ⟨F2, e2, S2, (Out.bind q2).mono fun F3 H3 e3 h ⟨s3, S3, q3⟩ => ?_⟩
  obtain ⟨c, hc, q4, hk, hn⟩ := liftC_ok q3
  exact ⟨F3, d1, c, S3.sub, Sh.of S3.sub ((s2.trans s3).up r1), hc, res_of (s1.trans (s2.trans s3)) S3 q4 hk hn⟩
theorem e_rev {j : Nat} {p1 p2 p3 : Pos} (ha : PE X x (tD n X.K X.mg p T W a)) : PE X (.Subscript x (.Slice none none (some (.UnaryOp .USub (.Constant (.int 1) j p1) p2)) p3) pos) (tE n X.K X.mg p T W (.rev a)) := by
  refine weakE (pe_revA ha) fun σ H Q ⟨F, e, S, q⟩ => ?_
  refine ⟨F, e, S, (Out.bind q).mono fun F1 H1 e1 d1 ⟨s1, S1, q1⟩ v1 r1 => ?_⟩
  obtain ⟨c, hc, q4, hk, hn⟩ := liftC_ok q1
  have rr := res_of s1 S1 q4 hk hn
  cases d1 <;> first | (exact no_some hc) | skip
  · cases hc
    cases r1 with
    | @tup b vs _ h1 h2 h3 => exact ⟨b, vs, rfl, .inr ⟨SqT.up h1 S1.sub, fun r hr => rr.2 r _ _ hr rfl (by rw [List.length_reverse]; exact h2) h3.rev⟩⟩
  · cases hc
    cases r1 with
    | @lst b vs _ h1 h2 h3 => exact ⟨b, vs, rfl, .inl ⟨SqL.up h1 S1.sub, fun r hr => rr r _ hr (by rw [List.length_reverse]; exact h2) h3.rev⟩⟩

/-! ### built-ins -/
theorem bltG {k : Nat} (g : Gd n T k X) {w : Str} (h : w ∈ bltNames) : X.mg w = none := g.blt w h
theorem tA1 (ha : PE X x (tD n X.K X.mg p T W a)) (hx : badE x = false) : PA X [x] (tCons (tD n X.K X.mg p T W a) tNil) := pa_cons ha pa_nil (good_star hx [] X.env)
theorem e_bi_core {f : Bi} {t : List V → Hp → VK → Prop} (h : ∀ vs H Q, rBi n X f vs H Q → t vs H Q) (hp : PE X z (tCB t (tCons (tD n X.K X.mg p T W a) tNil))) : PE X z (tE n X.K X.mg p T W (.bi f a)) := by
  refine weakE hp fun σ H Q ⟨F, e, S, q⟩ => ?_
  refine ⟨F, e, S, (Out.bind q).mono fun F1 H1 e1 d1 ⟨s1, S1, q1⟩ v1 r1 => h _ _ _ ?_⟩
  obtain ⟨c, hc, q4, hk, hn⟩ := liftC_ok q1
  exact ⟨F1, v1, d1, c, S1.sub, rfl, Sh.of S1.sub r1, hc, res_of s1 S1 q4 hk hn⟩
theorem e_bi {k : Nat} {f : Bi} {w : Str} {p1 : Pos} (g : Gd n T k X) (h : w = biN f) (hw : okG X.env.scope w = true) (ha : PE X x (tD n X.K X.mg p T W a)) (hx : badE x = false)
    (hf : f ≠ .repr ∧ f ≠ .lenset ∧ f ≠ .sortset) : PE X (.Call (.Name w p1) [x] [] pos) (tE n X.K X.mg p T W (.bi f a)) := by
  subst h
  obtain ⟨a1, a2, a3⟩ := gl_of hw
  have st := good_star hx [] X.env
  have B : ∀ {id : String} {r : List V → Hp → VK → Prop}, CallR X (.builtin id) r → X.mg (biN f) = none → bootBuiltins (biN f) = some (.builtin id) → (∀ vs H Q, rBi n X f vs H Q → r vs H Q) → PE X (.Call (.Name (biN f) p1) [x] [] pos) (tE n X.K X.mg p T W (.bi f a)) :=
    fun hc hm hb hr => e_bi_core hr (pe_callB hc a1 hm hb (tA1 ha hx) a3 a2 st rfl)
  have Y : ∀ {id : String} {r : List V → Hp → VK → Prop}, CallR X (.type id) r → X.mg (biN f) = none → bootBuiltins (biN f) = some (.type id) → (∀ vs H Q, rBi n X f vs H Q → r vs H Q) → PE X (.Call (.Name (biN f) p1) [x] [] pos) (tE n X.K X.mg p T W (.bi f a)) :=
    fun hc hm hb hr => e_bi_core hr (pe_callTy hc a1 hm hb (tA1 ha hx) a3 a2 st rfl)
  cases f
  case len => exact B cl_len (g.blt _ (by decide)) PySem.boot_len fun _ _ _ h => h
  case sum => exact B (cl_sum g.calm) (g.blt _ (by decide)) (by decide +kernel) fun _ _ _ h => h
  case int => exact Y cl_int (g.blt _ (by decide)) (by decide +kernel) fun _ _ _ h => h
  case list => exact Y cl_list (g.blt _ (by decide)) (by decide +kernel) fun _ _ _ h => h
  case tuple => exact Y cl_tuple (g.blt _ (by decide)) (by decide +kernel) fun _ _ _ h => h
  case all => exact B (cl_all g.calm) (g.blt _ (by decide)) (by decide +kernel) fun _ _ _ h => h
  case any => exact B (cl_any g.calm) (g.blt _ (by decide)) (by decide +kernel) fun _ _ _ h => h
  case str => exact Y cl_str (g.blt _ (by decide)) (by decide +kernel) fun _ _ _ h => h
  case sorted => exact B (cl_sorted g.hu) (g.blt _ (by decide)) (by decide +kernel) fun _ _ _ h => h
  case repr => exact absurd rfl hf.1
  case lenset => exact absurd rfl hf.2.1
  case sortset => exact absurd rfl hf.2.2
theorem e_vln {k i : Nat} {f w : Str} {p1 p2 : Pos} (g : Gd n T k X) (h : f = "len") (hw : okG X.env.scope f = true) (hv : okV X.N X.env.scope i w = true) : PE X (.Call (.Name f p1) [.Name w p2] [] pos) (tE n X.K X.mg p T W (.vln i)) := by
  subst h
  obtain ⟨a1, a2, a3⟩ := gl_of hw
  refine weakE (pe_callB (cl_len (n := n)) a1 (g.blt _ (by decide)) PySem.boot_len (pa_cons (pe_slot hv) pa_nil) a3 a2 rfl rfl) fun σ H Q ⟨F, e, S, q⟩ => ?_
  obtain ⟨c, hc, q4, hk, hn⟩ := liftC_ok (show Out n X.K X.mg p W σ F H e (R.liftC ((peek i e).bind fun x => biD .len x) e) _ from q)
  cases hp : peek i e with
  | none => rw [hp] at hc; cases hc
  | some d =>
    rw [hp] at hc
    obtain ⟨v, g1, g2⟩ := peek_sh S hp
    exact ⟨v, g1, F, v, d, c, S.sub, rfl, g2, hc, res_of Step.refl S q4 hk hn⟩
theorem e_mn {k : Nat} {f : Str} {p1 : Pos} (g : Gd n T k X) (h : f = "min") (hw : okG X.env.scope f = true) (ha : PE X x (tD n X.K X.mg p T W a)) (hb : PE X y (tD n X.K X.mg p T W b)) (hx : badE x = false) (hy : badE y = false) : PE X (.Call (.Name f p1) [x, y] [] pos) (tE n X.K X.mg p T W (.mn a b)) := by
  subst h
  obtain ⟨a1, a2, a3⟩ := gl_of hw
  refine weakE (pe_callB (cl_min (n := n) g.calm) a1 (g.blt _ (by decide)) (by decide +kernel) (pa_cons ha (tA1 hb hy) (good_star hx [y] X.env)) a3 a2 (good_star hx [y] X.env) (good_stars _ _ [y] fun z hz => by
    have : z = y := by simpa using hz
    rw [this]; exact hy)) fun σ H Q ⟨F, e, S, q⟩ => ?_
  refine ⟨F, e, S, (Out.bind q).mono fun F1 H1 e1 d1 ⟨s1, S1, q1⟩ v1 r1 => ?_⟩
  refine ⟨F1, e1, S1, (Out.bind q1).mono fun F2 H2 e2 d2 ⟨s2, S2, q2⟩ v2 r2 => ?_⟩
  obtain ⟨c, hc, q4, hk, hn⟩ := liftC_ok q2
  exact ⟨F2, v1, v2, d1, d2, c, S2.sub, rfl, Sh.of S2.sub (s2.up r1), Sh.of S2.sub r2, hc, res_of (s1.trans s2) S2 q4 hk hn⟩
theorem e_isi {k : Nat} {f w : Str} {t : Ty} {p1 p2 : Pos} (g : Gd n T k X) (h : f = "isinstance") (hw : okG X.env.scope f = true) (ha : PE X x (tD n X.K X.mg p T W a)) (hx : badE x = false) (ht : w = tyS t) (hg : okG X.env.scope w = true) : PE X (.Call (.Name f p1) [x, .Name w p2] [] pos) (tE n X.K X.mg p T W (.isi a t)) := by
  subst h ht
  obtain ⟨a1, a2, a3⟩ := gl_of hw
  obtain ⟨b1, b2, b3⟩ := gl_of hg
  have hty : PE X (.Name (tyS t) p2) (tC (.ty (tyN t))) := by
    refine pe_bltn (u := .type (tyN t)) b1 (g.blt _ (by cases t <;> decide)) ?_ rfl b3 b2
    cases t <;> decide +kernel
  refine weakE (pe_callB (cl_isi (n := n)) a1 (g.blt _ (by decide)) (by decide +kernel) (pa_cons ha (pa_cons hty pa_nil) (good_star hx _ X.env)) a3 a2 (good_star hx _ X.env) rfl) fun σ H Q ⟨F, e, S, q⟩ => ?_
  refine ⟨F, e, S, (Out.bind q).mono fun F1 H1 e1 d1 ⟨s1, S1, q1⟩ v1 r1 => ?_⟩
  obtain ⟨c, hc, q4⟩ := Out.lift S1 q1
  cases hi : isD t d1 with
  | none => rw [hi] at hc; cases hc
  | some b =>
    rw [hi] at hc
    cases hc
    exact ⟨F1, v1, d1, t, b, S1.sub, rfl, Sh.of S1.sub r1, hi, Out.here S1 q4 _ (.bl _)⟩
end
end Z

/-! Z3e: calls of defs; ranges as lists; tests. -/
namespace Z
open PySem PySem.Spec L2
section
variable {n : Nm} {X : Cx} {p : Addr} {T : Nat → Fn} {W : WX} {a b c : E} {x y z : Expr} {pos : Pos}

/-- a call that borrows nothing, at the caller's state -/
theorem call_none {F H : Hp} {σ : St} {e : Env} {f : Nat} {ds : List D} {vs : List V} {P0 : Addr → Prop} {F0 H0 : Hp} {Q : VK} (s : Step F0 H0 P0 F H (owns σ e)) (S : Stt n X.K X.mg p F σ H e) (rs : Rps n X.K X.mg F vs ds)
    (q : Out n X.K X.mg p W σ F H e (callR (T f none ds) none e) fun F' H' e' r => ∀ v, RC n X.K X.mg F' H' v r P0 H0 (owns σ e') → Q v H') : spF n X.K X.mg (T f) vs H Q (WE W σ) := by
  refine ⟨F, vs, ds, S.sub, rs, .inl ⟨rfl, ?_⟩⟩
  have stp : ∀ {F' H' : Hp}, Step F H (fun b => (none : Option Addr) = some b) F' H' (fun b => (none : Option Addr) = some b) → Step F H (owns σ e) F' H' (owns σ e) := fun t =>
    ⟨t.ext, (fun b o h => (t.new b o h).elim .inl fun h => h.elim (fun h => .inr (.inl h)) (fun h => nomatch h)), (fun b o h _ => t.keep b o h (fun h => nomatch h)), fun _ h => .inl h⟩
  have stt : ∀ {F' H' : Hp}, Step F H (fun b => (none : Option Addr) = some b) F' H' (fun b => (none : Option Addr) = some b) → (∀ b o, F' b = some o → H' b = some o) → Stt n X.K X.mg p F' σ H' e := fun {F' H'} t sb => by
    refine ⟨sb, S.len, fun i d h => ?_, fun i k ds h => ?_, S.apart⟩
    · obtain ⟨v, h1, h2⟩ := S.dat i d h
      exact ⟨v, h1, h2.up t.ext⟩
    · obtain ⟨c, us, h1, h2, h3, h4, h5, h6⟩ := S.own i k ds h
      refine ⟨c, us, h1, t.keep c _ h2 (fun h => nomatch h), ?_, h4, h5.up t.ext, h6⟩
      cases r : F' c with
      | none => rfl
      | some o =>
        rcases t.new c o r with ⟨u, z⟩ | z | z
        · rw [h3] at z; cases z
        · rw [h2] at z; cases z
        · cases z
  cases hf : T f none ds with
  | no => rw [hf] at q; exact q
  | ex x q' =>
    rw [hf] at q
    exact ⟨q.1, fun F' H' t sb _ C hC => q.2 F' H' (stp t) (stt t sb) C hC⟩
  | ok c q' =>
    rw [hf] at q
    obtain ⟨c', hc, q2, hk, hn⟩ := liftC_ok (show Out n X.K X.mg p W σ F H e (R.liftC (some c) e) _ from q)
    cases hc
    intro F' H' v t sb _ hv
    refine q2 F' H' (stp t) (stt t sb) v (RC.base s ?_)
    cases c with
    | no => exact hv
    | dat d => exact hv
    | own k es =>
      obtain ⟨h1, a, us, h2, h3, h4, h5, h6, h7, h8⟩ := hv
      exact ⟨h1, a, us, h2, h3, h4, h5, h6, S.noOwn h8, .inl h8⟩
theorem e_app {k f : Nat} {w : Str} {p1 : Pos} {es : Es} {xs : List Expr} (g : Gd n T k X) (tk : Takes X W) (h1 : n.nf f = w) (h3 : n.pr f = true) (h2 : okG X.env.scope w = true) (hs : PA X (x :: xs) (tDs n X.K X.mg p T W es)) (hg : ∀ y ∈ x :: xs, badE y = false) :
    PE X (.Call (.Name w p1) (x :: xs) [] pos) (tE n X.K X.mg p T W (.app f none es)) := by
  subst h1
  obtain ⟨a1, a2, a3⟩ := gl_of h2
  obtain ⟨fa, fd, ps, b1, b2, b3, b4⟩ := g.fns f h3
  refine weakE (pe_callS b4 g.room a1 b1 b2 b3 (fun σ => passAt tk σ) hs a2 (good_star (hg x List.mem_cons_self) xs X.env) (good_stars _ _ xs fun y hy => hg y (List.mem_cons_of_mem _ hy))) fun σ H Q ⟨F, e, S, q⟩ => ?_
  exact ⟨F, e, S, (Out.bind q).mono fun F1 H1 e1 ds ⟨s1, S1, q1⟩ vs rs => call_none s1 S1 rs q1⟩
/-- a call that borrows a slot's list -/
theorem call_some {F H : Hp} {σ : St} {e : Env} {f i : Nat} {ds : List D} {vs : List V} {v0 : V} {P0 : Addr → Prop} {F0 H0 : Hp} {Q : VK} (s : Step F0 H0 P0 F H (owns σ e)) (S : Stt n X.K X.mg p F σ H e) (rs : Rps n X.K X.mg F vs ds) (hv0 : σ[i]? = some (some v0))
    (q : Out n X.K X.mg p W σ F H e (callA T f (some i) ds e) fun F' H' e' r => ∀ v, RC n X.K X.mg F' H' v r P0 H0 (owns σ e') → Q v H') : spF n X.K X.mg (T f) (v0 :: vs) H Q (WE W σ) := by
  unfold callA at q
  simp only at q
  cases g : e.getD i .no with
  | no => rw [g] at q; exact q.elim
  | dat d => rw [g] at q; exact q.elim
  | own k l =>
  rw [g] at q
  simp only at q
  have gi := getD_get g (fun z => nomatch z)
  obtain ⟨a, ws, h1, h2, h3, h4, h5, h6⟩ := S.own i k l gi
  rw [hv0] at h1
  cases h1
  have hi : i < e.length := (List.getElem?_eq_some_iff.mp gi).1
  have oa : owns σ e a := ⟨i, k, l, gi, hv0⟩
  refine ⟨F, vs, ds, S.sub, rs, .inr ⟨a, ws, l, rfl, h2, h3, h4, h5, ?_⟩⟩
  have pe : ∀ b, (some a : Option Addr) = some b ↔ b = a := fun b => ⟨fun h => (Option.some.inj h).symm, fun h => by rw [h]⟩
  have stp : ∀ {F' H' : Hp} (q' : List D), Step F H (fun b => (some a : Option Addr) = some b) F' H' (fun b => (some a : Option Addr) = some b) → Step F H (owns σ e) F' H' (owns σ (e.set i (.own k q'))) := fun {F' H'} q' t => by
    refine ⟨t.ext, fun b o h => (t.new b o h).elim .inl fun h => h.elim (fun h => .inr (.inl h)) fun h => ?_, fun b o h hb => t.keep b o h fun h => ?_, fun b ⟨j, m, es, z1, z2⟩ => ?_⟩
    · rw [(pe b).mp h]; exact .inr (.inr oa)
    · rw [(pe b).mp h] at hb; exact hb oa
    · refine .inl ?_
      by_cases hj : j = i
      · subst hj
        rw [hv0] at z2
        cases z2
        exact oa
      · rw [List.getElem?_set_ne (Ne.symm hj)] at z1
        exact ⟨j, m, es, z1, z2⟩
  have stt : ∀ {F' H' : Hp} (q' : List D), Step F H (fun b => (some a : Option Addr) = some b) F' H' (fun b => (some a : Option Addr) = some b) → (∀ b o, F' b = some o → H' b = some o) →
      (∃ ws, H' a = some (.lst ws) ∧ F' a = none ∧ ws.length ≤ sizeLine ∧ Rps n X.K X.mg F' ws q') → Stt n X.K X.mg p F' σ H' (e.set i (.own k q')) := fun {F' H'} q' t sb hw => by
    obtain ⟨us, w1, w2, w3, w4⟩ := hw
    have f1 : ∀ (j : Nat) c, (e.set i (.own k q'))[j]? = some c → j ≠ i → e[j]? = some c := fun j c z hj => by
      rw [List.getElem?_set_ne (Ne.symm hj)] at z; exact z
    refine ⟨sb, by rw [List.length_set]; exact S.len, fun j d h => ?_, fun j m es h => ?_, fun j m l1 l2 es es' c z1 z2 z3 z4 => ?_⟩
    · by_cases hj : j = i
      · subst hj; rw [List.getElem?_set_self hi] at h; cases h
      · obtain ⟨v, c1, c2⟩ := S.dat j d (f1 j _ h hj)
        exact ⟨v, c1, c2.up t.ext⟩
    · by_cases hj : j = i
      · subst hj
        rw [List.getElem?_set_self hi] at h
        cases h
        exact ⟨a, us, hv0, w1, w2, w3, w4, h6⟩
      · have h' := f1 j _ h hj
        obtain ⟨c, us', c1, c2, c3, c4, c5, c6⟩ := S.own j m es h'
        have hc : c ≠ a := fun z => hj (S.apart j i m k es l a h' gi (z ▸ c1) hv0)
        have nP : ¬ ((some a : Option Addr) = some c) := fun z => hc ((pe c).mp z)
        refine ⟨c, us', c1, t.keep c _ c2 nP, ?_, c4, c5.up t.ext, c6⟩
        cases r : F' c with
        | none => rfl
        | some o =>
          rcases t.new c o r with ⟨u, z⟩ | z | z
          · rw [c3] at z; cases z
          · rw [c2] at z; cases z
          · exact absurd z nP
    · have f2 : ∀ (j : Nat) l es, (e.set i (.own k q'))[j]? = some (Cl.own l es) → ∃ l' es', e[j]? = some (Cl.own l' es') := fun j l1 es z => by
        by_cases hj : j = i
        · subst hj; exact ⟨_, _, gi⟩
        · exact ⟨_, _, f1 j _ z hj⟩
      obtain ⟨_, _, y1⟩ := f2 j _ _ z1
      obtain ⟨_, _, y2⟩ := f2 m _ _ z2
      exact S.apart j m _ _ _ _ c y1 y2 z3 z4
  cases hf : T f (some l) ds with
  | no => rw [hf] at q; exact q
  | ex x q' =>
    rw [hf] at q
    have q2 := q
    unfold callR at q2
    simp only [g] at q2
    exact ⟨q2.1, fun F' H' t sb hw C hC => q2.2 F' H' (stp q' t) (stt q' t sb (hw a rfl)) C hC⟩
  | ok c q' =>
    rw [hf] at q
    have q2 := q
    unfold callR at q2
    simp only [g] at q2
    have q3 : Out n X.K X.mg p W σ F H e (.ok c (e.set i (.own k q'))) (fun F' H' e' r => ∀ v, RC n X.K X.mg F' H' v r P0 H0 (owns σ e') → Q v H') ∧ c ≠ .no := by
      cases c with
      | no => exact q2.elim
      | dat d => exact ⟨q2, fun z => nomatch z⟩
      | own m es =>
        cases m with
        | true => exact q2.elim
        | false => exact ⟨q2, fun z => nomatch z⟩
    intro F' H' v t sb hw hv
    refine q3.1 F' H' (stp q' t) (stt q' t sb (hw a rfl)) v (RC.base s ?_)
    cases c with
    | no => exact hv
    | dat d => exact hv
    | own m es =>
      obtain ⟨y1, a', us, y2, y3, y4, y5, y6, y7, y8⟩ := hv
      refine ⟨y1, a', us, y2, y3, y4, y5, y6, fun ⟨j, l', es', z1, z2⟩ => ?_, .inl y8⟩
      refine S.noOwn y8 ?_
      by_cases hj : j = i
      · subst hj
        rw [hv0] at z2
        cases z2
        exact oa
      · rw [List.getElem?_set_ne (Ne.symm hj)] at z1
        exact ⟨j, l', es', z1, z2⟩
theorem e_appP {k f i : Nat} {w w' : Str} {p1 p2 : Pos} {es : Es} {xs : List Expr} (g : Gd n T k X) (tk : Takes X W) (h1 : n.nf f = w) (h3 : n.pr f = true) (h2 : okG X.env.scope w = true) (hv : okV X.N X.env.scope i w' = true) (hs : PA X xs (tDs n X.K X.mg p T W es)) (hg : ∀ y ∈ xs, badE y = false) :
    PE X (.Call (.Name w p1) (.Name w' p2 :: xs) [] pos) (tE n X.K X.mg p T W (.app f (some i) es)) := by
  subst h1
  obtain ⟨a1, a2, a3⟩ := gl_of h2
  obtain ⟨fa, fd, ps, b1, b2, b3, b4⟩ := g.fns f h3
  refine weakE (pe_callS b4 g.room a1 b1 b2 b3 (fun σ => passAt tk σ) (pa_cons (pe_slot hv) hs rfl) a2 rfl (good_stars _ _ xs hg)) fun σ H Q ⟨F, e, S, q⟩ => ?_
  obtain ⟨d0, hd0, q0⟩ := Out.lift S (Out.bind q)
  obtain ⟨v, hv', _⟩ := peek_sh S hd0
  have q1 := (Out.here S q0).2.2
  exact ⟨v, hv', F, e, S, (Out.bind q1).mono fun F1 H1 e1 ds ⟨s1, S1, q2⟩ vs rs => call_some s1 S1 rs hv' q2⟩
end
end Z

/-! Z3f: what a loop walks; targets; comprehensions. -/
namespace Z
open PySem PySem.Spec L2
section
variable {n : Nm} {X : Cx} {p : Addr} {T : Nat → Fn} {W : WX} {a b c : E} {x y z : Expr} {pos : Pos}

/-! ### targets -/
theorem good_assign {e : Expr} (h : badE e = false) (es : List Expr) (env : PySem.Env) : PySem.assignEach (e :: es) env = (false, PySem.assign e env) :: PySem.assignEach es env := by
  cases e <;> first | rfl | exact absurd h.symm Bool.false_ne_true
theorem isTg_good {N : List Str} {sc : Scope} {cl : Str → Bool} : ∀ {t : Tg} {e : Expr}, isTg N sc cl t e = true → badE e = false := by
  intro t e h
  cases e <;> first | rfl | (exfalso; cases t <;> exact absurd h Bool.false_ne_true)
theorem isTgs_len {N : List Str} {sc : Scope} {cl : Str → Bool} {env : PySem.Env} : ∀ {ts : Tgs} {es : List Expr}, isTgs N sc cl ts es = true → (PySem.assignEach es env).length = es.length ∧ (PySem.assignEach es env).findIdx? (·.1) = none
  | .nil, [], _ => ⟨rfl, rfl⟩
  | .nil, _ :: _, h => absurd h Bool.false_ne_true
  | .cons _ _, [], h => absurd h Bool.false_ne_true
  | .cons t ts, e :: es, h => by
    obtain ⟨h1, h2⟩ := and1 (show (isTg N sc cl t e && isTgs N sc cl ts es) = true from h)
    obtain ⟨g1, g2⟩ := isTgs_len h2
    rw [good_assign (isTg_good h1)]
    refine ⟨by rw [List.length_cons, List.length_cons, g1], ?_⟩
    rw [List.findIdx?_cons]
    simp only [Bool.false_eq_true, if_false, g2, Option.map_none]
/-- a slot given data -/
theorem Stt.put {K : PySem.W.Frag} {mg : Str → Option Value} {F H : Hp} {σ : St} {e : Env} {i : Nat} {v : V} {d : D} (S : Stt n K mg p F σ H e) (hi : i < e.length) (h : Rp n K mg F v d) : Stt n K mg p F (σ.set i (some v)) H (e.set i (.dat d)) := by
  have hl : i < σ.length := by rw [S.len]; exact hi
  have so : ∀ {j : Nat} {k : Bool} {ds : List D}, (e.set i (.dat d))[j]? = some (Cl.own k ds) → j ≠ i ∧ e[j]? = some (Cl.own k ds) := fun {j k ds} z => by
    by_cases hj : j = i
    · subst hj; rw [List.getElem?_set_self hi] at z; cases z
    · rw [List.getElem?_set_ne (Ne.symm hj)] at z; exact ⟨hj, z⟩
  refine ⟨S.sub, by rw [List.length_set, List.length_set]; exact S.len, fun j c z => ?_, fun j k ds z => ?_, fun j m k l ds es c z1 z2 z3 z4 => ?_⟩
  · by_cases hj : j = i
    · subst hj
      rw [List.getElem?_set_self hi] at z
      cases z
      exact ⟨v, by rw [List.getElem?_set_self hl], h⟩
    · rw [List.getElem?_set_ne (Ne.symm hj)] at z
      obtain ⟨w, h1, h2⟩ := S.dat j c z
      exact ⟨w, by rw [List.getElem?_set_ne (Ne.symm hj)]; exact h1, h2⟩
  · obtain ⟨hj, z'⟩ := so z
    obtain ⟨c, ws, h1, h2⟩ := S.own j k ds z'
    exact ⟨c, ws, by rw [List.getElem?_set_ne (Ne.symm hj)]; exact h1, h2⟩
  · obtain ⟨hj, y1⟩ := so z1
    obtain ⟨hm, y2⟩ := so z2
    rw [List.getElem?_set_ne (Ne.symm hj)] at z3
    rw [List.getElem?_set_ne (Ne.symm hm)] at z4
    exact S.apart j m k l ds es c y1 y2 z3 z4
theorem owns.put {σ : St} {e : Env} {i : Nat} {v : V} {d : D} {b : Addr} (h : owns (σ.set i (some v)) (e.set i (.dat d)) b) : owns σ e b := by
  obtain ⟨j, k, ds, z1, z2⟩ := h
  by_cases hj : j = i
  · subst hj
    by_cases hi : j < e.length
    · rw [List.getElem?_set_self hi] at z1; cases z1
    · rw [List.getElem?_eq_none (by rw [List.length_set]; omega)] at z1; cases z1
  · rw [List.getElem?_set_ne (Ne.symm hj)] at z1 z2
    exact ⟨j, k, ds, z1, z2⟩
theorem wipe_at {σ : L2.St} {i : Nat} : ∀ {vs : List Nat}, i ∈ vs → i < σ.length → (wipe σ vs)[i]? = some none
  | [], h, _ => absurd h (by simp)
  | v :: vs, h, hl => by
    show ((wipe σ vs).set v none)[i]? = some none
    by_cases hv : v = i
    · subst hv; rw [List.getElem?_set_self (by rw [wipe_length]; exact hl)]
    · rw [List.getElem?_set_ne hv]
      exact wipe_at (by rcases List.mem_cons.mp h with e | h; · exact absurd e.symm hv
                        · exact h) hl
theorem wipe_set {σ : L2.St} {i : Nat} {x : Option V} {vs : List Nat} (h : i ∈ vs) : wipe (σ.set i x) vs = wipe σ vs := by
  refine List.ext_getElem? fun j => ?_
  by_cases hl : j < σ.length
  · by_cases hj : j ∈ vs
    · rw [wipe_at hj (by rw [List.length_set]; exact hl), wipe_at hj hl]
    · rw [wipe_out hj, wipe_out hj, List.getElem?_set_ne]
      intro e
      subst e
      exact hj h
  · rw [List.getElem?_eq_none (by rw [wipe_length, List.length_set]; omega), List.getElem?_eq_none (by rw [wipe_length]; omega)]
def Tgs.len : Tgs → Nat
  | .nil => 0
  | .cons _ ts => ts.len + 1
theorem isTgs_num {N : List Str} {sc : Scope} {cl : Str → Bool} : ∀ {ts : Tgs} {es : List Expr}, isTgs N sc cl ts es = true → es.length = ts.len
  | .nil, [], _ => rfl
  | .nil, _ :: _, h => absurd h Bool.false_ne_true
  | .cons _ _, [], h => absurd h Bool.false_ne_true
  | .cons t ts, e :: es, h => by
    obtain ⟨h1, h2⟩ := and1 (show (isTg N sc cl t e && isTgs N sc cl ts es) = true from h)
    rw [List.length_cons, isTgs_num h2]
    rfl
theorem bindTgs_num : ∀ {ts : Tgs} {ds : List D} {e e' : Env}, bindTgs ts ds e = some e' → ds.length = ts.len
  | .nil, [], _, _, _ => rfl
  | .nil, _ :: _, _, _, h => no_some h
  | .cons _ _, [], _, _, h => no_some h
  | .cons t ts, d :: ds, e, e', h => by
    have h' : (bindTg t d e).bind (fun e1 => bindTgs ts ds e1) = some e' := h
    cases q : bindTg t d e with
    | none => rw [q] at h'; cases h'
    | some e1 =>
      rw [q] at h'
      rw [List.length_cons, bindTgs_num h']
      rfl
mutual
def gOf (K : PySem.W.Frag) : Tg → TG
  | .nm i => gName i
  | .tp ts => gTup K ts.len (gsOf K ts)
def gsOf (K : PySem.W.Frag) : Tgs → TGs
  | .nil => gNil
  | .cons t ts => gCons (gOf K t) (gsOf K ts)
end
mutual
theorem isTg_pg {cl : Str → Bool} (hN : X.N.Nodup) (hcl : ∀ x, cl x = true → X.fn x = true) (hc : X.calm = true) : ∀ (t : Tg) (e : Expr), isTg X.N X.env.scope cl t e = true → PG X e (gOf X.K t)
  | .nm i, e, h => by
    cases e <;> first | (exact absurd h Bool.false_ne_true) | skip
    rename_i x ps
    obtain ⟨h1, h2⟩ := and1 (show (decide (X.N[i]? = some x) && _) = true from h)
    have hk : Loc X.env.scope x ∧ (X.fn x = true ∨ X.env.scope.names.lookup x = some .local) := by
      cases q : decide (X.env.scope.names.lookup x = some .local) with
      | true => exact ⟨.inl (of_decide_eq_true q), .inr (of_decide_eq_true q)⟩
      | false =>
        rw [q, Bool.false_or] at h2
        obtain ⟨h3, h4⟩ := and1 h2
        exact ⟨.inr (of_decide_eq_true h3), .inl (hcl x h4)⟩
    exact pg_name hN (of_decide_eq_true h1) hk.1 hk.2
  | .tp ts, e, h => by
    cases e <;> first | (exact absurd h Bool.false_ne_true) | skip
    rename_i es k ps
    have h' : isTgs X.N X.env.scope cl ts es = true := h
    obtain ⟨l1, l2⟩ := isTgs_len (env := X.env) h'
    exact pg_tup hc (isTgs_pg hN hcl hc ts es h') (by rw [l1, isTgs_num h']) l2
theorem isTgs_pg {cl : Str → Bool} (hN : X.N.Nodup) (hcl : ∀ x, cl x = true → X.fn x = true) (hc : X.calm = true) : ∀ (ts : Tgs) (es : List Expr), isTgs X.N X.env.scope cl ts es = true → PGs X es (gsOf X.K ts)
  | .nil, [], _ => pgs_nil
  | .nil, _ :: _, h => absurd h Bool.false_ne_true
  | .cons _ _, [], h => absurd h Bool.false_ne_true
  | .cons t ts, e :: es, h => by
    obtain ⟨h1, h2⟩ := and1 (show (isTg X.N X.env.scope cl t e && isTgs X.N X.env.scope cl ts es) = true from h)
    exact pgs_cons (isTg_pg hN hcl hc t e h1) (isTgs_pg hN hcl hc ts es h2) (by rw [good_assign (isTg_good h1)]; rfl)
end
end
section
variable {n : Nm} {K : PySem.W.Frag} {mg : Str → Option Value} {p : Addr}
mutual
theorem gOf_ok : ∀ (t : Tg) {F H : Hp} {σ : L2.St} {en en' : Env} {v : V} {d : D} {Q : L2.St → Hp → Prop}, Stt n K mg p F σ H en → Rp n K mg F v d → bindTg t d en = some en' →
    (∀ σ', Stt n K mg p F σ' H en' → (∀ b, owns σ' en' b → owns σ en b) → (∀ vs, tgIn t vs = true → wipe σ' vs = wipe σ vs) → Q σ' H) → gOf K t v σ H Q
  | .nm i, F, H, σ, en, en', v, d, Q, S, hr, hb, q => by
    have hb' : (if i < en.length then some (en.set i (.dat d)) else none) = some en' := hb
    split at hb'
    case isFalse => cases hb'
    cases hb'
    rename_i hi
    refine q (σ.set i (some v)) (S.put hi hr) (fun b => owns.put) fun vs hv => ?_
    exact wipe_set (List.contains_iff_mem.mp hv)
  | .tp ts, F, H, σ, en, en', v, d, Q, S, hr, hb, q => by
    cases d <;> first | (exact no_some hb) | skip
    rename_i ds
    cases hr with
    | @tup a vs _ ha hl ra =>
    exact ⟨a, vs, rfl, SqT.up ha S.sub, by rw [ra.length, bindTgs_num hb], gsOf_ok ts S ra hb q⟩
theorem gsOf_ok : ∀ (ts : Tgs) {F H : Hp} {σ : L2.St} {en en' : Env} {vs : List V} {ds : List D} {Q : L2.St → Hp → Prop}, Stt n K mg p F σ H en → Rps n K mg F vs ds → bindTgs ts ds en = some en' →
    (∀ σ', Stt n K mg p F σ' H en' → (∀ b, owns σ' en' b → owns σ en b) → (∀ vs, tgsIn ts vs = true → wipe σ' vs = wipe σ vs) → Q σ' H) → gsOf K ts vs σ H Q
  | .nil, F, H, σ, en, en', vs, ds, Q, S, hr, hb, q => by
    cases hr with
    | nil =>
      cases hb
      exact ⟨rfl, q σ S (fun _ h => h) fun _ _ => rfl⟩
    | cons _ _ => exact no_some hb
  | .cons t ts, F, H, σ, en, en', vs, ds, Q, S, hr, hb, q => by
    cases hr with
    | nil => exact no_some hb
    | @cons v vs d ds hv hvs =>
      have hb' : (bindTg t d en).bind (fun e1 => bindTgs ts ds e1) = some en' := hb
      cases he : bindTg t d en with
      | none => rw [he] at hb'; cases hb'
      | some e1 =>
        rw [he] at hb'
        refine ⟨v, vs, rfl, gOf_ok t S hv he fun σ1 S1 o1 w1 => gsOf_ok ts S1 hvs hb' fun σ2 S2 o2 w2 => q σ2 S2 (fun b hb => o1 b (o2 b hb)) fun ws hw => ?_⟩
        obtain ⟨y1, y2⟩ := and1 (show (tgIn t ws && tgsIn ts ws) = true from hw)
        rw [w2 ws y2, w1 ws y1]
end
end
end Z

/-! Z3g: what a loop walks; comprehensions. -/
namespace Z
open PySem PySem.Spec L2
section
variable {n : Nm} {X : Cx} {p : Addr} {T : Nat → Fn} {W : WX} {a b c : E} {x y z : Expr} {pos : Pos}
/-- an iterator hands on these items, wherever F stands -/
structure ItR (n : Nm) (K : PySem.W.Frag) (mg : Str → Option Value) (F : Hp) (J : L2.It) (items : List D) : Prop where
  go : ∀ (i : Nat) (H : Hp), (∀ b o, F b = some o → H b = some o) → i < items.length → J.go i H
  stop : ∀ (i : Nat) (H : Hp), (∀ b o, F b = some o → H b = some o) → items.length ≤ i → J.stop i H
  yld : ∀ (i : Nat) (H : Hp) v H', (∀ b o, F b = some o → H b = some o) → J.yld i H v H' → ∀ d, items[i]? = some d →
    (H' = H ∧ Rp n K mg F v d) ∨ ∃ q vs ds, H q = none ∧ H' = upd H q (.tup vs) ∧ v = .ref q ∧ d = .tup ds ∧ vs.length ≤ sizeLine ∧ Rps n K mg F vs ds
  len : items.length ≤ sizeLine
theorem weakI {X : Cx} {tg x : Expr} {t t' : TI} (h : PI X tg x t) (w : ∀ σ H R, t' σ H R → t σ H R) : PI X tg x t' := ⟨fun pins s σ H R I hq => h.run pins s σ H R I (w σ H R hq)⟩
theorem fresh_it {pins : List (Addr × Obj)} {σ : L2.St} {H : Hp} {s : Shared} (I : L2.Inv X pins σ H s) {q : Addr} (hq : q = s.heap.objs.size) : FpOk X pins H q := by
  subst hq
  exact I.fpOk (Nat.le_refl _) (I.hok.fresh (Nat.le_refl _))
/-- a list or a tuple walked -/
theorem pi_any {tg l : Expr} {tl : TE} (hl : PE X l tl) : PI X tg l (fun σ H R => tl σ H fun x H1 => ∃ a, x = .ref a ∧ (((∃ us, SqL X.K H1 a us) ∧ R (Itl X.K a) H1) ∨ ((∃ us, SqT X.K H1 a us) ∧ R (Itt X.K a) H1))) := by
  refine ⟨fun pins s σ H R I h => thn (hl.run pins s σ H _ I h) fun v s1 ⟨x, H1, I1, r1, a, ex, q⟩ => ?_⟩
  subst ex
  cases r1
  have mem1 : ∀ {q b : Addr}, b ∈ [q] → b = q := fun {q b} hb => by simpa using hb
  rcases q with ⟨⟨us, hq⟩, q⟩ | ⟨⟨us, hq⟩, q⟩
  · obtain ⟨its, rv, pl, hz⟩ := I1.list hq
    refine wpAny_pyIter_list pl.isList ⟨s1.heap.objs.size, [s1.heap.objs.size], _, _, H1, rfl, I1.kept (t' := s1.toks) fun b o e => Heap.get?_push_of_some _ e, turn_list a _, ⟨_, Heap.get?_push_size _ rfl, rfl, rfl⟩, fun b hb => fresh_it I1 (mem1 hb), q⟩
  · obtain ⟨its, rv, pl, hz⟩ := I1.tuple hq
    refine wpAny_pyIter_tuple (show s1.heap.IsTuple a its.toArray from pl) ⟨s1.heap.objs.size, [s1.heap.objs.size], _, _, H1, rfl, I1.kept (t' := s1.toks) fun b o e => Heap.get?_push_of_some _ e, turn_tuple a _, ⟨_, Heap.get?_push_size _ rfl, rfl, rfl⟩, fun b hb => fresh_it I1 (mem1 hb), q⟩
theorem itr_list {F : Hp} {a : Addr} {vs : List V} {ds : List D} (h : SqL X.K F a vs) (hl : vs.length ≤ sizeLine) (r : Rps n X.K X.mg F vs ds) : ItR n X.K X.mg F (Itl X.K a) ds := by
  refine ⟨fun i H sub hi => ?_, fun i H sub hi => ⟨vs, SqL.up h sub, by rw [r.length]; exact hi⟩, fun i H v H' sub hy d hd => .inl ⟨hy.1, ?_⟩, by rw [← r.length]; exact hl⟩
  · obtain ⟨v, h1, _⟩ := r.get (List.getElem?_eq_getElem hi)
    exact ⟨vs, v, SqL.up h sub, h1⟩
  · obtain ⟨w, h1, h2⟩ := r.get hd
    have := hy.2 vs (SqL.up h sub)
    rw [h1] at this
    cases this
    exact h2
theorem itr_tup {F : Hp} {a : Addr} {vs : List V} {ds : List D} (h : SqT X.K F a vs) (hl : vs.length ≤ sizeLine) (r : Rps n X.K X.mg F vs ds) : ItR n X.K X.mg F (Itt X.K a) ds := by
  refine ⟨fun i H sub hi => ?_, fun i H sub hi => ⟨vs, SqT.up h sub, by rw [r.length]; exact hi⟩, fun i H v H' sub hy d hd => .inl ⟨hy.1, ?_⟩, by rw [← r.length]; exact hl⟩
  · obtain ⟨v, h1, _⟩ := r.get (List.getElem?_eq_getElem hi)
    exact ⟨vs, v, SqT.up h sub, h1⟩
  · obtain ⟨w, h1, h2⟩ := r.get hd
    have := hy.2 vs (SqT.up h sub)
    rw [h1] at this
    cases this
    exact h2
theorem upto_len (c : Int) : ∀ (m : Nat) (lo : Int), (upto m lo c).length = m
  | 0, _ => rfl
  | m + 1, lo => by show (upto m (lo + c) c).length + 1 = m + 1; rw [upto_len c m]
theorem upto_get (c : Int) : ∀ (m : Nat) (lo : Int) (i : Nat) (d : D), (upto m lo c)[i]? = some d → i < m ∧ d = .int (lo + i * c)
  | 0, _, _, _, h => by cases h
  | m + 1, lo, 0, d, h => by
    have h' : some (D.int lo) = some d := h
    cases h'
    refine ⟨Nat.succ_pos m, ?_⟩
    congr 1
    simp
  | m + 1, lo, i + 1, d, h => by
    obtain ⟨h1, h2⟩ := upto_get c m (lo + c) i d h
    refine ⟨Nat.succ_lt_succ h1, ?_⟩
    rw [h2]
    congr 1
    have : ((i + 1 : Nat) : Int) * c = i * c + c := by rw [Int.natCast_add, Int.add_mul]; simp
    rw [this]
    omega
theorem itr_rng {F : Hp} {lo : Int} {m : Nat} (h : m ≤ sizeLine) : ItR n X.K X.mg F (Itr lo m) (upto m lo 1) := by
  refine ⟨fun i H _ hi => by rw [upto_len] at hi; exact hi, fun i H _ hi => by rw [upto_len] at hi; exact hi, fun i H v H' _ hy d hd => .inl ⟨hy.1, ?_⟩, by rw [upto_len]; exact h⟩
  obtain ⟨h1, h2⟩ := upto_get 1 m lo i d hd
  rw [hy.2, h2, Int.mul_one]
  exact .int _
theorem itr_rngC {F : Hp} {lo c : Int} {m : Nat} (h : m ≤ sizeLine) : ItR n X.K X.mg F (Itc lo c m) (upto m lo c) := by
  refine ⟨fun i H _ hi => by rw [upto_len] at hi; exact hi, fun i H _ hi => by rw [upto_len] at hi; exact hi, fun i H v H' _ hy d hd => .inl ⟨hy.1, ?_⟩, by rw [upto_len]; exact h⟩
  obtain ⟨h1, h2⟩ := upto_get c m lo i d hd
  rw [hy.2, h2]
  exact .int _
def tIt (n : Nm) (K : PySem.W.Frag) (mg : Str → Option Value) (p : Addr) (T : Nat → Fn) (W : WX) (i : Z.It) : TI :=
  fun σ H R => ∃ F e, Stt n K mg p F σ H e ∧ Out n K mg p W σ F H e (evi T n.gv i e) fun F' H' _ items => ∀ J, ItR n K mg F' J items → R J H'
def ISound (n : Nm) (X : Cx) (p : Addr) (T : Nat → Fn) (W : WX) (tg x : Expr) (i : Z.It) : Prop := PI X tg x (tIt n X.K X.mg p T W i)
theorem i_seq {tg : Expr} (ha : PE X x (tD n X.K X.mg p T W a)) : ISound n X p T W tg x (.seq a) := by
  refine weakI (pi_any ha) fun σ H R ⟨F, e, S, q⟩ => ?_
  refine ⟨F, e, S, (Out.bind q).mono fun F1 H1 e1 d ⟨s1, S1, q1⟩ v r => ?_⟩
  obtain ⟨items, hi, q2⟩ := Out.lift S1 q1
  cases d <;> first | (exact no_some hi) | skip
  · cases hi
    cases r with
    | @tup a vs _ h1 h2 h3 => exact ⟨a, rfl, .inr ⟨⟨vs, SqT.up h1 S1.sub⟩, Out.here S1 q2 _ (itr_tup h1 h2 h3)⟩⟩
  · cases hi
    cases r with
    | @lst a vs _ h1 h2 h3 => exact ⟨a, rfl, .inl ⟨⟨vs, SqL.up h1 S1.sub⟩, Out.here S1 q2 _ (itr_list h1 h2 h3)⟩⟩
theorem Rps.int1 {F : Hp} {vs : List V} {i : Int} (h : Rps n X.K X.mg F vs [.int i]) : vs = [.int i] := by
  cases h with
  | cons h t => cases t; cases h; rfl
theorem Rps.int2 {F : Hp} {vs : List V} {i j : Int} (h : Rps n X.K X.mg F vs [.int i, .int j]) : vs = [.int i, .int j] := by
  cases h with
  | cons h t => cases h; rw [Rps.int1 t]
theorem Rps.int3 {F : Hp} {vs : List V} {i j k : Int} (h : Rps n X.K X.mg F vs [.int i, .int j, .int k]) : vs = [.int i, .int j, .int k] := by
  cases h with
  | cons h t => cases h; rw [Rps.int2 t]
theorem rng_size {i j c : Int} (hc : c ≠ 0) : Builtin.Range.rangeSize i j c = rngN i j c := by
  unfold Builtin.Range.rangeSize rngN
  by_cases h : 0 < c
  · rw [if_pos h, if_pos h]
    by_cases h2 : i < j
    · rw [if_pos h2, if_pos h2]
      have : 0 ≤ (j - i - 1) / c := Int.ediv_nonneg (by omega) (by omega)
      omega
    · rw [if_neg h2, if_neg h2]; rfl
  · rw [if_neg h, if_neg h]
    by_cases h2 : j < i
    · rw [if_pos h2, if_pos h2]
      have : 0 ≤ (i - j - 1) / (-c) := Int.ediv_nonneg (by omega) (by omega)
      omega
    · rw [if_neg h2, if_neg h2]; rfl
theorem rng_small {i j c : Int} (hc : c ≠ 0) (hc1 : -1000 ≤ c) (hc2 : c ≤ 1000) (h1 : -(2 ^ 62) ≤ i) (h2 : i < 2 ^ 62) (h3 : -(2 ^ 62) ≤ j) (h4 : j < 2 ^ 62) (h5 : rngN i j c ≤ LIM) : Builtin.Range.small i j c = true := by
  unfold Builtin.Range.small
  rw [rng_size hc]
  have f : ∀ z : Int, -(2 ^ 63) ≤ z → z < 2 ^ 63 → Builtin.Range.rangeFitsLong z = true := fun z a b => by
    unfold Builtin.Range.rangeFitsLong
    rw [decide_eq_true a, decide_eq_true b]
    rfl
  have hL : (LIM : Int) = 16777216 := rfl
  rw [f i (by omega) (by omega), f j (by omega) (by omega), f c (by omega) (by omega), f (rngN i j c) (by omega) (by omega)]
  split
  · rw [f (j + (c - 1)) (by omega) (by omega)]
    simp
  · rw [f (j + (c + 1)) (by omega) (by omega)]
    simp
theorem i_rng {k : Nat} {tg : Expr} {w : Str} {p1 : Pos} {es : Es} {xs : List Expr} (g : Gd n T k X) (hw : w = "range") (hg : okG X.env.scope w = true) (hs : PA X xs (tDs n X.K X.mg p T W es)) (hb : ∀ y ∈ xs, badE y = false) (hl : xs.length = es.len) (h3 : es.len ≤ 3) :
    ISound n X p T W tg (.Call (.Name w p1) xs [] pos) (.rng es) := by
  subst hw
  obtain ⟨a1, a2, a3⟩ := gl_of hg
  have hm := g.blt "range" (by decide)
  have key : ∀ {t : TI}, PI X tg (.Call (.Name "range" p1) xs [] pos) t → (∀ σ H R, (∃ F e, Stt n X.K X.mg p F σ H e ∧ Out n X.K X.mg p W σ F H e (evs T n.gv es e) fun F' H' e' ds => Stt n X.K X.mg p F' σ H' e' ∧ ds.length = es.len ∧ ∃ items, rngD ds = some items ∧ ∀ J, ItR n X.K X.mg F' J items → R J H') → t σ H R) →
      ISound n X p T W tg (.Call (.Name "range" p1) xs [] pos) (.rng es) := fun hp hw => by
    refine weakI hp fun σ H R ⟨F, e, S, q⟩ => hw σ H R ⟨F, e, S, (evs_keep (Out.bind q)).mono fun F1 H1 e1 ds ⟨hd, s1, S1, q1⟩ => ?_⟩
    obtain ⟨items, hi, q2⟩ := Out.lift S1 q1
    exact ⟨S1, hd, items, hi, fun J hJ => Out.here S1 q2 J hJ⟩
  rcases xs with _ | ⟨x, _ | ⟨y, _ | ⟨z, _ | ⟨w, r⟩⟩⟩⟩
  rotate_left
  · -- one
    have gx := hb x (by simp)
    refine key (pi_range1 a1 hm hs (good_star gx [] X.env)) fun σ H R ⟨F, e, S, q⟩ => ⟨F, e, S, q.mono fun F1 H1 e1 ds ⟨S1, hd, items, hi, hJ⟩ vs rs => ?_⟩
    have l1 : ds.length = 1 := by rw [hd, ← hl]; rfl
    match ds, l1, hi, rs with
    | [d], _, hi, rs =>
      obtain ⟨j, rfl⟩ : ∃ j, d = .int j := by cases d <;> first | (exact no_some hi) | (exact ⟨_, rfl⟩)
      have hi' : (if small62 j && decide (j ≤ LIM) then some (upto j.toNat 0 1) else none) = some items := hi
      split at hi'
      case isFalse => cases hi'
      rename_i hc
      cases hi'
      obtain ⟨c1, c2⟩ := and1 hc
      obtain ⟨c3, c4⟩ := and1 c1
      have c2' := of_decide_eq_true c2
      exact ⟨j, rs.int1, of_decide_eq_true c3, of_decide_eq_true c4, hJ _ (itr_rng (by unfold LIM at c2'; rw [sizeLine_eq]; omega))⟩
  · -- two
    have gx := hb x (by simp)
    have gy := hb y (by simp)
    refine key (pi_range2 a1 hm hs (by rw [good_star gx, good_star gy]; rfl) (good_star gy [] X.env)) fun σ H R ⟨F, e, S, q⟩ => ⟨F, e, S, q.mono fun F1 H1 e1 ds ⟨S1, hd, items, hi, hJ⟩ vs rs => ?_⟩
    have l1 : ds.length = 2 := by rw [hd, ← hl]; rfl
    match ds, l1, hi, rs with
    | [d, d'], _, hi, rs =>
      obtain ⟨i, rfl⟩ : ∃ j, d = .int j := by cases d <;> first | (exact no_some hi) | (exact ⟨_, rfl⟩)
      obtain ⟨j, rfl⟩ : ∃ j, d' = .int j := by cases d' <;> first | (exact no_some hi) | (exact ⟨_, rfl⟩)
      have hi' : (if small62 i && small62 j && decide (j - i ≤ LIM) then some (upto (j - i).toNat i 1) else none) = some items := hi
      split at hi'
      case isFalse => cases hi'
      rename_i hc
      cases hi'
      obtain ⟨c0, c2⟩ := and1 hc
      obtain ⟨c1, c5⟩ := and1 c0
      obtain ⟨c3, c4⟩ := and1 c1
      obtain ⟨c6, c7⟩ := and1 c5
      have c2' := of_decide_eq_true c2
      exact ⟨i, j, rs.int2, ⟨of_decide_eq_true c3, of_decide_eq_true c4, of_decide_eq_true c6, of_decide_eq_true c7⟩, hJ _ (itr_rng (by unfold LIM at c2'; rw [sizeLine_eq]; omega))⟩
  · -- three
    have gx := hb x (by simp)
    have gy := hb y (by simp)
    have gz := hb z (by simp)
    refine key (pi_range3 a1 hm hs (good_star gx _ X.env) (good_stars _ _ [y, z] fun w hw => by
      rcases List.mem_cons.mp hw with rfl | hw
      · exact gy
      · have : w = z := by simpa using hw
        rw [this]; exact gz)) fun σ H R ⟨F, e, S, q⟩ => ⟨F, e, S, q.mono fun F1 H1 e1 ds ⟨S1, hd, items, hi, hJ⟩ vs rs => ?_⟩
    have l1 : ds.length = 3 := by rw [hd, ← hl]; rfl
    match ds, l1, hi, rs with
    | [d, d', d''], _, hi, rs =>
      obtain ⟨i, rfl⟩ : ∃ j, d = .int j := by cases d <;> first | (exact no_some hi) | (exact ⟨_, rfl⟩)
      obtain ⟨j, rfl⟩ : ∃ j, d' = .int j := by cases d' <;> first | (exact no_some hi) | (exact ⟨_, rfl⟩)
      obtain ⟨c, rfl⟩ : ∃ j, d'' = .int j := by cases d'' <;> first | (exact no_some hi) | (exact ⟨_, rfl⟩)
      have hi' : (if small62 i && small62 j && decide (-1000 ≤ c) && decide (c ≤ 1000) && decide (c ≠ 0) && decide (rngN i j c ≤ LIM) then some (upto (rngN i j c) i c) else none) = some items := hi
      split at hi'
      case isFalse => cases hi'
      rename_i hc
      cases hi'
      simp only [Bool.and_eq_true, decide_eq_true_eq, small62] at hc
      obtain ⟨⟨⟨⟨⟨⟨c1, c2⟩, c3, c4⟩, c5⟩, c6⟩, c7⟩, c8⟩ := hc
      exact ⟨i, j, c, rngN i j c, rs.int3, ⟨c7, by omega, rng_small c7 c5 c6 c1 c2 c3 c4 c8, rng_size c7⟩, hJ _ (itr_rngC c8)⟩
  · exact absurd (by rw [← hl] at h3; simpa using h3) (show ¬ (r.length + 1 + 1 + 1 + 1 ≤ 3) by omega)
  · refine ⟨fun pins s σ H R I h => ?_⟩
    obtain ⟨F, e, S, q⟩ := h
    exfalso
    cases es with
    | nil => exact q
    | cons _ _ => simp [Es.len] at hl

end
section
variable {n : Nm} {K : PySem.W.Frag} {mg : Str → Option Value} {p : Addr}
/-! ### a comprehension's slots -/
theorem wipeE_len (e : Env) : ∀ vs : List Nat, (wipeE e vs).length = e.length
  | [] => rfl
  | v :: vs => by show ((wipeE e vs).set v .no).length = e.length; rw [List.length_set, wipeE_len e vs]
theorem wipeE_out {e : Env} {i : Nat} : ∀ {vs : List Nat}, i ∉ vs → (wipeE e vs)[i]? = e[i]?
  | [], _ => rfl
  | v :: vs, h => by
    have h1 : v ≠ i := fun z => h (by rw [z]; exact List.mem_cons_self)
    show ((wipeE e vs).set v .no)[i]? = e[i]?
    rw [List.getElem?_set_ne h1]
    exact wipeE_out fun z => h (List.mem_cons_of_mem _ z)
theorem wipeE_in {e : Env} {i : Nat} {c : Cl} : ∀ {vs : List Nat}, i ∈ vs → (wipeE e vs)[i]? = some c → c = .no
  | [], h, _ => absurd h (by simp)
  | v :: vs, h, hc => by
    have hc' : ((wipeE e vs).set v .no)[i]? = some c := hc
    by_cases hv : v = i
    · subst hv
      by_cases hl : v < (wipeE e vs).length
      · rw [List.getElem?_set_self hl] at hc'
        exact (Option.some.inj hc').symm
      · rw [List.getElem?_eq_none (by rw [List.length_set]; omega)] at hc'
        cases hc'
    · rw [List.getElem?_set_ne hv] at hc'
      exact wipeE_in (by rcases List.mem_cons.mp h with z | z
                         · exact absurd z.symm hv
                         · exact z) hc'
theorem wipeE_some {e : Env} {i : Nat} {c : Cl} {vs : List Nat} (h : (wipeE e vs)[i]? = some c) (hc : c ≠ .no) : i ∉ vs ∧ e[i]? = some c := by
  by_cases hi : i ∈ vs
  · exact absurd (wipeE_in hi h) hc
  · rw [wipeE_out hi] at h
    exact ⟨hi, h⟩
theorem backE_len (e : Env) : ∀ (vs : List Nat) (f : Env), (backE e vs f).length = f.length
  | [], _ => rfl
  | v :: vs, f => by show ((backE e vs f).set v _).length = f.length; rw [List.length_set, backE_len e vs f]
theorem backE_out {e f : Env} {i : Nat} : ∀ {vs : List Nat}, i ∉ vs → (backE e vs f)[i]? = f[i]?
  | [], _ => rfl
  | v :: vs, h => by
    have h1 : v ≠ i := fun z => h (by rw [z]; exact List.mem_cons_self)
    show ((backE e vs f).set v _)[i]? = f[i]?
    rw [List.getElem?_set_ne h1]
    exact backE_out fun z => h (List.mem_cons_of_mem _ z)
theorem backE_in {e f : Env} {i : Nat} {c : Cl} : ∀ {vs : List Nat}, i ∈ vs → (backE e vs f)[i]? = some c → c = e.getD i .no
  | [], h, _ => absurd h (by simp)
  | v :: vs, h, hc => by
    have hc' : ((backE e vs f).set v (e.getD v .no))[i]? = some c := hc
    by_cases hv : v = i
    · subst hv
      by_cases hl : v < (backE e vs f).length
      · rw [List.getElem?_set_self hl] at hc'
        exact (Option.some.inj hc').symm
      · rw [List.getElem?_eq_none (by rw [List.length_set]; omega)] at hc'
        cases hc'
    · rw [List.getElem?_set_ne hv] at hc'
      exact backE_in (by rcases List.mem_cons.mp h with z | z
                         · exact absurd z.symm hv
                         · exact z) hc'
theorem Stt.clr {F H : Hp} {σ : L2.St} {e : Env} (S : Stt n K mg p F σ H e) (vs : List Nat) : Stt n K mg p F (wipe σ vs) H (wipeE e vs) := by
  refine ⟨S.sub, by rw [wipe_length, wipeE_len]; exact S.len, fun i d h => ?_, fun i k ds h => ?_, fun i j k l ds es a h1 h2 h3 h4 => ?_⟩
  · obtain ⟨hi, h'⟩ := wipeE_some h (fun z => nomatch z)
    obtain ⟨v, g1, g2⟩ := S.dat i d h'
    exact ⟨v, by rw [wipe_out hi]; exact g1, g2⟩
  · obtain ⟨hi, h'⟩ := wipeE_some h (fun z => nomatch z)
    obtain ⟨a, ws, g1, g2⟩ := S.own i k ds h'
    exact ⟨a, ws, by rw [wipe_out hi]; exact g1, g2⟩
  · obtain ⟨hi, h1'⟩ := wipeE_some h1 (fun z => nomatch z)
    obtain ⟨hj, h2'⟩ := wipeE_some h2 (fun z => nomatch z)
    rw [wipe_out hi] at h3
    rw [wipe_out hj] at h4
    exact S.apart i j k l ds es a h1' h2' h3 h4
theorem owns.clr {σ : L2.St} {e : Env} {vs : List Nat} {b : Addr} (h : owns (wipe σ vs) (wipeE e vs) b) : owns σ e b := by
  obtain ⟨i, k, ds, h1, h2⟩ := h
  obtain ⟨hi, h1'⟩ := wipeE_some h1 (fun z => nomatch z)
  rw [wipe_out hi] at h2
  exact ⟨i, k, ds, h1', h2⟩
/-- behind a comprehension: its own slots as they were -/
theorem Stt.back {F H F' H' : Hp} {σ : L2.St} {e f : Env} {vs : List Nat} (S : Stt n K mg p F σ H e) (s : Step F H (owns (wipe σ vs) (wipeE e vs)) F' H' (owns (wipe σ vs) (wipeE f vs))) (S' : Stt n K mg p F' (wipe σ vs) H' (wipeE f vs)) :
    Stt n K mg p F' σ H' (backE e vs f) ∧ (∀ b, owns σ (backE e vs f) b → owns σ e b ∨ owns (wipe σ vs) (wipeE f vs) b) := by
  have old : ∀ {i : Nat} {c : Cl}, i ∈ vs → (backE e vs f)[i]? = some c → c ≠ .no → e[i]? = some c := fun {i c} hi h hc => by
    have := backE_in hi h
    exact getD_get this.symm hc
  have new : ∀ {i : Nat} {c : Cl}, i ∉ vs → (backE e vs f)[i]? = some c → (wipeE f vs)[i]? = some c ∧ (wipe σ vs)[i]? = σ[i]? := fun {i c} hi h => by
    rw [backE_out hi] at h
    exact ⟨by rw [wipeE_out hi]; exact h, wipe_out hi⟩
  -- an old list in a comprehension's own slot is nobody's within
  have safe : ∀ {i : Nat} {k : Bool} {ds : List D} {a : Addr}, i ∈ vs → e[i]? = some (Cl.own k ds) → σ[i]? = some (some (.ref a)) → ¬ owns (wipe σ vs) (wipeE e vs) a := fun {i k ds a} hi h1 h2 ⟨j, l, es, g1, g2⟩ => by
    obtain ⟨hj, g1'⟩ := wipeE_some g1 (fun z => nomatch z)
    rw [wipe_out hj] at g2
    exact hj (S.apart i j k l ds es a h1 g1' h2 g2 ▸ hi)
  refine ⟨⟨S'.sub, by rw [backE_len]; have := S'.len; rw [wipe_length, wipeE_len] at this; exact this, fun i d h => ?_, fun i k ds h => ?_, fun i j k l ds es a h1 h2 h3 h4 => ?_⟩, fun b ⟨i, k, ds, h1, h2⟩ => ?_⟩
  · by_cases hi : i ∈ vs
    · obtain ⟨v, g1, g2⟩ := S.dat i d (old hi h (fun z => nomatch z))
      exact ⟨v, g1, g2.up s.ext⟩
    · obtain ⟨g, g'⟩ := new hi h
      obtain ⟨v, g1, g2⟩ := S'.dat i d g
      exact ⟨v, by rw [← g']; exact g1, g2⟩
  · by_cases hi : i ∈ vs
    · have h' := old hi h (fun z => nomatch z)
      obtain ⟨a, ws, g1, g2, g3, g4, g5, g6⟩ := S.own i k ds h'
      have na := safe hi h' g1
      refine ⟨a, ws, g1, s.keep a _ g2 na, ?_, g4, g5.up s.ext, g6⟩
      cases r : F' a with
      | none => rfl
      | some o =>
        rcases s.new a o r with ⟨u, z⟩ | z | z
        · rw [g3] at z; cases z
        · rw [g2] at z; cases z
        · exact absurd z na
    · obtain ⟨g, g'⟩ := new hi h
      obtain ⟨a, ws, g1, g2⟩ := S'.own i k ds g
      exact ⟨a, ws, by rw [← g']; exact g1, g2⟩
  · have cross : ∀ {i j : Nat} {k l : Bool} {ds es : List D}, i ∈ vs → j ∉ vs → e[i]? = some (Cl.own k ds) → (wipeE f vs)[j]? = some (Cl.own l es) → σ[i]? = some (some (.ref a)) → σ[j]? = some (some (.ref a)) → False := fun {i j k l ds es} hi hj z1 z2 z3 z4 => by
      have na := safe hi z1 z3
      have ow : owns (wipe σ vs) (wipeE f vs) a := ⟨j, l, es, z2, by rw [wipe_out hj]; exact z4⟩
      rcases s.own a ow with q | q
      · exact na q
      · obtain ⟨c, ws, y1, y2, _⟩ := S.own i k ds z1
        rw [z3] at y1
        cases y1
        rw [q] at y2; cases y2
    by_cases hi : i ∈ vs
    · have h1' := old hi h1 (fun z => nomatch z)
      by_cases hj : j ∈ vs
      · exact S.apart i j k l ds es a h1' (old hj h2 (fun z => nomatch z)) h3 h4
      · exact (cross hi hj h1' (new hj h2).1 h3 h4).elim
    · by_cases hj : j ∈ vs
      · exact (cross hj hi (old hj h2 (fun z => nomatch z)) (new hi h1).1 h4 h3).elim
      · obtain ⟨y1, y1'⟩ := new hi h1
        obtain ⟨y2, y2'⟩ := new hj h2
        exact S'.apart i j k l ds es a y1 y2 (by rw [y1']; exact h3) (by rw [y2']; exact h4)
  · by_cases hi : i ∈ vs
    · exact .inl ⟨i, k, ds, old hi h1 (fun z => nomatch z), h2⟩
    · obtain ⟨g, g'⟩ := new hi h1
      exact .inr ⟨i, k, ds, g, by rw [g']; exact h2⟩
/-- the list that a comprehension fills is nobody's else -/
theorem Stt.other {F H : Hp} {σ : L2.St} {e : Env} {q : Addr} {o : HO} (S : Stt n K mg p F σ H e) (hF : F q = none) (ho : ¬ owns σ e q) : Stt n K mg p F σ (upd H q o) e := by
  refine ⟨fun b u h => ?_, S.len, S.dat, fun i k ds h => ?_, S.apart⟩
  · have h1 := S.sub b u h
    rw [upd_ne (ne_of_none h hF)]; exact h1
  · obtain ⟨c, ws, h1, h2, h3⟩ := S.own i k ds h
    have hc : c ≠ q := fun z => ho ⟨i, k, ds, h, z ▸ h1⟩
    exact ⟨c, ws, h1, by rw [upd_ne hc]; exact h2, h3⟩
theorem Step.other {F H F' H' : Hp} {P P' : Addr → Prop} {q : Addr} {o : HO} (s : Step F H P F' H' P') (hq : H q = none) : Step F H P F' (upd H' q o) P' :=
  ⟨s.ext, s.new, fun b u h hp => by rw [upd_ne (ne_of_none h hq)]; exact s.keep b u h hp, s.own⟩
theorem Step.less {F H F' H' : Hp} {P P' P2 : Addr → Prop} (s : Step F H P F' H' P') (h : ∀ b, P2 b → P' b) : Step F H P F' H' P2 := ⟨s.ext, s.new, s.keep, fun b hb => s.own b (h b hb)⟩
/-- what is not owned stays as it is -/
theorem Step.stay {F H F' H' : Hp} {P P' : Addr → Prop} {q : Addr} {o : HO} (s : Step F H P F' H' P') (h : H q = some o) (hF : F q = none) (hp : ¬ P q) : H' q = some o ∧ F' q = none ∧ ¬ P' q := by
  refine ⟨s.keep q o h hp, ?_, fun z => ?_⟩
  · cases r : F' q with
    | none => rfl
    | some u =>
      rcases s.new q u r with ⟨w, z⟩ | z | z
      · rw [hF] at z; cases z
      · rw [h] at z; cases z
      · exact absurd z hp
  · rcases s.own q z with y | y
    · exact hp y
    · rw [h] at y; cases y
end
end Z

/-! Z3h: comprehensions. -/
namespace Z
open PySem PySem.Spec L2
section
variable {n : Nm} {X : Cx} {p : Addr} {T : Nat → Fn} {W : WX} {a b c : E} {x y z : Expr} {pos : Pos}
abbrev W0 : WX := fun _ _ _ _ => False
theorem bind_ok {α β : Type} {r : R α} {f : α → Env → R β} {b : β} {e' : Env} (h : r.bind f = .ok b e') : ∃ a e1, r = .ok a e1 ∧ f a e1 = .ok b e' := by
  cases r with
  | no => cases h
  | ex x e1 => cases h
  | ok a e1 => exact ⟨a, e1, rfl, h⟩
theorem lift_ok {α : Type} {o : Option α} {a : α} {e e' : Env} (h : R.lift o e = .ok a e') : o = some a ∧ e' = e := by
  cases o with
  | none => cases h
  | some b =>
    have h' : R.ok b e = .ok a e' := h
    cases h'
    exact ⟨rfl, rfl⟩
/-- one turn's end -/
theorem turns_cons {f : D → Env → R (List D)} {d : D} {ds zs : List D} {e e' : Env} (h : turns f (d :: ds) e = .ok zs e') : ∃ ys e1 ws, f d e = .ok ys e1 ∧ turns f ds e1 = .ok ws e' ∧ zs = ys ++ ws := by
  have h' : ((f d e).bind fun ys e1 => (turns f ds e1).bind fun zs e2 => R.ok (ys ++ zs) e2) = .ok zs e' := h
  cases q : f d e with
  | no => rw [q] at h'; cases h'
  | ex x e1 => rw [q] at h'; cases h'
  | ok ys e1 =>
    rw [q] at h'
    have h2 : ((turns f ds e1).bind fun zs e2 => R.ok (ys ++ zs) e2) = .ok zs e' := h'
    cases q2 : turns f ds e1 with
    | no => rw [q2] at h2; cases h2
    | ex x e2 => rw [q2] at h2; cases h2
    | ok ws e2 =>
      rw [q2] at h2
      have h3 : R.ok (ys ++ ws) e2 = .ok zs e' := h2
      cases h3
      exact ⟨ys, e1, ws, rfl, q2, rfl⟩
/-- a state's step inside of a turn, with the list that is filled -/
structure Mid2 (n : Nm) (K : PySem.W.Frag) (mg : Str → Option Value) (p : Addr) (F1 H1 : Hp) (P1 : Addr → Prop) (σ : L2.St) (D₀ : Addr) (F H : Hp) (e : Env) (acc : List D) : Prop where
  step : Step F1 H1 P1 F H (owns σ e)
  stt : Stt n K mg p F σ H e
  ex : ∃ ws, H D₀ = some (.lst ws) ∧ F D₀ = none ∧ ¬ owns σ e D₀ ∧ Rps n K mg F ws acc
theorem Mid2.go {K : PySem.W.Frag} {mg : Str → Option Value} {F1 H1 : Hp} {P1 : Addr → Prop} {σ : L2.St} {D₀ : Addr} {F H F' H' : Hp} {e e' : Env} {acc : List D} (m : Mid2 n K mg p F1 H1 P1 σ D₀ F H e acc)
    (s : Step F H (owns σ e) F' H' (owns σ e')) (S : Stt n K mg p F' σ H' e') : Mid2 n K mg p F1 H1 P1 σ D₀ F' H' e' acc := by
  obtain ⟨ws, h1, h2, h3, h4⟩ := m.ex
  obtain ⟨g1, g2, g3⟩ := s.stay h1 h2 h3
  exact ⟨m.step.trans s, S, ws, g1, g2, g3, h4.up s.ext⟩
theorem Mid2.add {K : PySem.W.Frag} {mg : Str → Option Value} {F1 H1 : Hp} {P1 : Addr → Prop} {σ : L2.St} {D₀ : Addr} {F H : Hp} {e : Env} {acc : List D} {v : V} {d : D} (m : Mid2 n K mg p F1 H1 P1 σ D₀ F H e acc) (hD : H1 D₀ = none)
    (hv : Rp n K mg F v d) : ∃ ws, H D₀ = some (.lst ws) ∧ ws.length = acc.length ∧ Mid2 n K mg p F1 H1 P1 σ D₀ F (upd H D₀ (.lst (ws ++ [v]))) e (acc ++ [d]) := by
  obtain ⟨ws, h1, h2, h3, h4⟩ := m.ex
  exact ⟨ws, h1, h4.length, m.step.other hD, m.stt.other h2 h3, ws ++ [v], upd_same, h2, h3, h4.app (.cons hv .nil)⟩
/-- .. with a target's slots given -/
theorem Mid2.tgt {K : PySem.W.Frag} {mg : Str → Option Value} {F1 H1 : Hp} {P1 : Addr → Prop} {σ σ' : L2.St} {D₀ : Addr} {F H : Hp} {e e' : Env} {acc : List D} (m : Mid2 n K mg p F1 H1 P1 σ D₀ F H e acc)
    (S : Stt n K mg p F σ' H e') (o : ∀ b, owns σ' e' b → owns σ e b) : Mid2 n K mg p F1 H1 P1 σ' D₀ F H e' acc := by
  obtain ⟨ws, h1, h2, h3, h4⟩ := m.ex
  exact ⟨m.step.less o, S, ws, h1, h2, fun z => h3 (o _ z), h4⟩
/-- an item handed on: what it is by then -/
theorem Mid2.item {K : PySem.W.Frag} {mg : Str → Option Value} {F0 F1 H1 : Hp} {P1 : Addr → Prop} {σ : L2.St} {D₀ : Addr} {F H H' : Hp} {e : Env} {acc items : List D} {J : L2.It} {i : Nat} {v : V} {d : D} (m : Mid2 n K mg p F1 H1 P1 σ D₀ F H e acc)
    (hJ : ItR n K mg F0 J items) (up : ∀ b o, F0 b = some o → F b = some o) (hy : J.yld i H v H') (hd : items[i]? = some d) : ∃ F', Mid2 n K mg p F1 H1 P1 σ D₀ F' H' e acc ∧ Rp n K mg F' v d ∧ ∀ b o, F b = some o → F' b = some o := by
  rcases hJ.yld i H v H' (fun b o h => m.stt.sub b o (up b o h)) hy d hd with ⟨rfl, r⟩ | ⟨q, vs, ds, hq, rfl, rfl, rfl, hl, rs⟩
  · exact ⟨F, m, r.up up, fun _ _ h => h⟩
  · refine ⟨upd F q (.tup vs), m.go (Step.allocF m.stt hq) (m.stt.allocF hq), .tup (.inl (.inl upd_same)) hl (rs.up fun b o h => ?_), fun b o h => ?_⟩
    · rw [upd_ne (ne_of_none (up b o h) (m.stt.noF hq))]; exact up b o h
    · rw [upd_ne (ne_of_none h (m.stt.noF hq))]; exact h
theorem Step.fresh {F H F' H' : Hp} {P P' : Addr → Prop} {q : Addr} (s : Step F H P F' H' P') (h : H' q = none) : H q = none ∨ P q := by
  cases z : H q with
  | none => exact .inl rfl
  | some o =>
    refine .inr ?_
    by_cases hp : P q
    · exact hp
    · have := s.keep q o z hp
      rw [h] at this; cases this
theorem wipe_twice (σ : L2.St) (vs : List Nat) : wipe (wipe σ vs) vs = wipe σ vs := by
  refine List.ext_getElem? fun j => ?_
  by_cases hj : j ∈ vs
  · by_cases hl : j < σ.length
    · rw [wipe_at hj (by rw [wipe_length]; exact hl), wipe_at hj hl]
    · rw [List.getElem?_eq_none (by rw [wipe_length, wipe_length]; omega), List.getElem?_eq_none (by rw [wipe_length]; omega)]
  · rw [wipe_out hj]
/-- the start of a comprehension -/
theorem Mid2.start {K : PySem.W.Frag} {mg : Str → Option Value} {F1 H1 : Hp} {σ : L2.St} {D₀ : Addr} {e1 : Env} (S1 : Stt n K mg p F1 σ H1 e1) (hD : H1 D₀ = none) (vs : List Nat) :
    Mid2 n K mg p F1 H1 (owns (wipe σ vs) (wipeE e1 vs)) (wipe σ vs) D₀ F1 (upd H1 D₀ (.lst [])) (wipeE e1 vs) [] :=
  ⟨Step.refl.other hD, (S1.clr vs).alloc hD, [], upd_same, S1.noF hD, (S1.clr vs).noOwn hD, .nil⟩
/-- .. and its end -/
theorem Mid2.done {K : PySem.W.Frag} {mg : Str → Option Value} {F0 H0 F1 H1 F H : Hp} {P0 : Addr → Prop} {σ : L2.St} {D₀ : Addr} {e1 e6 : Env} {vs : List Nat} {ds : List D} (s : Step F0 H0 P0 F1 H1 (owns σ e1)) (S1 : Stt n K mg p F1 σ H1 e1) (hD : H1 D₀ = none)
    (m : Mid2 n K mg p F1 H1 (owns (wipe σ vs) (wipeE e1 vs)) (wipe σ vs) D₀ F H (wipeE e6 vs) ds) (hl : ds.length ≤ sizeLine) :
    Step F1 H1 (owns σ e1) F H (owns σ (backE e1 vs e6)) ∧ Stt n K mg p F σ H (backE e1 vs e6) ∧ RC n K mg F H (.ref D₀) (.own false ds) P0 H0 (owns σ (backE e1 vs e6)) := by
  obtain ⟨B, ob⟩ := S1.back m.step m.stt
  obtain ⟨ws, h1, h2, h3, h4⟩ := m.ex
  have noD : ¬ owns σ (backE e1 vs e6) D₀ := fun z => by
    rcases ob _ z with y | y
    · exact S1.noOwn hD y
    · exact h3 y
  refine ⟨⟨m.step.ext, fun b o h => ?_, fun b o h hp => m.step.keep b o h fun z => hp z.clr, fun b h => ?_⟩, B, rfl, D₀, ws, rfl, h1, h2, by rw [h4.length]; exact hl, h4, noD, s.fresh hD⟩
  · rcases m.step.new b o h with z | z | z
    · exact .inl z
    · exact .inr (.inl z)
    · exact .inr (.inr z.clr)
  · rcases ob b h with y | y
    · exact .inl y
    · rcases m.step.own b y with z | z
      · exact .inl z.clr
      · exact .inr z
/-- the turns of a comprehension, its iterator made -/
theorem cm1_core {elt : E} {t : Tg} {cd : Oe} {vs : List Nat} {F0 H0 F1 H1 : Hp} {P0 : Addr → Prop} {σ : L2.St} {e1 : Env} {items : List Z.D} {J : L2.It} {Q : VK} (htg : tgIn t vs = true) {tt : TT}
    (htq : ∀ σ H Q, (∃ F e, Stt n X.K X.mg p F σ H e ∧ Out n X.K X.mg p W0 σ F H e (evc T n.gv cd e) fun _ H' _ b => Q b H') → tt σ H Q) (s1 : Step F0 H0 P0 F1 H1 (owns σ e1)) (S1 : Stt n X.K X.mg p F1 σ H1 e1) (hJ : ItR n X.K X.mg F1 J items)
    (q1 : Out n X.K X.mg p W σ F1 H1 e1 ((shut (turns (fun (d : Z.D) (e2 : Env) => (R.lift (bindTg t d (wipeE e2 vs)) e2).bind fun e3 _ => (evc T n.gv cd e3).bind fun k e4 => if k then (data (ev T n.gv elt e4)).bind fun y e5 => R.ok [y] e5 else R.ok [] e4) items e1)).bind fun ds e6 => R.ok (Cl.own false ds) (backE e1 vs e6))
      fun F' H' e' r => ∀ v, RC n X.K X.mg F' H' v r P0 H0 (owns σ e') → Q v H') : ∀ D, H1 D = none → ∃ W : Nat → Nat → Hp → Prop, (∃ m, W 0 m (upd H1 D (.lst []))) ∧ ∀ i m H, W i m H →
      (J.stop i H ∧ Q (.ref D) H) ∨ (J.go i H ∧ ∃ Nx : Hp → Prop, (∀ H', Nx H' → ∃ m', m' < m ∧ W (i + 1) m' H') ∧ ∀ x H', J.yld i H x H' → gOf X.K t x (wipe σ vs) H' fun σ2 H2 => wipe σ2 vs = wipe σ vs ∧ tt σ2 H2 fun b H3 =>
        if b = true then tD n X.K X.mg p T W0 elt σ2 H3 fun y H4 => ∃ acc, H4 D = some (.lst acc) ∧ acc.length < sizeLine ∧ Nx (upd H4 D (.lst (acc ++ [y]))) else Nx H3) := by
  intro D hD
  generalize hf : (fun (d : Z.D) (e2 : Env) => (R.lift (bindTg t d (wipeE e2 vs)) e2).bind fun e3 _ => (evc T n.gv cd e3).bind fun k e4 => if k then (data (ev T n.gv elt e4)).bind fun y e5 => R.ok [y] e5 else R.ok [] e4) = f at q1
  cases ht0 : turns f items e1 with
  | no => rw [ht0] at q1; exact q1.elim
  | ex x e6 => rw [ht0] at q1; exact q1.elim
  | ok ds e6 =>
  rw [ht0] at q1
  have q2 : Out n X.K X.mg p W σ F1 H1 e1 (.ok (Cl.own false ds) (backE e1 vs e6)) _ := q1
  refine ⟨fun i m H => m = items.length - i ∧ i ≤ items.length ∧ ∃ F2 e2 acc zs, Mid2 n X.K X.mg p F1 H1 (owns (wipe σ vs) (wipeE e1 vs)) (wipe σ vs) D F2 H (wipeE e2 vs) acc ∧ turns f (items.drop i) e2 = .ok zs e6 ∧ ds = acc ++ zs ∧ acc.length ≤ i,
    ⟨items.length, rfl, Nat.zero_le _, F1, e1, [], ds, Mid2.start S1 hD vs, by rw [List.drop_zero]; exact ht0, rfl, Nat.le_refl _⟩, ?_⟩
  rintro i m H2 ⟨rfl, hi', F2, e2, acc, zs, md, htn, hds, hacc⟩
  have sub2 : ∀ b o, F1 b = some o → H2 b = some o := fun b o h => md.stt.sub b o (md.step.ext b o h)
  by_cases hlt : i < items.length
  · refine .inr ⟨hJ.go i H2 sub2 hlt, ?_⟩
    rw [List.drop_eq_getElem_cons hlt] at htn
    obtain ⟨ys, e3, ws, hfd, htn', rfl⟩ := turns_cons htn
    refine ⟨fun H' => ∃ F3, Mid2 n X.K X.mg p F1 H1 (owns (wipe σ vs) (wipeE e1 vs)) (wipe σ vs) D F3 H' (wipeE e3 vs) (acc ++ ys) ∧ (acc ++ ys).length ≤ i + 1, fun H' ⟨F3, m3, hl3⟩ => ?_, fun v H3 hy => ?_⟩
    · exact ⟨items.length - (i + 1), by omega, rfl, hlt, F3, e3, acc ++ ys, ws, m3, htn', by rw [hds, List.append_assoc], hl3⟩
    · obtain ⟨F3, m3, rv, up3⟩ := md.item hJ md.step.ext hy (List.getElem?_eq_getElem hlt)
      rw [← hf] at hfd
      obtain ⟨e4, e4', hb0, hfd1⟩ := bind_ok hfd
      obtain ⟨hb, he4⟩ := lift_ok hb0
      obtain ⟨k, e5, hk, hfd2⟩ := bind_ok hfd1
      refine gOf_ok t m3.stt rv hb fun σ2 S2 o2 w2 => ?_
      have hw : wipe σ2 vs = wipe σ vs := by rw [w2 vs htg, wipe_twice]
      have m4 := m3.tgt S2 o2
      have fin : ∀ {F5 H5 : Hp} {e6' : Env} {acc' : List Z.D}, Mid2 n X.K X.mg p F1 H1 (owns (wipe σ vs) (wipeE e1 vs)) σ2 D F5 H5 e6' acc' → Mid2 n X.K X.mg p F1 H1 (owns (wipe σ vs) (wipeE e1 vs)) (wipe σ vs) D F5 H5 (wipeE e6' vs) acc' := fun m => by
        have m' := m.tgt (m.stt.clr vs) fun b => owns.clr
        rw [hw] at m'
        exact m'
      refine ⟨hw, htq σ2 H3 _ ⟨F3, e4, S2, ?_⟩⟩
      rw [hk]
      intro F5 H5 s5 S5
      have m5 := m4.go s5 S5
      cases k with
      | false =>
        rw [if_neg (by decide)] at hfd2 ⊢
        have hfd' : R.ok ([] : List Z.D) e5 = .ok ys e3 := hfd2
        cases hfd'
        exact ⟨F5, by rw [List.append_nil]; exact fin m5, by rw [List.append_nil]; omega⟩
      | true =>
        rw [if_pos rfl] at hfd2 ⊢
        obtain ⟨y, e6', hy', hfd3⟩ := bind_ok hfd2
        have hfd' : R.ok [y] e6' = .ok ys e3 := hfd3
        cases hfd'
        refine ⟨F5, e5, S5, ?_⟩
        rw [hy']
        intro F6 H6 s6 S6 v6 r6
        obtain ⟨us, g1, g2, m6⟩ := (m5.go s6 S6).add hD r6
        refine ⟨us, g1, ?_, F6, fin m6, by rw [List.length_append]; simpa using hacc⟩
        have := hJ.len
        rw [g2]
        omega
  · have hi2 : i = items.length := by omega
    subst hi2
    rw [List.drop_length] at htn
    have htn' : R.ok ([] : List Z.D) e2 = .ok zs e6 := htn
    cases htn'
    rw [List.append_nil] at hds
    subst hds
    obtain ⟨g1, g2, g3⟩ := Mid2.done s1 S1 hD md (Nat.le_trans hacc hJ.len)
    exact .inl ⟨hJ.stop _ H2 sub2 (Nat.le_refl _), q2 F2 H2 g1 g2 _ g3⟩
theorem r_cm1 {elt : E} {t : Tg} {it : Z.It} {cd : Oe} {vs : List Nat} (hvs : (ownOf X.N vs).map (·.2) = vs) (htg : tgIn t vs = true) {tt : TT}
    (htq : ∀ σ H Q, (∃ F e, Stt n X.K X.mg p F σ H e ∧ Out n X.K X.mg p W0 σ F H e (evc T n.gv cd e) fun _ H' _ b => Q b H') → tt σ H Q) :
    ∀ σ H Q, tE n X.K X.mg p T W (.cm1 elt t it cd vs) σ H Q → tLc (tIt n X.K X.mg p T W it) (gOf X.K t) tt (tD n X.K X.mg p T W0 elt) ((ownOf X.N vs).map (·.2)) σ H Q := by
  intro σ H Q ⟨F, e, S, q⟩
  rw [hvs]
  refine ⟨F, e, S, (Out.bind q).mono fun F1 H1 e1 items ⟨s1, S1, q1⟩ J hJ => cm1_core htg htq s1 S1 hJ q1⟩
theorem e_cm1 {k : Nat} {elt : E} {el tg ix : Expr} {t : Tg} {it : Z.It} {cd : Oe} {vs : List Nat} {scope : Scope} {ifs : List Expr} (g : Gd n T k X) (hi : ISound n X p T W tg ix it) (ok : BlkOk X.N X.env.scope scope (ownOf X.N vs)) (hvs : (ownOf X.N vs).map (·.2) = vs)
    (hg : ∀ (s : Shared) (H : Hp) (C : Addr) (cl : List (Str × Addr)) (fp : List Addr), PG (X.blk s H scope (compEnvC scope cl C X.env) fp) tg (gOf X.K t)) (htg : tgIn t vs = true)
    {tt : TT} (ht : ∀ (s : Shared) (H : Hp) (C : Addr) (cl : List (Str × Addr)) (fp : List Addr), PTs (X.blk s H scope (compEnvC scope cl C X.env) fp) ifs tt)
    (htq : ∀ σ H Q, (∃ F e, Stt n X.K X.mg p F σ H e ∧ Out n X.K X.mg p W0 σ F H e (evc T n.gv cd e) fun _ H' _ b => Q b H') → tt σ H Q)
    (he : ∀ (s : Shared) (H : Hp) (C : Addr) (cl : List (Str × Addr)) (fp : List Addr), PE (X.blk s H scope (compEnvC scope cl C X.env) fp) el (tD n X.K X.mg p T W0 elt)) (hs : ∀ x, foldedSetIterable ix X.env x = pure x) :
    PE X (.ListComp el [⟨tg, ix, ifs, 0⟩] scope pos) (tE n X.K X.mg p T W (.cm1 elt t it cd vs)) := by
  exact weakE (pe_lc g.calm g.nd hi ok hg ht he hs) (r_cm1 hvs htg htq)
theorem wipe_sub {σ : L2.St} {vs' vs : List Nat} (h : ∀ i ∈ vs', i ∈ vs) : wipe (wipe σ vs') vs = wipe σ vs := by
  refine List.ext_getElem? fun j => ?_
  by_cases hj : j ∈ vs
  · by_cases hl : j < σ.length
    · rw [wipe_at hj (by rw [wipe_length]; exact hl), wipe_at hj hl]
    · rw [List.getElem?_eq_none (by rw [wipe_length, wipe_length]; omega), List.getElem?_eq_none (by rw [wipe_length]; omega)]
  · rw [wipe_out hj, wipe_out hj, wipe_out fun z => hj (h j z)]
theorem wipeE_at {e : Env} {i : Nat} {vs : List Nat} (h : i ∈ vs) (hl : i < e.length) : (wipeE e vs)[i]? = some .no := by
  obtain ⟨c, hc⟩ : ∃ c, (wipeE e vs)[i]? = some c := ⟨_, List.getElem?_eq_getElem (by rw [wipeE_len]; exact hl)⟩
  rw [hc, wipeE_in h hc]
theorem wipeE_sub {e : Env} {vs' vs : List Nat} (h : ∀ i ∈ vs', i ∈ vs) : wipeE (wipeE e vs') vs = wipeE e vs := by
  refine List.ext_getElem? fun j => ?_
  by_cases hj : j ∈ vs
  · by_cases hl : j < e.length
    · rw [wipeE_at hj (by rw [wipeE_len]; exact hl), wipeE_at hj hl]
    · rw [List.getElem?_eq_none (by rw [wipeE_len, wipeE_len]; omega), List.getElem?_eq_none (by rw [wipeE_len]; omega)]
  · rw [wipeE_out hj, wipeE_out hj, wipeE_out fun z => hj (h j z)]
theorem r_cm2 {elt : E} {t t' : Tg} {it it' : Z.It} {cd cd' : Oe} {vs vs' : List Nat} (hvs : (ownOf X.N vs).map (·.2) = vs) (hsub : ∀ i ∈ vs', i ∈ vs) (htg : tgIn t vs = true) (htg' : tgIn t' vs' = true) {tt tt' : TT}
    (htq : ∀ σ H Q, (∃ F e, Stt n X.K X.mg p F σ H e ∧ Out n X.K X.mg p W0 σ F H e (evc T n.gv cd e) fun _ H' _ b => Q b H') → tt σ H Q)
    (htq' : ∀ σ H Q, (∃ F e, Stt n X.K X.mg p F σ H e ∧ Out n X.K X.mg p W0 σ F H e (evc T n.gv cd' e) fun _ H' _ b => Q b H') → tt' σ H Q) :
    ∀ σ H Q, tE n X.K X.mg p T W (.cm2 elt t it cd t' it' cd' vs vs') σ H Q → tLc2 (tIt n X.K X.mg p T W it) (gOf X.K t) tt (tIt n X.K X.mg p T W0 it') (gOf X.K t') tt' (tD n X.K X.mg p T W0 elt) ((ownOf X.N vs).map (·.2)) vs' σ H Q := by
  intro σ H Q ⟨F, e, S, q⟩
  rw [hvs]
  refine ⟨F, e, S, (Out.bind q).mono fun F1 H1 e1 items ⟨s1, S1, q1⟩ J hJ D hD => ?_⟩
  generalize hf' : (fun (d' : Z.D) (e6 : Env) => (R.lift (bindTg t' d' (wipeE e6 vs')) e6).bind fun e7 _ => (evc T n.gv cd' e7).bind fun k' e8 => if k' then (data (ev T n.gv elt e8)).bind fun y e9 => R.ok [y] e9 else R.ok [] e8) = f' at q1
  generalize hf : (fun (d : Z.D) (e2 : Env) => (R.lift (bindTg t d (wipeE e2 vs)) e2).bind fun e3 _ => (evc T n.gv cd e3).bind fun k e4 => if k then (evi T n.gv it' e4).bind fun items' e5 => turns f' items' e5 else R.ok [] e4) = f at q1
  cases ht0 : turns f items e1 with
  | no => rw [ht0] at q1; exact q1.elim
  | ex x e6 => rw [ht0] at q1; exact q1.elim
  | ok ds e6 =>
  rw [ht0] at q1
  have q2 : Out n X.K X.mg p W σ F1 H1 e1 (if ds.length ≤ LIM then .ok (Cl.own false ds) (backE e1 vs e6) else .no) _ := q1
  by_cases hLim : ds.length ≤ LIM
  case neg => rw [if_neg hLim] at q2; exact q2.elim
  rw [if_pos hLim] at q2
  refine ⟨fun i m H => m = items.length - i ∧ i ≤ items.length ∧ ∃ F2 e2 acc zs, Mid2 n X.K X.mg p F1 H1 (owns (wipe σ vs) (wipeE e1 vs)) (wipe σ vs) D F2 H (wipeE e2 vs) acc ∧ turns f (items.drop i) e2 = .ok zs e6 ∧ ds = acc ++ zs,
    ⟨items.length, rfl, Nat.zero_le _, F1, e1, [], ds, Mid2.start S1 hD vs, by rw [List.drop_zero]; exact ht0, rfl⟩, ?_⟩
  rintro i m H2 ⟨rfl, hi0, F2, e2, acc, zs, md, htn, hds⟩
  have sub2 : ∀ b o, F1 b = some o → H2 b = some o := fun b o h => md.stt.sub b o (md.step.ext b o h)
  by_cases hlt : i < items.length
  case neg =>
    have hi2 : i = items.length := by omega
    subst hi2
    rw [List.drop_length] at htn
    have htn' : R.ok ([] : List Z.D) e2 = .ok zs e6 := htn
    cases htn'
    rw [List.append_nil] at hds
    subst hds
    obtain ⟨g1, g2, g3⟩ := Mid2.done s1 S1 hD md hLim
    exact .inl ⟨hJ.stop _ H2 sub2 (Nat.le_refl _), q2 F2 H2 g1 g2 _ g3⟩
  refine .inr ⟨hJ.go i H2 sub2 hlt, ?_⟩
  rw [List.drop_eq_getElem_cons hlt] at htn
  obtain ⟨ys, e3, ws, hfd, htn', rfl⟩ := turns_cons htn
  refine ⟨fun H' => ∃ F3, Mid2 n X.K X.mg p F1 H1 (owns (wipe σ vs) (wipeE e1 vs)) (wipe σ vs) D F3 H' (wipeE e3 vs) (acc ++ ys), fun H' ⟨F3, m3⟩ => ?_, fun v H3 hy => ?_⟩
  · exact ⟨items.length - (i + 1), by omega, rfl, hlt, F3, e3, acc ++ ys, ws, m3, htn', by rw [hds, List.append_assoc]⟩
  obtain ⟨F3, m3, rv, up3⟩ := md.item hJ md.step.ext hy (List.getElem?_eq_getElem hlt)
  rw [← hf] at hfd
  obtain ⟨e4, e4', hb0, hfd1⟩ := bind_ok hfd
  obtain ⟨hb, he4⟩ := lift_ok hb0
  obtain ⟨k, e5, hk, hfd2⟩ := bind_ok hfd1
  refine gOf_ok t m3.stt rv hb fun σ2 S2 o2 w2 => ?_
  have hw : wipe σ2 vs = wipe σ vs := by rw [w2 vs htg, wipe_twice]
  have m4 := m3.tgt S2 o2
  refine ⟨hw, htq σ2 H3 _ ⟨F3, e4, S2, ?_⟩⟩
  rw [hk]
  intro F5 H5 s5 S5
  have m5 := m4.go s5 S5
  cases k with
  | false =>
    rw [if_neg (by decide)] at hfd2 ⊢
    have hfd' : R.ok ([] : List Z.D) e5 = .ok ys e3 := hfd2
    cases hfd'
    have m' := m5.tgt (m5.stt.clr vs) fun b => owns.clr
    rw [hw] at m'
    exact ⟨F5, by rw [List.append_nil]; exact m'⟩
  | true =>
  rw [if_pos rfl] at hfd2 ⊢
  obtain ⟨items', e6', hy', hfd3⟩ := bind_ok hfd2
  refine ⟨F5, e5, S5, ?_⟩
  rw [hy']
  intro F6 H6 s6 S6 J' hJ'
  have m6 := m5.go s6 S6
  -- the inner turns
  have m6' := m6.tgt (m6.stt.clr vs') fun b => owns.clr
  refine ⟨fun j m H => m = items'.length - j ∧ j ≤ items'.length ∧ ∃ F7 e7 acc' zs', Mid2 n X.K X.mg p F1 H1 (owns (wipe σ vs) (wipeE e1 vs)) (wipe σ2 vs') D F7 H (wipeE e7 vs') (acc ++ acc') ∧ (∀ b o, F6 b = some o → F7 b = some o) ∧ turns f' (items'.drop j) e7 = .ok zs' e3 ∧ ys = acc' ++ zs',
    ⟨items'.length, rfl, Nat.zero_le _, F6, e6', [], ys, by rw [List.append_nil]; exact m6', fun _ _ h => h, by rw [List.drop_zero]; exact hfd3, rfl⟩, ?_⟩
  rintro j m H7 ⟨rfl, hj0, F7, e7, acc', zs', md7, up7, htn7, hys⟩
  have sub7 : ∀ b o, F6 b = some o → H7 b = some o := fun b o h => md7.stt.sub b o (up7 b o h)
  by_cases hlj : j < items'.length
  case neg =>
    have hj2 : j = items'.length := by omega
    subst hj2
    rw [List.drop_length] at htn7
    have htn8 : R.ok ([] : List Z.D) e7 = .ok zs' e3 := htn7
    cases htn8
    rw [List.append_nil] at hys
    subst hys
    refine .inl ⟨hJ'.stop _ H7 sub7 (Nat.le_refl _), F7, ?_⟩
    have m' := md7.tgt (md7.stt.clr vs) fun b => owns.clr
    rw [wipe_sub hsub, wipeE_sub hsub, hw] at m'
    exact m'
  refine .inr ⟨hJ'.go j H7 sub7 hlj, ?_⟩
  rw [List.drop_eq_getElem_cons hlj] at htn7
  obtain ⟨ys', e8, ws', hfd7, htn8, rfl⟩ := turns_cons htn7
  refine ⟨fun H' => ∃ F8, Mid2 n X.K X.mg p F1 H1 (owns (wipe σ vs) (wipeE e1 vs)) (wipe σ2 vs') D F8 H' (wipeE e8 vs') (acc ++ (acc' ++ ys')) ∧ (∀ b o, F6 b = some o → F8 b = some o), fun H' ⟨F8, m8, u8⟩ => ?_, fun v' H8 hy8 => ?_⟩
  · exact ⟨items'.length - (j + 1), by omega, rfl, hlj, F8, e8, acc' ++ ys', ws', m8, u8, htn8, by rw [hys, List.append_assoc]⟩
  obtain ⟨F8, m8, rv8, up8⟩ := md7.item hJ' up7 hy8 (List.getElem?_eq_getElem hlj)
  rw [← hf'] at hfd7
  obtain ⟨e9, e9', hb9, hfd8⟩ := bind_ok hfd7
  obtain ⟨hb8, he9⟩ := lift_ok hb9
  obtain ⟨k8, e10, hk8, hfd9⟩ := bind_ok hfd8
  refine gOf_ok t' m8.stt rv8 hb8 fun σ3 S3 o3 w3 => ?_
  have hw3 : wipe σ3 vs' = wipe σ2 vs' := by rw [w3 vs' htg', wipe_twice]
  have m9 := m8.tgt S3 o3
  have fin : ∀ {F5 H5 : Hp} {e6' : Env} {acc' : List Z.D}, Mid2 n X.K X.mg p F1 H1 (owns (wipe σ vs) (wipeE e1 vs)) σ3 D F5 H5 e6' acc' → Mid2 n X.K X.mg p F1 H1 (owns (wipe σ vs) (wipeE e1 vs)) (wipe σ2 vs') D F5 H5 (wipeE e6' vs') acc' := fun m => by
    have m' := m.tgt (m.stt.clr vs') fun b => owns.clr
    rw [hw3] at m'
    exact m'
  refine ⟨hw3, htq' σ3 H8 _ ⟨F8, e9, S3, ?_⟩⟩
  rw [hk8]
  intro F10 H10 s10 S10
  have m10 := m9.go s10 S10
  have u10 : ∀ b o, F6 b = some o → F10 b = some o := fun b o h => s10.ext b o (up8 b o (up7 b o h))
  cases k8 with
  | false =>
    rw [if_neg (by decide)] at hfd9 ⊢
    have hfd' : R.ok ([] : List Z.D) e10 = .ok ys' e8 := hfd9
    cases hfd'
    exact ⟨F10, by rw [List.append_nil]; exact fin m10, u10⟩
  | true =>
    rw [if_pos rfl] at hfd9 ⊢
    obtain ⟨y, e11, hy11, hfd10⟩ := bind_ok hfd9
    have hfd' : R.ok [y] e11 = .ok ys' e8 := hfd10
    cases hfd'
    refine ⟨F10, e10, S10, ?_⟩
    rw [hy11]
    intro F11 H11 s11 S11 v11 r11
    obtain ⟨us, g1, g2, m12⟩ := (m10.go s11 S11).add hD r11
    refine ⟨us, g1, ?_, F11, ?_, fun b o h => s11.ext b o (u10 b o h)⟩
    · have hl := congrArg List.length hds
      have hl2 := congrArg List.length hys
      simp only [List.length_append, List.length_singleton] at hl hl2
      have : sizeLine = LIM := rfl
      rw [List.length_append] at g2
      omega
    · have m' := fin m12
      rw [List.append_assoc] at m'
      exact m'
theorem e_cm2 {k : Nat} {elt : E} {el tg ix tg' ix' : Expr} {t t' : Tg} {it it' : Z.It} {cd cd' : Oe} {vs vs' : List Nat} {scope : Scope} {ifs ifs' : List Expr} (g : Gd n T k X) (hi : ISound n X p T W tg ix it) (ok : BlkOk X.N X.env.scope scope (ownOf X.N vs)) (hvs : (ownOf X.N vs).map (·.2) = vs) (hsub : ∀ i ∈ vs', i ∈ vs)
    (hg : ∀ (s : Shared) (H : Hp) (C : Addr) (cl : List (Str × Addr)) (fp : List Addr), PG (X.blk s H scope (compEnvC scope cl C X.env) fp) tg (gOf X.K t)) (htg : tgIn t vs = true)
    (hg' : ∀ (s : Shared) (H : Hp) (C : Addr) (cl : List (Str × Addr)) (fp : List Addr), PG (X.blk s H scope (compEnvC scope cl C X.env) fp) tg' (gOf X.K t')) (htg' : tgIn t' vs' = true)
    {tt tt' : TT} (ht : ∀ (s : Shared) (H : Hp) (C : Addr) (cl : List (Str × Addr)) (fp : List Addr), PTs (X.blk s H scope (compEnvC scope cl C X.env) fp) ifs tt)
    (htq : ∀ σ H Q, (∃ F e, Stt n X.K X.mg p F σ H e ∧ Out n X.K X.mg p W0 σ F H e (evc T n.gv cd e) fun _ H' _ b => Q b H') → tt σ H Q)
    (ht' : ∀ (s : Shared) (H : Hp) (C : Addr) (cl : List (Str × Addr)) (fp : List Addr), PTs (X.blk s H scope (compEnvC scope cl C X.env) fp) ifs' tt')
    (htq' : ∀ σ H Q, (∃ F e, Stt n X.K X.mg p F σ H e ∧ Out n X.K X.mg p W0 σ F H e (evc T n.gv cd' e) fun _ H' _ b => Q b H') → tt' σ H Q)
    (hi' : ∀ (s : Shared) (H : Hp) (C : Addr) (cl : List (Str × Addr)) (fp : List Addr), ISound n (X.blk s H scope (compEnvC scope cl C X.env) fp) p T W0 tg' ix' it')
    (he : ∀ (s : Shared) (H : Hp) (C : Addr) (cl : List (Str × Addr)) (fp : List Addr), PE (X.blk s H scope (compEnvC scope cl C X.env) fp) el (tD n X.K X.mg p T W0 elt)) (hs : ∀ x, foldedSetIterable ix X.env x = pure x) (hs' : ∀ env x, foldedSetIterable ix' env x = pure x) :
    PE X (.ListComp el [⟨tg, ix, ifs, 0⟩, ⟨tg', ix', ifs', 0⟩] scope pos) (tE n X.K X.mg p T W (.cm2 elt t it cd t' it' cd' vs vs')) := by
  exact weakE (pe_lc2 (wi1 := tIt n X.K X.mg p T W0 it') g.calm g.nd hi ok (by rw [hvs]; exact hsub) hg ht hi' hg' ht' he hs hs') (r_cm2 hvs hsub htg htg' htq htq')
end
end Z

/-! Z3i: tests; every expression keeps what the evaluator says. -/
namespace Z
open PySem PySem.Spec L2
section
variable {n : Nm} {X : Cx} {p : Addr} {T : Nat → Fn} {W : WX} {a b c : E} {x y z : Expr} {pos : Pos}
theorem tT_tE {σ : L2.St} {H : Hp} {Q : Bool → Hp → Prop} (h : tT n X.K X.mg p T W c σ H Q) : tE n X.K X.mg p T W c σ H fun x H' => ∃ k, x = .bl k ∧ Q k H' := by
  obtain ⟨F, e, S, q⟩ := h
  refine ⟨F, e, S, data_frz ?_⟩
  refine (Out.bind q).mono fun F1 H1 e1 d ⟨s1, S1, q1⟩ v r => ?_
  cases d <;> first | (exact q1.elim) | skip
  cases r
  exact ⟨_, rfl, Out.here S1 q1⟩
theorem t_val (h : PE X x (tE n X.K X.mg p T W c)) (he : ∀ whole, isTrue x X.env whole = (do let v ← whole; standAt x.pos; holding [v] (truthy v))) : PT X x (tT n X.K X.mg p T W c) :=
  weakT (pt_val h he) fun σ H Q q => tT_tE q
theorem t_not (h : PT X x (tT n X.K X.mg p T W a)) : PT X (.UnaryOp .Not x pos) (tT n X.K X.mg p T W (.not a)) := by
  refine weakT (pt_not h) fun σ H Q ⟨F, e, S, q⟩ => ⟨F, e, S, ?_⟩
  have q' : Out n X.K X.mg p W σ F H e (truth (data ((truth (data (ev T n.gv a e))).bind fun b e1 => .ok (Cl.dat (.bl (!b))) e1))) _ := q
  cases hr : truth (data (ev T n.gv a e)) with
  | no => rw [hr] at q'; exact q'
  | ex _ _ => rw [hr] at q'; exact q'
  | ok b e1 => rw [hr] at q'; exact q'
theorem t_and_core {u : Expr} {t : TT} (ha : PT X x (tT n X.K X.mg p T W a)) (hb : PT X u (tT n X.K X.mg p T W b)) (h : PW X z (tAnd (tT n X.K X.mg p T W a) (tT n X.K X.mg p T W b))) : PW X z (tT n X.K X.mg p T W (.and a b)) := by
  refine ⟨fun whole pins s σ H Q I ⟨F, e, S, q⟩ => h.run whole pins s σ H Q I ⟨F, e, S, ?_⟩⟩
  have q' : Out n X.K X.mg p W σ F H e (truth (data ((truth (data (ev T n.gv a e))).bind fun x e1 => if x then (data (ev T n.gv b e1)).bind fun y e2 => .ok (Cl.dat y) e2 else .ok (Cl.dat (.bl false)) e1))) _ := q
  cases hr : truth (data (ev T n.gv a e)) with
  | no => rw [hr] at q'; exact q'
  | ex _ _ => rw [hr] at q'; exact q'
  | ok k e1 =>
    rw [hr] at q'
    intro F1 H1 s1 S1
    cases k with
    | false =>
      rw [if_neg (by decide)]
      exact q' F1 H1 s1 S1
    | true =>
      rw [if_pos rfl]
      refine ⟨F1, e1, S1, ?_⟩
      have q2 : Out n X.K X.mg p W σ F H e (truth (data ((data (ev T n.gv b e1)).bind fun y e2 => .ok (Cl.dat y) e2))) _ := q'
      have e2 : data ((data (ev T n.gv b e1)).bind fun y e2 => .ok (Cl.dat y) e2) = data (ev T n.gv b e1) := by
        cases ev T n.gv b e1 <;> rfl
      rw [e2] at q2
      exact Out.from s1 q2
theorem t_or_core {u : Expr} (ha : PT X x (tT n X.K X.mg p T W a)) (hb : PT X u (tT n X.K X.mg p T W b)) (h : PW X z (tOr (tT n X.K X.mg p T W a) (tT n X.K X.mg p T W b))) : PW X z (tT n X.K X.mg p T W (.or a b)) := by
  refine ⟨fun whole pins s σ H Q I ⟨F, e, S, q⟩ => h.run whole pins s σ H Q I ⟨F, e, S, ?_⟩⟩
  have q' : Out n X.K X.mg p W σ F H e (truth (data ((truth (data (ev T n.gv a e))).bind fun x e1 => if x then .ok (Cl.dat (.bl true)) e1 else (data (ev T n.gv b e1)).bind fun y e2 => .ok (Cl.dat y) e2))) _ := q
  cases hr : truth (data (ev T n.gv a e)) with
  | no => rw [hr] at q'; exact q'
  | ex _ _ => rw [hr] at q'; exact q'
  | ok k e1 =>
    rw [hr] at q'
    intro F1 H1 s1 S1
    cases k with
    | true =>
      rw [if_pos rfl]
      exact q' F1 H1 s1 S1
    | false =>
      rw [if_neg (by decide)]
      refine ⟨F1, e1, S1, ?_⟩
      have q2 : Out n X.K X.mg p W σ F H e (truth (data ((data (ev T n.gv b e1)).bind fun y e2 => .ok (Cl.dat y) e2))) _ := q'
      have e2 : data ((data (ev T n.gv b e1)).bind fun y e2 => .ok (Cl.dat y) e2) = data (ev T n.gv b e1) := by
        cases ev T n.gv b e1 <;> rfl
      rw [e2] at q2
      exact Out.from s1 q2
theorem t_ite (hc : PT X z (tT n X.K X.mg p T W c)) (ha : PT X x (tT n X.K X.mg p T W a)) (hb : PT X y (tT n X.K X.mg p T W b)) : PT X (.IfExp z x y pos) (tT n X.K X.mg p T W (.ite c a b)) := by
  refine ⟨fun pins s σ H Q I ⟨F, e, S, q⟩ => ?_⟩
  have q' : Out n X.K X.mg p W σ F H e (truth (data ((truth (data (ev T n.gv c e))).bind fun k e1 => if k then (data (ev T n.gv a e1)).bind fun y e2 => .ok (Cl.dat y) e2 else (data (ev T n.gv b e1)).bind fun y e2 => .ok (Cl.dat y) e2))) _ := q
  have dd : ∀ (r : R Cl), data ((data r).bind fun y e2 => .ok (Cl.dat y) e2) = data r := fun r => by cases r <;> rfl
  show wpAny _ _ (do if ← isTrue z X.env (eval z X.env) then isTrue x X.env (eval x X.env) else isTrue y X.env (eval y X.env)) _ _ s
  cases hr : truth (data (ev T n.gv c e)) with
  | no => rw [hr] at q'; exact q'.elim
  | ex u e1 =>
    rw [hr] at q'
    refine wpAny_bind (thn (hc.run pins s σ H (fun _ _ => False) I ⟨F, e, S, by rw [hr]; exact q'⟩) fun d s1 ⟨H1, I1, f⟩ => f.elim)
  | ok k e1 =>
    rw [hr] at q'
    refine wpAny_bind (thn (hc.run pins s σ H (fun d H1 => d = k ∧ ∃ F1, Step F H (owns σ e) F1 H1 (owns σ e1) ∧ Stt n X.K X.mg p F1 σ H1 e1) I ⟨F, e, S, by rw [hr]; exact fun F1 H1 s1 S1 => ⟨rfl, F1, s1, S1⟩⟩) fun d s1 ⟨H1, I1, hd, F1, st, S1⟩ => ?_)
    subst hd
    cases d with
    | true =>
      rw [if_pos rfl]
      refine ha.run pins s1 σ H1 Q I1 ⟨F1, e1, S1, ?_⟩
      have q2 : Out n X.K X.mg p W σ F H e (truth (data ((data (ev T n.gv a e1)).bind fun y e2 => .ok (Cl.dat y) e2))) _ := q'
      rw [dd] at q2
      exact Out.from st q2
    | false =>
      rw [if_neg (by decide)]
      refine hb.run pins s1 σ H1 Q I1 ⟨F1, e1, S1, ?_⟩
      have q2 : Out n X.K X.mg p W σ F H e (truth (data ((data (ev T n.gv b e1)).bind fun y e2 => .ok (Cl.dat y) e2))) _ := q'
      rw [dd] at q2
      exact Out.from st q2
end
end Z

/-! Z3u: ranges as lists and tuples. -/
namespace Z
open PySem PySem.Spec L2
section
variable {n : Nm} {X : Cx} {p : Addr} {T : Nat → Fn} {W : WX} {a b c : E} {x y z : Expr} {pos : Pos}
theorem rps_upto {K : PySem.W.Frag} {mg : Str → Option Value} {F : Hp} (lo : Int) : ∀ m : Nat, Rps n K mg F ((List.range m).map fun i => V.int (lo + (i : Nat))) (upto m lo 1) := by
  intro m
  have go : ∀ (m : Nat) (lo : Int), Rps n K mg F ((List.range m).map fun i => V.int (lo + (i : Nat))) (upto m lo 1) := by
    intro m
    induction m with
    | zero => intro lo; exact .nil
    | succ m ih =>
      intro lo
      rw [List.range_succ_eq_map, List.map_cons, List.map_map]
      refine .cons ?_ ?_
      · have : lo + ((0 : Nat) : Int) = lo := by omega
        rw [this]
        exact .int _
      · have e : ((fun i : Nat => V.int (lo + (i : Nat))) ∘ Nat.succ) = fun i : Nat => V.int (lo + 1 + (i : Nat)) := by
          funext i
          show V.int (lo + ((i + 1 : Nat) : Int)) = V.int (lo + 1 + (i : Nat))
          congr 1
          omega
        rw [e]
        exact ih (lo + 1)
  exact go m lo
theorem rgV_upto {K : PySem.W.Frag} {mg : Str → Option Value} {F : Hp} (i j : Int) : Rps n K mg F (rgV i j) (upto (j - i).toNat i 1) := rps_upto i _
theorem rng1 {d : Z.D} {l : List Z.D} (h : rngD [d] = some l) : ∃ j, d = .int j ∧ RgOk 0 j ∧ l = upto (j - 0).toNat 0 1 := by
  cases d <;> first | (exact no_some h) | skip
  rename_i j
  have h' : (if small62 j && decide (j ≤ LIM) then some (upto j.toNat 0 1) else none) = some l := h
  split at h'
  case isFalse => cases h'
  rename_i hc
  cases h'
  simp only [Bool.and_eq_true, decide_eq_true_eq, small62] at hc
  obtain ⟨⟨c1, c2⟩, c3⟩ := hc
  have hL : (LIM : Int) = 16777216 := rfl
  exact ⟨j, rfl, ⟨by omega, by omega, c1, c2, by omega⟩, by rw [Int.sub_zero]⟩
theorem rng2 {d d' : Z.D} {l : List Z.D} (h : rngD [d, d'] = some l) : ∃ i j, d = .int i ∧ d' = .int j ∧ RgOk i j ∧ l = upto (j - i).toNat i 1 := by
  cases d <;> first | (exact no_some h) | skip
  cases d' <;> first | (exact no_some h) | skip
  rename_i i j
  have h' : (if small62 i && small62 j && decide (j - i ≤ LIM) then some (upto (j - i).toNat i 1) else none) = some l := h
  split at h'
  case isFalse => cases h'
  rename_i hc
  cases h'
  simp only [Bool.and_eq_true, decide_eq_true_eq, small62] at hc
  obtain ⟨⟨⟨c1, c2⟩, c3, c4⟩, c5⟩ := hc
  have hL : (LIM : Int) = 16777216 := rfl
  exact ⟨i, j, rfl, rfl, ⟨c1, c2, c3, c4, by omega⟩, rfl⟩
theorem upto_lim {i j : Int} (h : RgOk i j) : (rgV i j).length ≤ sizeLine := by
  rw [rgV_length, sizeLine_eq]
  have := h.2.2.2.2
  omega
/-- a new list, a new tuple -/
theorem res_lst {F H F0 H0 : Hp} {σ : L2.St} {e : Env} {P0 : Addr → Prop} {Q : VK} {l : List Z.D} {i j : Int} (s : Step F0 H0 P0 F H (owns σ e)) (S : Stt n X.K X.mg p F σ H e) (hr : RgOk i j) (hl : l = upto (j - i).toNat i 1)
    (h : Out n X.K X.mg p W σ F H e (.ok (.own false l) e) fun F' H' e' r => ∀ v, RC n X.K X.mg F' H' v r P0 H0 (owns σ e') → Q v H') : ∀ q, H q = none → Q (.ref q) (upd H q (.lst (rgV i j))) := fun q hq => by
  subst hl
  exact res_of s S h (fun _ _ z => by cases z; rfl) (fun z => nomatch z) q _ hq (upto_lim hr) (rgV_upto i j)
theorem res_tup {F H F0 H0 : Hp} {σ : L2.St} {e : Env} {P0 : Addr → Prop} {Q : VK} {l : List Z.D} {i j : Int} (s : Step F0 H0 P0 F H (owns σ e)) (S : Stt n X.K X.mg p F σ H e) (hr : RgOk i j) (hl : l = upto (j - i).toNat i 1)
    (h : Out n X.K X.mg p W σ F H e (.ok (.dat (.tup l)) e) fun F' H' e' r => ∀ v, RC n X.K X.mg F' H' v r P0 H0 (owns σ e') → Q v H') : ∀ q, H q = none → Q (.ref q) (upd H q (.tup (rgV i j))) := fun q hq => by
  subst hl
  exact (res_of s S h (fun _ _ z => nomatch z) (fun z => nomatch z)).2 q _ _ hq rfl (upto_lim hr) (rgV_upto i j)
theorem rgl_ok {es : Es} {F H : Hp} {σ : L2.St} {e : Env} {k : Hp → Hp → Env → Cl → Prop} {ds : List Z.D} {e1 : Env} (h : Out n X.K X.mg p W σ F H e (R.liftC ((rngD ds).map (Cl.own false)) e1) k) : ∃ l, rngD ds = some l ∧ Out n X.K X.mg p W σ F H e (.ok (.own false l) e1) k := by
  cases q : rngD ds with
  | none => rw [q] at h; exact h.elim
  | some l => rw [q] at h; exact ⟨l, rfl, h⟩
theorem rgt_ok {es : Es} {F H : Hp} {σ : L2.St} {e : Env} {k : Hp → Hp → Env → Cl → Prop} {ds : List Z.D} {e1 : Env} (h : Out n X.K X.mg p W σ F H e (R.liftC ((rngD ds).map fun l => Cl.dat (.tup l)) e1) k) : ∃ l, rngD ds = some l ∧ Out n X.K X.mg p W σ F H e (.ok (.dat (.tup l)) e1) k := by
  cases q : rngD ds with
  | none => rw [q] at h; exact h.elim
  | some l => rw [q] at h; exact ⟨l, rfl, h⟩
theorem ev_rgl1 {e : Env} : ev T n.gv (.rgl (.cons a .nil)) e = (data (ev T n.gv a e)).bind fun d e1 => R.liftC ((rngD [d]).map (Cl.own false)) e1 := by
  show (((data (ev T n.gv a e)).bind fun d e1 => (R.ok ([] : List Z.D) e1).bind fun xs e2 => R.ok (d :: xs) e2).bind fun ds e1 => R.liftC ((rngD ds).map (Cl.own false)) e1) = _
  cases data (ev T n.gv a e) <;> rfl
theorem ev_rgt1 {e : Env} : ev T n.gv (.rgt (.cons a .nil)) e = (data (ev T n.gv a e)).bind fun d e1 => R.liftC ((rngD [d]).map fun l => Cl.dat (.tup l)) e1 := by
  show (((data (ev T n.gv a e)).bind fun d e1 => (R.ok ([] : List Z.D) e1).bind fun xs e2 => R.ok (d :: xs) e2).bind fun ds e1 => R.liftC ((rngD ds).map fun l => Cl.dat (.tup l)) e1) = _
  cases data (ev T n.gv a e) <;> rfl
theorem ev_rgl2 {e : Env} : ev T n.gv (.rgl (.cons a (.cons b .nil))) e = (data (ev T n.gv a e)).bind fun d e1 => (data (ev T n.gv b e1)).bind fun d' e2 => R.liftC ((rngD [d, d']).map (Cl.own false)) e2 := by
  show (((data (ev T n.gv a e)).bind fun d e1 => ((data (ev T n.gv b e1)).bind fun d' e2 => (R.ok ([] : List Z.D) e2).bind fun xs e3 => R.ok (d' :: xs) e3).bind fun xs e2 => R.ok (d :: xs) e2).bind fun ds e1 => R.liftC ((rngD ds).map (Cl.own false)) e1) = _
  cases data (ev T n.gv a e) with
  | no => rfl
  | ex _ _ => rfl
  | ok d e1 =>
    show ((((data (ev T n.gv b e1)).bind fun d' e2 => (R.ok ([] : List Z.D) e2).bind fun xs e3 => R.ok (d' :: xs) e3).bind fun xs e2 => R.ok (d :: xs) e2).bind fun ds e1 => R.liftC ((rngD ds).map (Cl.own false)) e1) = (data (ev T n.gv b e1)).bind fun d' e2 => R.liftC ((rngD [d, d']).map (Cl.own false)) e2
    cases data (ev T n.gv b e1) <;> rfl
variable {k : Nat} {w1 w2 : Str} {p1 p2 p3 : Pos}
theorem e_rgl1 (g : Gd n T k X) (h1 : w1 = "list") (g1 : okG X.env.scope w1 = true) (h2 : w2 = "range") (g2 : okG X.env.scope w2 = true) (ha : PE X x (tD n X.K X.mg p T W a)) (hx : badE x = false) :
    PE X (.Call (.Name w1 p1) [.Call (.Name w2 p2) [x] [] p3] [] pos) (tE n X.K X.mg p T W (.rgl (.cons a .nil))) := by
  subst h1 h2
  obtain ⟨a1, a2, a3⟩ := gl_of g1
  obtain ⟨b1, b2, b3⟩ := gl_of g2
  refine weakE (pe_listRg g.calm a1 (g.blt _ (by decide)) (prg_1 b1 (g.blt _ (by decide)) ha (good_star hx [] X.env)) rfl) fun σ H Q ⟨F, e, S, q⟩ => ?_
  rw [ev_rgl1] at q
  refine ⟨F, e, S, (Out.bind q).mono fun F1 H1 e1 d1 ⟨s1, S1, q1⟩ v1 r1 => ?_⟩
  obtain ⟨l, hl, q2⟩ := rgl_ok (es := .nil) q1
  obtain ⟨j, rfl, ok, hl'⟩ := rng1 hl
  cases r1
  exact ⟨j, rfl, ok, res_lst s1 S1 ok hl' q2⟩
theorem e_rgt1 (g : Gd n T k X) (h1 : w1 = "tuple") (g1 : okG X.env.scope w1 = true) (h2 : w2 = "range") (g2 : okG X.env.scope w2 = true) (ha : PE X x (tD n X.K X.mg p T W a)) (hx : badE x = false) :
    PE X (.Call (.Name w1 p1) [.Call (.Name w2 p2) [x] [] p3] [] pos) (tE n X.K X.mg p T W (.rgt (.cons a .nil))) := by
  subst h1 h2
  obtain ⟨a1, a2, a3⟩ := gl_of g1
  obtain ⟨b1, b2, b3⟩ := gl_of g2
  refine weakE (pe_tupRg g.calm a1 (g.blt _ (by decide)) (prg_1 b1 (g.blt _ (by decide)) ha (good_star hx [] X.env)) rfl) fun σ H Q ⟨F, e, S, q⟩ => ?_
  rw [ev_rgt1] at q
  refine ⟨F, e, S, (Out.bind q).mono fun F1 H1 e1 d1 ⟨s1, S1, q1⟩ v1 r1 => ?_⟩
  obtain ⟨l, hl, q2⟩ := rgt_ok (es := .nil) q1
  obtain ⟨j, rfl, ok, hl'⟩ := rng1 hl
  cases r1
  exact ⟨j, rfl, ok, res_tup s1 S1 ok hl' q2⟩
theorem e_rgl2 (g : Gd n T k X) (h1 : w1 = "list") (g1 : okG X.env.scope w1 = true) (h2 : w2 = "range") (g2 : okG X.env.scope w2 = true) (ha : PE X x (tD n X.K X.mg p T W a)) (hx : badE x = false) (hb : PE X y (tD n X.K X.mg p T W b)) (hy : badE y = false) :
    PE X (.Call (.Name w1 p1) [.Call (.Name w2 p2) [x, y] [] p3] [] pos) (tE n X.K X.mg p T W (.rgl (.cons a (.cons b .nil)))) := by
  subst h1 h2
  obtain ⟨a1, a2, a3⟩ := gl_of g1
  obtain ⟨b1, b2, b3⟩ := gl_of g2
  refine weakE (pe_listRg g.calm a1 (g.blt _ (by decide)) (prg_2 b1 (g.blt _ (by decide)) ha hb (good_star hx [y] X.env) (good_star hy [] X.env) (good_stars _ _ [y] fun z hz => by
    have : z = y := by simpa using hz
    rw [this]; exact hy)) rfl) fun σ H Q ⟨F, e, S, q⟩ => ?_
  rw [ev_rgl2] at q
  refine ⟨F, e, S, (Out.bind q).mono fun F1 H1 e1 d1 ⟨s1, S1, q1⟩ v1 r1 => ?_⟩
  refine ⟨F1, e1, S1, (Out.bind q1).mono fun F2 H2 e2 d2 ⟨s2, S2, q2⟩ v2 r2 => ?_⟩
  obtain ⟨l, hl, q3⟩ := rgl_ok (es := .nil) q2
  obtain ⟨i, j, rfl, rfl, ok, hl'⟩ := rng2 hl
  cases r1
  cases r2
  exact ⟨i, j, rfl, rfl, ok, res_lst (s1.trans s2) S2 ok hl' q3⟩
end
end Z

/-! Z3v: list.index. -/
namespace Z
open PySem PySem.Spec L2
section
variable {n : Nm} {X : Cx} {p : Addr} {T : Nat → Fn} {W : WX} {a b c : E} {x y z : Expr} {pos : Pos}
theorem pys_get : ∀ {ds : List Z.D} {j : Nat}, (Z.D.pys ds)[j]? = (ds[j]?).map Z.D.py
  | [], _ => rfl
  | _ :: _, 0 => rfl
  | _ :: ds, j + 1 => by
    show (Z.D.pys ds)[j]? = _
    rw [pys_get, List.getElem?_cons_succ]
theorem index_some : ∀ {x : Z.D} {ds : List Z.D} {j : Nat}, indexD x ds = some j → (∃ z, ds[j]? = some z ∧ Z.D.eq z x = true) ∧ ∀ m z, m < j → ds[m]? = some z → Z.D.eq z x = false
  | x, [], j, h => by cases h
  | x, y :: ds, j, h => by
    have h' : (if Z.D.eq y x then some 0 else (indexD x ds).map (· + 1)) = some j := h
    split at h'
    · rename_i hy
      cases h'
      exact ⟨⟨y, rfl, hy⟩, fun m z hm => absurd hm (Nat.not_lt_zero m)⟩
    · rename_i hy
      cases q : indexD x ds with
      | none => rw [q] at h'; cases h'
      | some i =>
        rw [q] at h'
        cases h'
        obtain ⟨⟨z, h1, h2⟩, h3⟩ := index_some q
        refine ⟨⟨z, h1, h2⟩, fun m z' hm hz => ?_⟩
        cases m with
        | zero =>
          cases hz
          simpa using hy
        | succ m => exact h3 m z' (Nat.lt_of_succ_lt_succ hm) hz
theorem rps_strs {F : Hp} : ∀ ys : List Str, Rps n X.K X.mg F (ys.map V.str) (ys.map Z.D.str)
  | [] => .nil
  | y :: ys => .cons (.str y) (rps_strs ys)
theorem rps_strs_of {F : Hp} : ∀ {vs : List V} {ds : List Z.D} {ys : List Str}, Rps n X.K X.mg F vs ds → strsOf ds = some ys → vs = ys.map V.str
  | _, _, ys, .nil, h => by
    cases h
    rfl
  | v :: vs, .str i :: ds, ys, .cons h t, e => by
    cases h
    have e' : (strsOf ds).map (i :: ·) = some ys := e
    cases q : strsOf ds with
    | none => rw [q] at e'; cases e'
    | some ms =>
      rw [q] at e'
      cases e'
      rw [rps_strs_of t q]
      rfl
  | _, .non :: _, _, .cons _ _, e => nomatch e
  | _, .bl _ :: _, _, .cons _ _, e => nomatch e
  | _, .int _ :: _, _, .cons _ _, e => nomatch e
  | _, .tup _ :: _, _, .cons _ _, e => nomatch e
  | _, .lst _ :: _, _, .cons _ _, e => nomatch e
  | _, .fn _ :: _, _, .cons _ _, e => nomatch e
theorem shs_at {m : Nat} {ds : List Z.D} (h : Z.D.shs m ds = true) {j : Nat} {d : Z.D} (hd : ds[j]? = some d) : d.sh m = true := shs_mem h d (List.mem_of_getElem? hd)
theorem e_mth {k : Nat} {mt : Mt} {m : Str} {ap cp : Pos} (g : Gd n T k X) (h1 : m = mtN mt) (h2 : (ap.endLine == cp.line) = true) (ha : PE X x (tD n X.K X.mg p T W a)) (hb : PE X y (tD n X.K X.mg p T W b)) (hy : badE y = false)
    (hat : ∀ m, attributeBase x m X.env (eval x X.env) = eval x X.env) : PE X (.Call (.Attribute x m ap) [y] [] cp) (tE n X.K X.mg p T W (.mth mt a b)) := by
  subst h1
  have st := good_star hy [] X.env
  have few : ((backTo cp (starEach [y] X.env)).all (fun x => !x.1) && (backToKw cp (keywordEach [] X.env)).all (fun x => x.1.isSome) && decide (([y] : List Expr).length + ([] : List Keyword).length + (if ([] : List Keyword).isEmpty then 0 else 1) < 30)) = true := by rw [st]; rfl
  have go : ∀ {σ : L2.St} {H : Hp} {Q : VK}, tE n X.K X.mg p T W (.mth mt a b) σ H Q → tD n X.K X.mg p T W a σ H fun v1 H1 => ∃ F1 d1, (∀ b o, F1 b = some o → H1 b = some o) ∧ Rp n X.K X.mg F1 v1 d1 ∧ mtR mt d1 = some () ∧
      tD n X.K X.mg p T W b σ H1 fun v2 H2 => ∃ F2 d2 c, (∀ b o, F2 b = some o → H2 b = some o) ∧ Rp n X.K X.mg F2 v1 d1 ∧ Rp n X.K X.mg F2 v2 d2 ∧ mtD mt d1 d2 = some c ∧ Res n X F2 H2 c Q := fun {σ H Q} ⟨F, e, S, q⟩ => by
    refine ⟨F, e, S, (Out.bind q).mono fun F1 H1 e1 d1 ⟨s1, S1, q1⟩ v1 r1 => ?_⟩
    obtain ⟨u, hu, q2⟩ := Out.lift S1 (Out.bind q1)
    have q3 := (Out.here S1 q2).2.2
    refine ⟨F1, d1, S1.sub, r1, hu, F1, e1, S1, (Out.bind q3).mono fun F2 H2 e2 d2 ⟨s2, S2, q4⟩ v2 r2 => ?_⟩
    obtain ⟨c, hc, q5, hk, hn⟩ := liftC_ok q4
    exact ⟨F2, d1 |> fun _ => d2, c, S2.sub, s2.up r1, r2, hc, res_of (s1.trans s2) S2 q5 hk hn⟩
  cases mt with
  | index =>
    refine weakE (pe_bm PySem.F.plainAttrs_list PySem.F.slot_list_index PySem.F.type_list_index (mt_indexD g.hu) ha (pa_cons hb pa_nil st) (hat _) few h2 st rfl) fun σ H Q q => ?_
    obtain ⟨F, e, S, q1⟩ := go q
    refine ⟨F, e, S, q1.mono fun F1 H1 e1 d0 hh v1 r0 => ?_⟩
    obtain ⟨F1', d1, sub1, r1, hu, q2⟩ := hh v1 r0
    cases d1 <;> first | (exact no_some hu) | skip
    rename_i ds
    have r1' := r1
    cases r1 with
    | @lst a1 vs _ c1 c2 c3 =>
    refine ⟨.inl ⟨rfl, vs, SqL.up c1 sub1⟩, ?_⟩
    obtain ⟨F2, e2, S2, q3⟩ := q2
    refine ⟨F2, e2, S2, q3.mono fun F3 H3 e3 d3 hh3 v2 r3 => ?_⟩
    obtain ⟨F4, d2, c, sub4, r4, r5, hc, res⟩ := hh3 v2 r3
    have hc' : (if d2.sh 60 && Z.D.shs 59 ds then (indexD d2 ds).map fun j => Cl.dat (.int j) else none) = some c := hc
    split at hc'
    case isFalse => cases hc'
    rename_i hs
    simp only [Bool.and_eq_true] at hs
    cases hj : indexD d2 ds with
    | none => rw [hj] at hc'; cases hc'
    | some j =>
      rw [hj] at hc'
      cases hc'
      obtain ⟨⟨z, z1, z2⟩, z3⟩ := index_some hj
      have dl : Dp X.K H3 (.ref a1) (Z.D.py (.lst ds)) := Rp.dp sub4 60 _ _ hs.2 r4
      have dy : Dp X.K H3 v2 d2.py := Rp.dp sub4 60 _ _ hs.1 r5
      refine ⟨a1, v2, d2.py, Z.D.pys ds, j, z.py, rfl, rfl, dl, dy, sh_shaped (d := .lst ds) hs.2, sh_shaped hs.1, by rw [pys_get, z1]; rfl, ?_, fun m z' hm hz => ?_, res.1 _ (.int _)⟩
      · rw [← eq_py z d2 59 60 (shs_at hs.2 z1) hs.1]; exact z2
      · rw [pys_get] at hz
        cases hg : ds[m]? with
        | none => rw [hg] at hz; cases hz
        | some y' =>
          rw [hg] at hz
          cases hz
          rw [← eq_py y' d2 59 60 (shs_at hs.2 hg) hs.1]
          exact z3 m y' hm hg
  | split =>
    refine weakE (pe_bm PySem.F.plainAttrs_str PySem.F.slot_str_split PySem.F.type_str_split mt_split ha (pa_cons hb pa_nil st) (hat _) few h2 st rfl) fun σ H Q q => ?_
    obtain ⟨F, e, S, q1⟩ := go q
    refine ⟨F, e, S, q1.mono fun F1 H1 e1 d0 hh v1 r0 => ?_⟩
    obtain ⟨F1', d1, sub1, r1, hu, q2⟩ := hh v1 r0
    cases d1 <;> first | (exact no_some hu) | skip
    rename_i tx
    cases r1
    refine ⟨rfl, ?_⟩
    obtain ⟨F2, e2, S2, q3⟩ := q2
    refine ⟨F2, e2, S2, q3.mono fun F3 H3 e3 d3 hh3 v2 r3 => ?_⟩
    obtain ⟨F4, d2, c, sub4, r4, r5, hc, res⟩ := hh3 v2 r3
    cases d2 <;> first | (exact no_some hc) | skip
    rename_i ty
    cases r5
    have hc' : (if !(ty.length == 0) && decide (tx.length + 2 ≤ LIM) then some (Cl.own false ((PySem.Txt.split tx ty).map Z.D.str)) else none) = some c := hc
    split at hc'
    case isFalse => cases hc'
    rename_i hs
    simp only [Bool.and_eq_true, decide_eq_true_eq, Bool.not_eq_true'] at hs
    cases hc'
    refine ⟨tx, ty, rfl, rfl, hs.1, hs.2, fun q hq => res q _ hq ?_ ?_⟩
    · rw [List.length_map]
      exact Nat.le_trans (PyProof.Rows.split_le tx ty) hs.2
    · exact rps_strs _
  | join =>
    refine weakE (pe_bm PySem.F.plainAttrs_str PySem.F.slot_str_join PySem.F.type_str_join mt_join ha (pa_cons hb pa_nil st) (hat _) few h2 st rfl) fun σ H Q q => ?_
    obtain ⟨F, e, S, q1⟩ := go q
    refine ⟨F, e, S, q1.mono fun F1 H1 e1 d0 hh v1 r0 => ?_⟩
    obtain ⟨F1', d1, sub1, r1, hu, q2⟩ := hh v1 r0
    cases d1 <;> first | (exact no_some hu) | skip
    rename_i tx
    cases r1
    refine ⟨rfl, ?_⟩
    obtain ⟨F2, e2, S2, q3⟩ := q2
    refine ⟨F2, e2, S2, q3.mono fun F3 H3 e3 d3 hh3 v2 r3 => ?_⟩
    obtain ⟨F4, d2, c, sub4, r4, r5, hc, res⟩ := hh3 v2 r3
    have hc' : (itemsOf d2).bind (fun ds => (strsOf ds).bind fun ys => if (ys.map (·.length)).sum + ys.length * tx.length ≤ LIM then some (Cl.dat (.str (PySem.Txt.join tx ys))) else none) = some c := hc
    cases hi : itemsOf d2 with
    | none => rw [hi] at hc'; cases hc'
    | some ds =>
    rw [hi] at hc'
    have hc2 : (strsOf ds).bind (fun ys => if (ys.map (·.length)).sum + ys.length * tx.length ≤ LIM then some (Cl.dat (.str (PySem.Txt.join tx ys))) else none) = some c := hc'
    cases hy : strsOf ds with
    | none => rw [hy] at hc2; cases hc2
    | some ys =>
    rw [hy] at hc2
    have hc3 : (if (ys.map (·.length)).sum + ys.length * tx.length ≤ LIM then some (Cl.dat (.str (PySem.Txt.join tx ys))) else none) = some c := hc2
    split at hc3
    case isFalse => cases hc3
    rename_i hl
    cases hc3
    cases d2 <;> first | (exact no_some hi) | skip
    · cases hi
      cases r5 with
      | @tup b vs _ c1 c2 c3 =>
      exact ⟨tx, b, ys, rfl, rfl, .inr (by rw [← rps_strs_of c3 hy]; exact SqT.up c1 sub4), hl, res.1 _ (.str _)⟩
    · cases hi
      cases r5 with
      | @lst b vs _ c1 c2 c3 =>
      exact ⟨tx, b, ys, rfl, rfl, .inl (by rw [← rps_strs_of c3 hy]; exact SqL.up c1 sub4), hl, res.1 _ (.str _)⟩
end
end Z

/-! Z4: every expression keeps what the evaluator says. -/
namespace Z
open PySem PySem.Spec L2
section
variable {n : Nm} {p : Addr} {T : Nat → Fn} {k : Nat}
def notBool : Expr → Bool
  | .BoolOp .. => false
  | _ => true
def plainX : Expr → Bool
  | .BoolOp .. => false
  | .UnaryOp .Not _ _ => false
  | .IfExp .. => false
  | .Compare .. => false
  | _ => true
/-- what an expression promises -/
structure XOk (n : Nm) (p : Addr) (T : Nat → Fn) (X : Cx) (W : WX) (x : Expr) (c : E) : Prop where
  e : PE X x (tE n X.K X.mg p T W c)
  t : PT X x (tT n X.K X.mg p T W c)
  w : notBool x = false → PW X x (tT n X.K X.mg p T W c)
def GE (n : Nm) (p : Addr) (T : Nat → Fn) (k : Nat) (c : E) : Prop := ∀ (X : Cx) (W : WX) (x : Expr), Gd n T k X → Takes X W → isE n X.N c X.env.scope x = true → XOk n p T X W x c
def GEs (n : Nm) (p : Addr) (T : Nat → Fn) (k : Nat) (c : Es) : Prop := ∀ (X : Cx) (W : WX) (xs : List Expr), Gd n T k X → Takes X W → isEs n X.N c X.env.scope xs = true → PA X xs (tDs n X.K X.mg p T W c)
def GOe (n : Nm) (p : Addr) (T : Nat → Fn) (k : Nat) (c : Oe) : Prop := (∀ (X : Cx) (W : WX) (x : Option Expr), Gd n T k X → Takes X W → isOe n X.N c X.env.scope x = true → OeOk n X p T W c x) ∧
  ∀ (N : List Str) (sc : Scope) (xs : List Expr), isOc n N c sc xs = true → ∃ t : PySem.W.Frag → (Str → Option Value) → TT, (∀ (X : Cx), X.N = N → X.env.scope = sc → Gd n T k X → Takes X W0 → PTs X xs (t X.K X.mg)) ∧ ∀ K mg σ H Q, (∃ F e, Stt n K mg p F σ H e ∧ Out n K mg p W0 σ F H e (evc T n.gv c e) fun _ H' _ b => Q b H') → t K mg σ H Q
def GIt (n : Nm) (p : Addr) (T : Nat → Fn) (k : Nat) (c : Z.It) : Prop := (∀ (N : List Str) (sc : Scope) (tg x : Expr), isIt n N c sc tg x = true → ∀ env y, foldedSetIterable x env y = pure y) ∧ ∀ (X : Cx) (W : WX) (tg x : Expr), Gd n T k X → Takes X W → isIt n X.N c X.env.scope tg x = true → ISound n X p T W tg x c
theorem plain_true {x : Expr} (h : plainX x = true) (env : PySem.Env) : ∀ whole, isTrue x env whole = (do let v ← whole; standAt x.pos; holding [v] (truthy v)) := by
  intro whole
  cases x <;> first | rfl | (exact absurd h Bool.false_ne_true) | skip
  rename_i o y ps
  cases o <;> first | rfl | exact absurd h Bool.false_ne_true
theorem plain_notBool {x : Expr} (h : plainX x = true) : notBool x = true := by
  cases x <;> first | rfl | exact absurd h Bool.false_ne_true
variable {X : Cx} {W : WX} {a b c : E} {x y z : Expr} {pos : Pos}
theorem XOk.d (h : XOk n p T X W x c) : PE X x (tD n X.K X.mg p T W c) := toD h.e
theorem XOk.plain (h : PE X x (tE n X.K X.mg p T W c)) (hx : plainX x = true := by rfl) : XOk n p T X W x c :=
  ⟨h, t_val h (plain_true hx _), fun z => by rw [plain_notBool hx] at z; cases z⟩
theorem XOk.test (h : PE X x (tE n X.K X.mg p T W c)) (h' : PT X x (tT n X.K X.mg p T W c)) (hx : notBool x = true := by rfl) : XOk n p T X W x c := ⟨h, h', fun z => by rw [hx] at z; cases z⟩
theorem XOk.cmp {r : TE} (h : PE X x (tE n X.K X.mg p T W c)) (h' : PT X x (tTest r)) (hr : ∀ σ H Q, tE n X.K X.mg p T W c σ H Q → r σ H Q) (hx : notBool x = true := by rfl) : XOk n p T X W x c :=
  .test h (weakT h' fun σ H Q q => hr σ H _ (tT_tE q)) hx
theorem last2 {o o' : CmpOp} (h : badE z = false) : lastMarks [o, o'] [y, z] = false := good_mark h o'
theorem Gd.blk {s : Shared} {H : Hp} {scope : Scope} {cenv : PySem.Env} {fp : List Addr} (g : Gd n T k X) : Gd n T k (X.blk s H scope cenv fp) := ⟨g.calm, g.nd, g.room, g.blt, g.glv, g.fns⟩
theorem own_snd (N : List Str) (vs : List Nat) : (ownOf N vs).map (·.2) = vs := by
  unfold ownOf
  rw [List.map_map]
  exact List.map_id' vs
theorem g_and (g : Gd n T k X) (tk : Takes X W) (ia : GE n p T k a) (ib : GE n p T k b) (h : isE n X.N (.and a b) X.env.scope x = true) : XOk n p T X W x (.and a b) := by
  cases x <;> first | (exact absurd h Bool.false_ne_true) | skip
  rename_i o xs ps
  cases o
  case Or => rcases xs with _ | ⟨_, _ | ⟨_, _ | _⟩⟩ <;> exact absurd h Bool.false_ne_true
  rcases xs with _ | ⟨x, _ | ⟨y, _ | ⟨z, r⟩⟩⟩
  · exact absurd h Bool.false_ne_true
  · exact absurd h Bool.false_ne_true
  · obtain ⟨h1, h2⟩ := and1 (show (isE n X.N a X.env.scope x && isE n X.N b X.env.scope y) = true from h)
    have xa := ia X W x g tk h1
    have xb := ib X W y g tk h2
    have pw : PW X (.BoolOp .And [x, y] ps) (tT n X.K X.mg p T W (.and a b)) := t_and_core (t := tT n X.K X.mg p T W a) xa.t xb.t (pw_and xa.t (pw_and1 xb.t))
    exact ⟨e_and_core (t := tE n X.K X.mg p T W a) xa.d xb.d fun tb hb => pe_and (tB_of xa.d) (pe_one hb), pw.pt, fun _ => pw⟩
  · obtain ⟨h1, h2⟩ := and1 (show (isE n X.N a X.env.scope x && isE n X.N b X.env.scope (.BoolOp .And (y :: z :: r) ps)) = true from h)
    have xa := ia X W x g tk h1
    have xb := ib X W _ g tk h2
    have pw : PW X (.BoolOp .And (x :: y :: z :: r) ps) (tT n X.K X.mg p T W (.and a b)) := t_and_core (t := tT n X.K X.mg p T W a) xa.t xb.t (pw_and xa.t (xb.w rfl))
    exact ⟨e_and_core (t := tE n X.K X.mg p T W a) xa.d xb.d fun tb hb => pe_and (tB_of xa.d) hb, pw.pt, fun _ => pw⟩
theorem g_or (g : Gd n T k X) (tk : Takes X W) (ia : GE n p T k a) (ib : GE n p T k b) (h : isE n X.N (.or a b) X.env.scope x = true) : XOk n p T X W x (.or a b) := by
  cases x <;> first | (exact absurd h Bool.false_ne_true) | skip
  rename_i o xs ps
  cases o
  case And => rcases xs with _ | ⟨_, _ | ⟨_, _ | _⟩⟩ <;> exact absurd h Bool.false_ne_true
  rcases xs with _ | ⟨x, _ | ⟨y, _ | ⟨z, r⟩⟩⟩
  · exact absurd h Bool.false_ne_true
  · exact absurd h Bool.false_ne_true
  · obtain ⟨h1, h2⟩ := and1 (show (isE n X.N a X.env.scope x && isE n X.N b X.env.scope y) = true from h)
    have xa := ia X W x g tk h1
    have xb := ib X W y g tk h2
    have pw : PW X (.BoolOp .Or [x, y] ps) (tT n X.K X.mg p T W (.or a b)) := t_or_core xa.t xb.t (pw_or xa.t (pw_or1 xb.t))
    exact ⟨e_or_core xa.d xb.d fun tb hb => pe_or (tB_of xa.d) (pe_one hb), pw.pt, fun _ => pw⟩
  · obtain ⟨h1, h2⟩ := and1 (show (isE n X.N a X.env.scope x && isE n X.N b X.env.scope (.BoolOp .Or (y :: z :: r) ps)) = true from h)
    have xa := ia X W x g tk h1
    have xb := ib X W _ g tk h2
    have pw : PW X (.BoolOp .Or (x :: y :: z :: r) ps) (tT n X.K X.mg p T W (.or a b)) := t_or_core xa.t xb.t (pw_or xa.t (xb.w rfl))
    exact ⟨e_or_core xa.d xb.d fun tb hb => pe_or (tB_of xa.d) hb, pw.pt, fun _ => pw⟩
theorem g_cmp {o : CmpOp} (g : Gd n T k X) (tk : Takes X W) (ia : GE n p T k a) (ib : GE n p T k b) (h : isE n X.N (.cmp o a b) X.env.scope x = true) : XOk n p T X W x (.cmp o a b) := by
  cases x <;> first | (exact absurd h Bool.false_ne_true) | skip
  rename_i l os rs ps
  rcases os with _ | ⟨o', _ | _⟩ <;> first | (exact absurd h Bool.false_ne_true) | skip
  rcases rs with _ | ⟨r, _ | _⟩ <;> first | (exact absurd h Bool.false_ne_true) | skip
  obtain ⟨h12, h3⟩ := and1 (show (decide (o = o') && isE n X.N a X.env.scope l && isE n X.N b X.env.scope r) = true from h)
  obtain ⟨h1, h2⟩ := and1 h12
  obtain rfl := of_decide_eq_true h1
  have xa := ia X W l g tk h2
  have xb := ib X W r g tk h3
  have hm := good_mark (isE_good b _ r h3) o
  exact .cmp (e_cmp g xa.d xb.d hm) (pt_cmpR (op_cmp (n := n) o g.hu) xa.d xb.d hm) r_cmp
theorem g_vcl {o : CmpOp} {i : Nat} (g : Gd n T k X) (tk : Takes X W) (ib : GE n p T k b) (h : isE n X.N (.vcl o i b) X.env.scope x = true) : XOk n p T X W x (.vcl o i b) := by
  cases x <;> first | (exact absurd h Bool.false_ne_true) | skip
  rename_i l os rs ps
  cases l <;> first | (exact absurd h Bool.false_ne_true) | skip
  rcases os with _ | ⟨o', _ | _⟩ <;> first | (exact absurd h Bool.false_ne_true) | skip
  rcases rs with _ | ⟨r, _ | _⟩ <;> first | (exact absurd h Bool.false_ne_true) | skip
  rename_i w pw
  obtain ⟨h12, h3⟩ := and1 (show (decide (o = o') && okV X.N X.env.scope i w && isE n X.N b X.env.scope r) = true from h)
  obtain ⟨h1, h2⟩ := and1 h12
  obtain rfl := of_decide_eq_true h1
  have xb := ib X W r g tk h3
  have hm := good_mark (isE_good b _ r h3) o
  exact .cmp (e_vcl g h2 xb.d hm) (pt_cmpR (op_cmp (n := n) o g.hu) (pe_slot h2) xb.d hm) r_vcl
theorem g_vcr {o : CmpOp} {i : Nat} (g : Gd n T k X) (tk : Takes X W) (ia : GE n p T k a) (h : isE n X.N (.vcr o a i) X.env.scope x = true) : XOk n p T X W x (.vcr o a i) := by
  cases x <;> first | (exact absurd h Bool.false_ne_true) | skip
  rename_i l os rs ps
  rcases os with _ | ⟨o', _ | _⟩ <;> first | (exact absurd h Bool.false_ne_true) | skip
  rcases rs with _ | ⟨r, rs⟩ <;> first | (exact absurd h Bool.false_ne_true) | skip
  cases r <;> first | (exact absurd h Bool.false_ne_true) | skip
  rcases rs with _ | _ <;> first | (exact absurd h Bool.false_ne_true) | skip
  rename_i w pw
  obtain ⟨h12, h3⟩ := and1 (show (decide (o = o') && isE n X.N a X.env.scope l && okV X.N X.env.scope i w) = true from h)
  obtain ⟨h1, h2⟩ := and1 h12
  obtain rfl := of_decide_eq_true h1
  have xa := ia X W l g tk h2
  exact .cmp (e_vcr g xa.d h3) (pt_cmpR (op_cmp (n := n) o g.hu) xa.d (pe_slot h3) rfl) r_vcr
theorem g_chn {o o' : CmpOp} (g : Gd n T k X) (tk : Takes X W) (ia : GE n p T k a) (ib : GE n p T k b) (ic : GE n p T k c) (h : isE n X.N (.chn o o' a b c) X.env.scope x = true) : XOk n p T X W x (.chn o o' a b c) := by
  cases x <;> first | (exact absurd h Bool.false_ne_true) | skip
  rename_i l os rs ps
  rcases os with _ | ⟨q, _ | ⟨q', _ | _⟩⟩ <;> first | (exact absurd h Bool.false_ne_true) | skip
  rcases rs with _ | ⟨r, _ | ⟨s, _ | _⟩⟩ <;> first | (exact absurd h Bool.false_ne_true) | skip
  obtain ⟨h14, h5⟩ := and1 (show (decide (o = q) && decide (o' = q') && isE n X.N a X.env.scope l && isE n X.N b X.env.scope r && isE n X.N c X.env.scope s) = true from h)
  obtain ⟨h13, h4⟩ := and1 h14
  obtain ⟨h12, h3⟩ := and1 h13
  obtain ⟨h1, h2⟩ := and1 h12
  obtain rfl := of_decide_eq_true h1
  obtain rfl := of_decide_eq_true h2
  have xa := ia X W l g tk h3
  have xb := ib X W r g tk h4
  have xc := ic X W s g tk h5
  have hm : lastMarks [o, o'] [r, s] = false := last2 (isE_good c _ s h5)
  exact .cmp (e_chn g xa.d xb.d xc.d hm) (pt_chain (op_cmp (n := n) o g.hu) (op_cmp (n := n) o' g.hu) xa.d xb.d xc.d hm) r_chn
theorem g_cm1 {elt : E} {t : Tg} {it : Z.It} {cd : Oe} {vs : List Nat} (g : Gd n T k X) (tk : Takes X W) (ie : GE n p T k elt) (ii : GIt n p T k it) (ic : GOe n p T k cd) (h : isE n X.N (.cm1 elt t it cd vs) X.env.scope x = true) : XOk n p T X W x (.cm1 elt t it cd vs) := by
  cases x <;> first | (exact absurd h Bool.false_ne_true) | skip
  rename_i el gens scope ps
  rcases gens with _ | ⟨⟨tg, ix, ifs, z⟩, _ | ⟨⟨_, _, _, _⟩, _ | _⟩⟩ <;> first | (exact absurd h Bool.false_ne_true) | skip
  have h' : (decide (z = 0) && isTg X.N (relS scope X.env.scope) (fun x => scope.names.lookup x == some .cell) t tg && tgIn t vs && isIt n X.N it X.env.scope tg ix && isOc n X.N cd (relS scope X.env.scope) ifs && isE n X.N elt (relS scope X.env.scope) el && blkC X.N X.env.scope scope (ownOf X.N vs)) = true := h
  simp only [Bool.and_eq_true, decide_eq_true_eq] at h'
  obtain ⟨⟨⟨⟨⟨⟨rfl, h1⟩, h2⟩, h3⟩, h4⟩, h5⟩, h6⟩ := h'
  have i1 := ii.2 X W tg ix g tk h3
  obtain ⟨tt, c1, c2⟩ := ic.2 X.N _ ifs h4
  exact .plain (e_cm1 g i1 (blkOk_by h6) (own_snd _ _) (fun s H C cl fp => isTg_pg (X := X.blk s H scope (compEnvC scope cl C X.env) fp) g.nd (fun _ z => z) g.calm t tg h1) h2
    (fun s H C cl fp => c1 (X.blk s H scope (compEnvC scope cl C X.env) fp) rfl rfl g.blk takes0) (c2 X.K X.mg)
    (fun s H C cl fp => (ie (X.blk s H scope (compEnvC scope cl C X.env) fp) W0 el g.blk takes0 h5).d) (ii.1 _ _ _ _ h3 X.env))
theorem g_cm2 {elt : E} {t t' : Tg} {it it' : Z.It} {cd cd' : Oe} {vs vs' : List Nat} (g : Gd n T k X) (tk : Takes X W) (ie : GE n p T k elt) (ii : GIt n p T k it) (ic : GOe n p T k cd) (ii' : GIt n p T k it') (ic' : GOe n p T k cd') (h : isE n X.N (.cm2 elt t it cd t' it' cd' vs vs') X.env.scope x = true) : XOk n p T X W x (.cm2 elt t it cd t' it' cd' vs vs') := by
  cases x <;> first | (exact absurd h Bool.false_ne_true) | skip
  rename_i el gens scope ps
  rcases gens with _ | ⟨⟨tg, ix, ifs, z⟩, _ | ⟨⟨tg', ix', ifs', z'⟩, _ | _⟩⟩ <;> first | (exact absurd h Bool.false_ne_true) | skip
  have h' : (decide (z = 0) && decide (z' = 0) && isTg X.N (relS scope X.env.scope) (fun x => scope.names.lookup x == some .cell) t tg && tgIn t vs && isIt n X.N it X.env.scope tg ix && isOc n X.N cd (relS scope X.env.scope) ifs &&
    isTg X.N (relS scope X.env.scope) (fun x => scope.names.lookup x == some .cell) t' tg' && tgIn t' vs' && isIt n X.N it' (relS scope X.env.scope) tg' ix' && isOc n X.N cd' (relS scope X.env.scope) ifs' &&
    isE n X.N elt (relS scope X.env.scope) el && blkC X.N X.env.scope scope (ownOf X.N vs) && (vs'.all fun i => vs.contains i)) = true := h
  simp only [Bool.and_eq_true, decide_eq_true_eq, List.all_eq_true] at h'
  obtain ⟨⟨⟨⟨⟨⟨⟨⟨⟨⟨⟨⟨rfl, rfl⟩, h1⟩, h2⟩, h3⟩, h4⟩, h1'⟩, h2'⟩, h3'⟩, h4'⟩, h5⟩, h6⟩, h7⟩ := h'
  have i1 := ii.2 X W tg ix g tk h3
  obtain ⟨tt, c1, c2⟩ := ic.2 X.N _ ifs h4
  obtain ⟨tt', c1', c2'⟩ := ic'.2 X.N _ ifs' h4'
  exact .plain (e_cm2 g i1 (blkOk_by h6) (own_snd _ _) (fun i hi => by have := h7 i hi; simpa using this) (fun s H C cl fp => isTg_pg (X := X.blk s H scope (compEnvC scope cl C X.env) fp) g.nd (fun _ z => z) g.calm t tg h1) h2
    (fun s H C cl fp => isTg_pg (X := X.blk s H scope (compEnvC scope cl C X.env) fp) g.nd (fun _ z => z) g.calm t' tg' h1') h2'
    (fun s H C cl fp => c1 (X.blk s H scope (compEnvC scope cl C X.env) fp) rfl rfl g.blk takes0) (c2 X.K X.mg)
    (fun s H C cl fp => c1' (X.blk s H scope (compEnvC scope cl C X.env) fp) rfl rfl g.blk takes0) (c2' X.K X.mg)
    (fun s H C cl fp => ii'.2 (X.blk s H scope (compEnvC scope cl C X.env) fp) W0 tg' ix' g.blk takes0 h3')
    (fun s H C cl fp => (ie (X.blk s H scope (compEnvC scope cl C X.env) fp) W0 el g.blk takes0 h5).d) (ii.1 _ _ _ _ h3 X.env) (ii'.1 _ _ _ _ h3'))
end
end Z

/-! Z4b: the mutual theorem. -/
namespace Z
open PySem PySem.Spec L2
section
variable {n : Nm} {p : Addr} {T : Nat → Fn} {k : Nat} {X : Cx} {W : WX} {a b c : E} {x y z : Expr} {pos : Pos}
theorem g_rev (g : Gd n T k X) (tk : Takes X W) (ia : GE n p T k a) (h : isE n X.N (.rev a) X.env.scope x = true) : XOk n p T X W x (.rev a) := by
  cases x <;> first | (exact absurd h Bool.false_ne_true) | skip
  rename_i u s ps
  cases s <;> first | (exact absurd h Bool.false_ne_true) | skip
  rename_i l hh st p1
  cases l <;> first | (exact absurd h Bool.false_ne_true) | skip
  cases hh <;> first | (exact absurd h Bool.false_ne_true) | skip
  cases st <;> first | (exact absurd h Bool.false_ne_true) | skip
  rename_i st
  cases st <;> first | (exact absurd h Bool.false_ne_true) | skip
  rename_i o v p2
  cases o <;> first | (exact absurd h Bool.false_ne_true) | skip
  cases v <;> first | (exact absurd h Bool.false_ne_true) | skip
  rename_i cc j p3
  cases cc <;> first | (exact absurd h Bool.false_ne_true) | skip
  rename_i i
  obtain ⟨h1, h2⟩ := and1 (show (decide (i = 1) && isE n X.N a X.env.scope u) = true from h)
  obtain rfl := of_decide_eq_true h1
  exact .plain (e_rev (ia X W u g tk h2).d)
theorem g_slc {lo hi : Oe} (g : Gd n T k X) (tk : Takes X W) (ia : GE n p T k a) (il : GOe n p T k lo) (ih : GOe n p T k hi) (h : isE n X.N (.slc a lo hi) X.env.scope x = true) : XOk n p T X W x (.slc a lo hi) := by
  cases x <;> first | (exact absurd h Bool.false_ne_true) | skip
  rename_i u s ps
  cases s <;> first | (exact absurd h Bool.false_ne_true) | skip
  rename_i l hh st p1
  cases st <;> first | (exact absurd h Bool.false_ne_true) | skip
  obtain ⟨h12, h3⟩ := and1 (show (isE n X.N a X.env.scope u && isOe n X.N lo X.env.scope l && isOe n X.N hi X.env.scope hh) = true from h)
  obtain ⟨h1, h2⟩ := and1 h12
  exact .plain (e_slc (ia X W u g tk h1).d (il.1 X W l g tk h2) (ih.1 X W hh g tk h3))
theorem g_vln {i : Nat} (g : Gd n T k X) (h : isE n X.N (.vln i) X.env.scope x = true) : XOk n p T X W x (.vln i) := by
  cases x <;> first | (exact absurd h Bool.false_ne_true) | skip
  rename_i f xs kw ps
  cases f <;> first | (exact absurd h Bool.false_ne_true) | skip
  rename_i f p1
  rcases xs with _ | ⟨x, xs⟩ <;> first | (exact absurd h Bool.false_ne_true) | skip
  cases x <;> first | (exact absurd h Bool.false_ne_true) | skip
  rcases xs with _ | _ <;> first | (exact absurd h Bool.false_ne_true) | skip
  rcases kw with _ | _ <;> first | (exact absurd h Bool.false_ne_true) | skip
  rename_i w p2
  obtain ⟨h12, h3⟩ := and1 (show (decide (f = "len") && okG X.env.scope f && okV X.N X.env.scope i w) = true from h)
  obtain ⟨h1, h2⟩ := and1 h12
  exact .plain (e_vln g (of_decide_eq_true h1) h2 h3)
theorem g_vix {i : Nat} (g : Gd n T k X) (tk : Takes X W) (ib : GE n p T k b) (h : isE n X.N (.vix i b) X.env.scope x = true) : XOk n p T X W x (.vix i b) := by
  cases x <;> first | (exact absurd h Bool.false_ne_true) | skip
  rename_i u y ps
  cases u <;> first | (exact absurd h Bool.false_ne_true) | skip
  rename_i w p2
  obtain ⟨h1, h2⟩ := and1 (show (okV X.N X.env.scope i w && isE n X.N b X.env.scope y) = true from h)
  exact .plain (e_vix h1 (ib X W y g tk h2).d (isE_good b _ y h2))
theorem g_app {f : Nat} {o : Option Nat} {es : Es} (g : Gd n T k X) (tk : Takes X W) (ie : GEs n p T k es) (h : isE n X.N (.app f o es) X.env.scope x = true) : XOk n p T X W x (.app f o es) := by
  cases o with
  | none =>
    cases x <;> first | (exact absurd h Bool.false_ne_true) | skip
    rename_i u xs kw ps
    cases u <;> first | (exact absurd h Bool.false_ne_true) | skip
    rcases xs with _ | ⟨x, xs⟩ <;> first | (exact absurd h Bool.false_ne_true) | skip
    rcases kw with _ | _ <;> first | (exact absurd h Bool.false_ne_true) | skip
    rename_i w p1
    obtain ⟨h123, h4⟩ := and1 (show (decide (n.nf f = w) && n.pr f && okG X.env.scope w && isEs n X.N es X.env.scope (x :: xs)) = true from h)
    obtain ⟨h12, h3⟩ := and1 h123
    obtain ⟨h1, h2⟩ := and1 h12
    exact .plain (e_app g tk (of_decide_eq_true h1) h2 h3 (ie X W _ g tk h4) (isEs_good es _ _ h4).1)
  | some i =>
    cases x <;> first | (exact absurd h Bool.false_ne_true) | skip
    rename_i u xs kw ps
    cases u <;> first | (exact absurd h Bool.false_ne_true) | skip
    rcases xs with _ | ⟨x, xs⟩ <;> first | (exact absurd h Bool.false_ne_true) | skip
    cases x <;> first | (exact absurd h Bool.false_ne_true) | skip
    rcases kw with _ | _ <;> first | (exact absurd h Bool.false_ne_true) | skip
    rename_i w p1 y p2
    obtain ⟨h1234, h5⟩ := and1 (show (decide (n.nf f = w) && n.pr f && okG X.env.scope w && okV X.N X.env.scope i y && isEs n X.N es X.env.scope xs) = true from h)
    obtain ⟨h123, h4⟩ := and1 h1234
    obtain ⟨h12, h3⟩ := and1 h123
    obtain ⟨h1, h2⟩ := and1 h12
    exact .plain (e_appP g tk (of_decide_eq_true h1) h2 h3 h4 (ie X W _ g tk h5) (isEs_good es _ _ h5).1)
theorem g_mn (g : Gd n T k X) (tk : Takes X W) (ia : GE n p T k a) (ib : GE n p T k b) (h : isE n X.N (.mn a b) X.env.scope x = true) : XOk n p T X W x (.mn a b) := by
  cases x <;> first | (exact absurd h Bool.false_ne_true) | skip
  rename_i u xs kw ps
  cases u <;> first | (exact absurd h Bool.false_ne_true) | skip
  rcases xs with _ | ⟨y, _ | ⟨z, _ | _⟩⟩ <;> first | (exact absurd h Bool.false_ne_true) | skip
  rcases kw with _ | _ <;> first | (exact absurd h Bool.false_ne_true) | skip
  rename_i w p1
  obtain ⟨h123, h4⟩ := and1 (show (decide (w = "min") && okG X.env.scope w && isE n X.N a X.env.scope y && isE n X.N b X.env.scope z) = true from h)
  obtain ⟨h12, h3⟩ := and1 h123
  obtain ⟨h1, h2⟩ := and1 h12
  exact .plain (e_mn g (of_decide_eq_true h1) h2 (ia X W y g tk h3).d (ib X W z g tk h4).d (isE_good a _ y h3) (isE_good b _ z h4))
theorem g_isi {t : Ty} (g : Gd n T k X) (tk : Takes X W) (ia : GE n p T k a) (h : isE n X.N (.isi a t) X.env.scope x = true) : XOk n p T X W x (.isi a t) := by
  cases x <;> first | (exact absurd h Bool.false_ne_true) | skip
  rename_i u xs kw ps
  cases u <;> first | (exact absurd h Bool.false_ne_true) | skip
  rcases xs with _ | ⟨y, _ | ⟨z, r⟩⟩ <;> first | (exact absurd h Bool.false_ne_true) | skip
  cases z <;> first | (exact absurd h Bool.false_ne_true) | skip
  rcases r with _ | _ <;> first | (exact absurd h Bool.false_ne_true) | skip
  rcases kw with _ | _ <;> first | (exact absurd h Bool.false_ne_true) | skip
  rename_i w p1 z p2
  obtain ⟨h1234, h5⟩ := and1 (show (decide (w = "isinstance") && okG X.env.scope w && isE n X.N a X.env.scope y && decide (z = tyS t) && okG X.env.scope z) = true from h)
  obtain ⟨h123, h4⟩ := and1 h1234
  obtain ⟨h12, h3⟩ := and1 h123
  obtain ⟨h1, h2⟩ := and1 h12
  exact .plain (e_isi g (of_decide_eq_true h1) h2 (ia X W y g tk h3).d (isE_good a _ y h3) (of_decide_eq_true h4) h5)
theorem g_bi {f : Bi} (g : Gd n T k X) (tk : Takes X W) (ia : GE n p T k a) (h : isE n X.N (.bi f a) X.env.scope x = true) : XOk n p T X W x (.bi f a) := by
  cases x <;> first | (exact absurd h Bool.false_ne_true) | skip
  rename_i u xs kw ps
  cases u <;> first | (exact absurd h Bool.false_ne_true) | skip
  rcases xs with _ | ⟨y, _ | _⟩ <;> first | (exact absurd h Bool.false_ne_true) | skip
  rcases kw with _ | _ <;> first | (exact absurd h Bool.false_ne_true) | skip
  rename_i w p1
  obtain ⟨h12, h3⟩ := and1 (show (biOk f && decide (w = biN f) && okG X.env.scope w && isE n X.N a X.env.scope y) = true from h)
  obtain ⟨h12, h2⟩ := and1 h12
  obtain ⟨h0, h1⟩ := and1 h12
  have hf : f ≠ .repr ∧ f ≠ .lenset ∧ f ≠ .sortset := by
    refine ⟨?_, ?_, ?_⟩ <;> (intro z; rw [z] at h0; exact Bool.false_ne_true h0)
  exact .plain (e_bi g (of_decide_eq_true h1) h2 (ia X W y g tk h3).d (isE_good a _ y h3) hf)
theorem g_its {es : Es} (g : Gd n T k X) (tk : Takes X W) (ie : GEs n p T k es) {tg : Expr} (h : isIt n X.N (.rng es) X.env.scope tg x = true) : ISound n X p T W tg x (.rng es) := by
  cases x <;> first | (exact absurd h Bool.false_ne_true) | skip
  rename_i u xs kw ps
  cases u <;> first | (exact absurd h Bool.false_ne_true) | skip
  rcases kw with _ | _ <;> first | (exact absurd h Bool.false_ne_true) | skip
  rename_i w p1
  obtain ⟨h123, h4⟩ := and1 (show (decide (w = "range") && okG X.env.scope w && isEs n X.N es X.env.scope xs && decide (es.len ≤ 3)) = true from h)
  obtain ⟨h12, h3⟩ := and1 h123
  obtain ⟨h1, h2⟩ := and1 h12
  exact i_rng g (of_decide_eq_true h1) h2 (ie X W xs g tk h3) (isEs_good es _ _ h3).1 (isEs_good es _ _ h3).2 (of_decide_eq_true h4)
theorem it_fold {i : Z.It} : ∀ (N : List Str) (sc : Scope) (tg x : Expr), isIt n N i sc tg x = true → ∀ env y, foldedSetIterable x env y = pure y := by
  intro N sc tg x h env y
  cases i with
  | seq a => exact good_fold (isE_good a sc x h) env y
  | rng es => cases x <;> first | rfl | exact absurd h Bool.false_ne_true
  | enu a => cases tg <;> cases x <;> first | rfl | exact absurd h Bool.false_ne_true
  | zip a b => cases tg <;> cases x <;> first | rfl | exact absurd h Bool.false_ne_true
theorem rg_shape {es : Es} {sc : Scope} {u : Expr} {xs : List Expr} {kw : List Keyword} {ps : Pos} {f : Es → E} (hf : ∀ es, f es = .rgl es ∨ f es = .rgt es) (h : isE n X.N (f es) sc (.Call u xs kw ps) = true) :
    ∃ w1 p1 w2 p2 ys p3, u = .Name w1 p1 ∧ xs = [.Call (.Name w2 p2) ys [] p3] ∧ kw = [] := by
  rcases hf es with e | e <;> rw [e] at h
  all_goals
    cases u <;> first | (exact absurd h Bool.false_ne_true) | skip
    rcases xs with _ | ⟨y, xs⟩ <;> first | (exact absurd h Bool.false_ne_true) | skip
    cases y <;> first | (exact absurd h Bool.false_ne_true) | skip
    rename_i f2 ys kw2 p3
    cases f2 <;> first | (exact absurd h Bool.false_ne_true) | skip
    rcases kw2 with _ | _ <;> first | (exact absurd h Bool.false_ne_true) | skip
    rcases xs with _ | _ <;> first | (exact absurd h Bool.false_ne_true) | skip
    rcases kw with _ | _ <;> first | (exact absurd h Bool.false_ne_true) | skip
    exact ⟨_, _, _, _, _, _, rfl, rfl, rfl⟩
theorem g_rgl1 (g : Gd n T k X) (tk : Takes X W) (ia : GE n p T k a) (h : isE n X.N (.rgl (.cons a .nil)) X.env.scope x = true) : XOk n p T X W x (.rgl (.cons a .nil)) := by
  cases x <;> first | (exact absurd h Bool.false_ne_true) | skip
  obtain ⟨w1, p1, w2, p2, ys, p3, rfl, rfl, rfl⟩ := rg_shape (f := .rgl) (fun _ => .inl rfl) h
  have h' : (decide (w1 = "list") && okG X.env.scope w1 && decide (w2 = "range") && okG X.env.scope w2 && isEs n X.N (.cons a .nil) X.env.scope ys && (decide (Es.len (.cons a .nil) = 1) || decide (Es.len (.cons a .nil) = 2))) = true := h
  simp only [Bool.and_eq_true, decide_eq_true_eq] at h'
  obtain ⟨⟨⟨⟨⟨h1, h2⟩, h3⟩, h4⟩, h5⟩, _⟩ := h'
  rcases ys with _ | ⟨y, _ | _⟩ <;> first | (exact absurd h5 Bool.false_ne_true) | (exact absurd (and1 h5).2 Bool.false_ne_true) | skip
  have h6 := (and1 h5).1
  exact .plain (e_rgl1 g h1 h2 h3 h4 (ia X W y g tk h6).d (isE_good a _ y h6))
theorem g_rgt1 (g : Gd n T k X) (tk : Takes X W) (ia : GE n p T k a) (h : isE n X.N (.rgt (.cons a .nil)) X.env.scope x = true) : XOk n p T X W x (.rgt (.cons a .nil)) := by
  cases x <;> first | (exact absurd h Bool.false_ne_true) | skip
  obtain ⟨w1, p1, w2, p2, ys, p3, rfl, rfl, rfl⟩ := rg_shape (f := .rgt) (fun _ => .inr rfl) h
  have h' : (decide (w1 = "tuple") && okG X.env.scope w1 && decide (w2 = "range") && okG X.env.scope w2 && isEs n X.N (.cons a .nil) X.env.scope ys && decide (Es.len (.cons a .nil) = 1)) = true := h
  simp only [Bool.and_eq_true, decide_eq_true_eq] at h'
  obtain ⟨⟨⟨⟨⟨h1, h2⟩, h3⟩, h4⟩, h5⟩, _⟩ := h'
  rcases ys with _ | ⟨y, _ | _⟩ <;> first | (exact absurd h5 Bool.false_ne_true) | (exact absurd (and1 h5).2 Bool.false_ne_true) | skip
  have h6 := (and1 h5).1
  exact .plain (e_rgt1 g h1 h2 h3 h4 (ia X W y g tk h6).d (isE_good a _ y h6))
theorem g_rgl2 (g : Gd n T k X) (tk : Takes X W) (ia : GE n p T k a) (ib : GE n p T k b) (h : isE n X.N (.rgl (.cons a (.cons b .nil))) X.env.scope x = true) : XOk n p T X W x (.rgl (.cons a (.cons b .nil))) := by
  cases x <;> first | (exact absurd h Bool.false_ne_true) | skip
  obtain ⟨w1, p1, w2, p2, ys, p3, rfl, rfl, rfl⟩ := rg_shape (f := .rgl) (fun _ => .inl rfl) h
  have h' : (decide (w1 = "list") && okG X.env.scope w1 && decide (w2 = "range") && okG X.env.scope w2 && isEs n X.N (.cons a (.cons b .nil)) X.env.scope ys && (decide (Es.len (.cons a (.cons b .nil)) = 1) || decide (Es.len (.cons a (.cons b .nil)) = 2))) = true := h
  simp only [Bool.and_eq_true, decide_eq_true_eq] at h'
  obtain ⟨⟨⟨⟨⟨h1, h2⟩, h3⟩, h4⟩, h5⟩, _⟩ := h'
  rcases ys with _ | ⟨y, _ | ⟨z, _ | _⟩⟩ <;> first | (exact absurd h5 Bool.false_ne_true) | (exact absurd (and1 h5).2 Bool.false_ne_true) | (exact absurd (and1 (and1 h5).2).2 Bool.false_ne_true) | skip
  have h6 := (and1 h5).1
  have h7 := (and1 (and1 h5).2).1
  exact .plain (e_rgl2 g h1 h2 h3 h4 (ia X W y g tk h6).d (isE_good a _ y h6) (ib X W z g tk h7).d (isE_good b _ z h7))
theorem rg_len {es : Es} {f : Es → E} (hf : ∀ es, f es = .rgl es ∨ f es = .rgt es) (h : isE n X.N (f es) X.env.scope x = true) : es.len = 1 ∨ (es.len = 2 ∧ f es = .rgl es) := by
  cases x <;> first | (rcases hf es with e | e <;> rw [e] at h <;> exact absurd h Bool.false_ne_true) | skip
  obtain ⟨w1, p1, w2, p2, ys, p3, rfl, rfl, rfl⟩ := rg_shape hf h
  rcases hf es with e | e <;> rw [e] at h
  · have h' : (decide (w1 = "list") && okG X.env.scope w1 && decide (w2 = "range") && okG X.env.scope w2 && isEs n X.N es X.env.scope ys && (decide (es.len = 1) || decide (es.len = 2))) = true := h
    simp only [Bool.and_eq_true, decide_eq_true_eq, Bool.or_eq_true] at h'
    exact h'.2.imp id fun z => ⟨z, e⟩
  · have h' : (decide (w1 = "tuple") && okG X.env.scope w1 && decide (w2 = "range") && okG X.env.scope w2 && isEs n X.N es X.env.scope ys && decide (es.len = 1)) = true := h
    simp only [Bool.and_eq_true, decide_eq_true_eq] at h'
    exact .inl h'.2
theorem isE_base {c : E} {sc : Scope} {N : List Str} (h : isE n N c sc x = true) (env : PySem.Env) : ∀ m, attributeBase x m env (eval x env) = eval x env := by
  intro m
  cases x <;> first | rfl | skip
  rename_i f xs kw ps
  rcases xs with _ | ⟨y, xs⟩
  · exfalso
    cases f <;> cases kw <;> cases c <;> first | (exact absurd h Bool.false_ne_true) | (rename_i q _; cases q <;> exact absurd h Bool.false_ne_true) | (rename_i q _ _; cases q <;> exact absurd h Bool.false_ne_true)
  · cases f <;> rfl
theorem g_mth {mt : Mt} (g : Gd n T k X) (tk : Takes X W) (ia : GE n p T k a) (ib : GE n p T k b) (h : isE n X.N (.mth mt a b) X.env.scope x = true) : XOk n p T X W x (.mth mt a b) := by
  cases x <;> first | (exact absurd h Bool.false_ne_true) | skip
  rename_i u xs kw ps
  cases u <;> first | (exact absurd h Bool.false_ne_true) | skip
  rcases xs with _ | ⟨y, _ | _⟩ <;> first | (exact absurd h Bool.false_ne_true) | skip
  rcases kw with _ | _ <;> first | (exact absurd h Bool.false_ne_true) | skip
  rename_i o m ap
  obtain ⟨h123, h4⟩ := and1 (show (decide (m = mtN mt) && (ap.endLine == ps.line) && isE n X.N a X.env.scope o && isE n X.N b X.env.scope y) = true from h)
  obtain ⟨h12, h3⟩ := and1 h123
  obtain ⟨h1, h2⟩ := and1 h12
  exact .plain (e_mth g (of_decide_eq_true h1) h2 (ia X W o g tk h3).d (ib X W y g tk h4).d (isE_good b _ y h4) (isE_base h3 X.env))
mutual
theorem gE : ∀ c : E, GE n p T k c
  | .var i => fun X W x g tk h => by
    cases x <;> first | (exact absurd h Bool.false_ne_true) | skip
    exact .plain (e_var h)
  | .lit d => fun X W x g tk h => by
    cases x <;> first | (exact absurd h Bool.false_ne_true) | skip
    exact .plain (e_lit h)
  | .gc i => fun X W x g tk h => by
    cases x <;> first | (exact absurd h Bool.false_ne_true) | skip
    obtain ⟨h1, h2⟩ := and1 h
    exact .plain (e_gc g (of_decide_eq_true h1) h2)
  | .fnm f => fun X W x g tk h => by
    cases x <;> first | (exact absurd h Bool.false_ne_true) | skip
    obtain ⟨h12, h3⟩ := and1 h
    obtain ⟨h1, h2⟩ := and1 h12
    exact .plain (e_fnm g (of_decide_eq_true h1) h2 h3)
  | .bin o a b => fun X W x g tk h => by
    cases x <;> first | (exact absurd h Bool.false_ne_true) | skip
    obtain ⟨h12, h3⟩ := and1 h
    obtain ⟨h1, h2⟩ := and1 h12
    obtain rfl := of_decide_eq_true h1
    exact .plain (e_bin (gE a X W _ g tk h2).d (gE b X W _ g tk h3).d)
  | .neg a => fun X W x g tk h => by
    cases x <;> first | (exact absurd h Bool.false_ne_true) | skip
    rename_i o y ps
    cases o <;> first | (exact absurd h Bool.false_ne_true) | skip
    exact .plain (e_neg (gE a X W _ g tk h).d)
  | .not a => fun X W x g tk h => by
    cases x <;> first | (exact absurd h Bool.false_ne_true) | skip
    rename_i o y ps
    cases o <;> first | (exact absurd h Bool.false_ne_true) | skip
    have xa := gE a X W y g tk h
    exact .test (e_not xa.d) (t_not xa.t)
  | .and a b => fun X W x g tk h => g_and g tk (gE a) (gE b) h
  | .or a b => fun X W x g tk h => g_or g tk (gE a) (gE b) h
  | .cmp o a b => fun X W x g tk h => g_cmp g tk (gE a) (gE b) h
  | .chn o o' a b c => fun X W x g tk h => g_chn g tk (gE a) (gE b) (gE c) h
  | .ite c a b => fun X W x g tk h => by
    cases x <;> first | (exact absurd h Bool.false_ne_true) | skip
    obtain ⟨h12, h3⟩ := and1 h
    obtain ⟨h1, h2⟩ := and1 h12
    have xc := gE c X W _ g tk h1
    have xa := gE a X W _ g tk h2
    have xb := gE b X W _ g tk h3
    exact .test (e_ite xc.t xa.d xb.d) (t_ite xc.t xa.t xb.t)
  | .tup es => fun X W x g tk h => by
    cases x <;> first | (exact absurd h Bool.false_ne_true) | skip
    obtain ⟨h1, h2⟩ := and1 h
    exact .plain (e_tup (gEs es X W _ g tk h1) (of_decide_eq_true h2))
  | .lst es => fun X W x g tk h => by
    cases x <;> first | (exact absurd h Bool.false_ne_true) | skip
    obtain ⟨h1, h2⟩ := and1 h
    exact .plain (e_lst (gEs es X W _ g tk h1) (of_decide_eq_true h2))
  | .idx a b => fun X W x g tk h => by
    cases x <;> first | (exact absurd h Bool.false_ne_true) | skip
    obtain ⟨h1, h2⟩ := and1 h
    exact .plain (e_idx (gE a X W _ g tk h1).d (gE b X W _ g tk h2).d (isE_good b _ _ h2))
  | .vix i b => fun X W x g tk h => g_vix g tk (gE b) h
  | .vln i => fun X W x g tk h => g_vln g h
  | .vcl o i b => fun X W x g tk h => g_vcl g tk (gE b) h
  | .vcr o a i => fun X W x g tk h => g_vcr g tk (gE a) h
  | .slc a lo hi => fun X W x g tk h => g_slc g tk (gE a) (gOe lo) (gOe hi) h
  | .rev a => fun X W x g tk h => g_rev g tk (gE a) h
  | .app f o es => fun X W x g tk h => g_app g tk (gEs es) h
  | .cal i es => fun X W x g tk h => absurd h Bool.false_ne_true
  | .bi f a => fun X W x g tk h => g_bi g tk (gE a) h
  | .mn a b => fun X W x g tk h => g_mn g tk (gE a) (gE b) h
  | .rgl .nil => fun X W x g tk h => (rg_len (f := .rgl) (fun _ => .inl rfl) h).elim (fun z => nomatch z) fun z => nomatch z.1
  | .rgl (.cons a .nil) => fun X W x g tk h => g_rgl1 g tk (gE a) h
  | .rgl (.cons a (.cons b .nil)) => fun X W x g tk h => g_rgl2 g tk (gE a) (gE b) h
  | .rgl (.cons a (.cons b (.cons c es))) => fun X W x g tk h => absurd (rg_len (f := .rgl) (fun _ => .inl rfl) h) (by simp [Es.len])
  | .rgt .nil => fun X W x g tk h => (rg_len (f := .rgt) (fun _ => .inr rfl) h).elim (fun z => nomatch z) fun z => nomatch z.1
  | .rgt (.cons a .nil) => fun X W x g tk h => g_rgt1 g tk (gE a) h
  | .rgt (.cons a (.cons b es)) => fun X W x g tk h => absurd (rg_len (f := .rgt) (fun _ => .inr rfl) h) (by simp [Es.len])
  | .isi a t => fun X W x g tk h => g_isi g tk (gE a) h
  | .mth m a b => fun X W x g tk h => g_mth g tk (gE a) (gE b) h
  | .cm1 elt t it cd vs => fun X W x g tk h => g_cm1 g tk (gE elt) (gIt it) (gOe cd) h
  | .cm2 elt t it cd t' it' cd' vs vs' => fun X W x g tk h => g_cm2 g tk (gE elt) (gIt it) (gOe cd) (gIt it') (gOe cd') h
theorem gEs : ∀ c : Es, GEs n p T k c
  | .nil => fun X W xs g tk h => by
    cases xs <;> first | (exact absurd h Bool.false_ne_true) | skip
    exact es_nil
  | .cons a es => fun X W xs g tk h => by
    cases xs <;> first | (exact absurd h Bool.false_ne_true) | skip
    obtain ⟨h1, h2⟩ := and1 h
    exact es_cons (gE a X W _ g tk h1).d (gEs es X W _ g tk h2) (isE_good a _ _ h1)
theorem gOe : ∀ c : Oe, GOe n p T k c
  | .non => by
    refine ⟨fun X W x g tk h => ?_, fun N sc xs h => ?_⟩
    · cases x <;> first | (exact absurd h Bool.false_ne_true) | skip
      exact .inl ⟨rfl, rfl⟩
    · cases xs <;> first | (exact absurd h Bool.false_ne_true) | skip
      exact ⟨fun _ _ => tYes, fun X _ _ _ _ => pts_nil, fun K mg σ H Q ⟨F, e, S, q⟩ => Out.here S q⟩
  | .som a => by
    refine ⟨fun X W x g tk h => ?_, fun N sc xs h => ?_⟩
    · cases x <;> first | (exact absurd h Bool.false_ne_true) | skip
      exact .inr ⟨a, _, rfl, rfl, (gE a X W _ g tk h).d⟩
    · rcases xs with _ | ⟨x, _ | _⟩ <;> first | (exact absurd h Bool.false_ne_true) | skip
      refine ⟨fun K mg => tT n K mg p T W0 a, fun X hN hs g tk => ?_, fun K mg σ H Q q => q⟩
      subst hN hs
      exact pts_one (gE a X W0 x g tk h).t
theorem gIt : ∀ c : Z.It, GIt n p T k c
  | .seq a => ⟨it_fold, fun X W tg x g tk h => i_seq (gE a X W x g tk h).d⟩
  | .rng es => ⟨it_fold, fun X W tg x g tk h => g_its g tk (gEs es) h⟩
  | .enu a => ⟨it_fold, fun X W tg x g tk h => absurd h (by
      unfold isIt
      split <;> simp_all)⟩
  | .zip a b => ⟨it_fold, fun X W tg x g tk h => absurd h (by
      unfold isIt
      split <;> simp_all)⟩
end
end
end Z

/-! Z5: statements: states, ends, the list methods. -/
namespace Z
open PySem PySem.Spec L2
/-! ### a list extended by a list or a tuple, however it lies -/
theorem ext_tuple (p q : Addr) (us vs : Array Value) (j k : Nat) (dd : Option Addr) (sl : Array (Option Value)) (c0 : ¬(!us.isEmpty && Builtin.List.listTooLong (us.size + vs.size)) = true) (c1 : us.size ≤ sizeLine) (c2 : us.size + vs.size ≤ sizeLine + 1) :
    Meets (Builtin.«list.extend» ⟨[.ref p, .ref q], []⟩) (fun _ R s => s.heap.get? p = some { cls := .type "list", dict := none, data := .seq us j, slots := #[] } ∧
      s.heap.get? q = some { cls := .type "tuple", dict := dd, data := .seq vs k, slots := sl } ∧ R (.ok (.ret Value.none)) { s with heap := s.heap.update p (Obj.mapSeq fun x => x ++ vs), toks := s.toks }) :=
  .of_wp fun prog w A R s h => by
    obtain ⟨hp, g, d, tk, os⟩ := s
    obtain ⟨hl, hb, h⟩ := h
    have f1 := AutoSeq1.idx_int
    have f2 := AutoSeq1.sub_tuple_tuple
    have f3 := AutoSeq1.sub_list_list
    have f4 := AutoSeq1.sub_tuple_list
    have f5 := AutoSeq1.sub_list_tuple
    have hz' : (us ++ vs).size ≤ sizeLine + 1 := by rw [Array.size_append]; exact c2
    wp_walk using (wpAny_updateSeq hl rfl (hz := c1) (_hz' := hz')), AutoSeq1.wpAny_loadPart' hl, AutoSeq1.wpAny_loadPart' hb
    exact ⟨_, rfl, h⟩
theorem ext_list (p q : Addr) (us vs : Array Value) (j k : Nat) (dd : Option Addr) (sl : Array (Option Value)) (c0 : ¬(!us.isEmpty && Builtin.List.listTooLong (us.size + vs.size)) = true) (c1 : us.size ≤ sizeLine) (c2 : us.size + vs.size ≤ sizeLine + 1) :
    Meets (Builtin.«list.extend» ⟨[.ref p, .ref q], []⟩) (fun _ R s => s.heap.get? p = some { cls := .type "list", dict := none, data := .seq us j, slots := #[] } ∧
      s.heap.get? q = some { cls := .type "list", dict := dd, data := .seq vs k, slots := sl } ∧ R (.ok (.ret Value.none)) { s with heap := s.heap.update p (Obj.mapSeq fun x => x ++ vs), toks := s.toks }) :=
  .of_wp fun prog w A R s h => by
    obtain ⟨hp, g, d, tk, os⟩ := s
    obtain ⟨hl, hb, h⟩ := h
    have f1 := AutoSeq1.idx_int
    have f2 := AutoSeq1.sub_tuple_tuple
    have f3 := AutoSeq1.sub_list_list
    have f4 := AutoSeq1.sub_tuple_list
    have f5 := AutoSeq1.sub_list_tuple
    have hz' : (us ++ vs).size ≤ sizeLine + 1 := by rw [Array.size_append]; exact c2
    wp_walk using (wpAny_updateSeq hl rfl (hz := c1) (_hz' := hz')), AutoSeq1.wpAny_loadPart' hl, AutoSeq1.wpAny_loadPart' hb
    exact ⟨_, rfl, h⟩
section
variable {X : Cx}
def rXtd (K : PySem.W.Frag) : V → List V → Hp → VK → Prop := fun x vs H Q => ∃ l b xs zs, x = .ref l ∧ vs = [.ref b] ∧ H l = some (.lst xs) ∧ (SqL K H b zs ∨ SqT K H b zs) ∧ xs.length + zs.length ≤ sizeLine ∧ Q .non (upd H l (.lst (xs ++ zs)))
theorem mt_xtd : MtM X "list.extend" (rXtd X.K) := by
  intro pins s σ H x vs v us Q I rx rv h
  obtain ⟨l, b, xs, zs, rfl, rfl, hH, hB, hz, q⟩ := h
  cases rx
  obtain ⟨u, rfl, ru⟩ := rv.one
  cases ru
  obtain ⟨z, its, n, r, hl, e⟩ := I.lstM hH
  rcases hB with hB | hB
  · obtain ⟨its2, r2, ⟨⟨cl2, dc2, da2, sl2⟩, n2, e2, hc2, hn2, hd2⟩, _⟩ := I.list hB
    simp only at hc2 hn2 hd2
    subst hc2 hn2 hd2
    have hl2 := r2.length
    have hsz : its.toArray.size + its2.toArray.size ≤ sizeLine := by rw [List.size_toArray, List.size_toArray]; omega
    have hlong : ¬ (!its.toArray.isEmpty && Builtin.List.listTooLong (its.toArray.size + its2.toArray.size)) = true := by
      rw [notLongL hsz, Bool.and_false]
      exact Bool.false_ne_true
    refine call_meets F.slot_list_extend ⟨_, e, rfl⟩ F.entry_list_extend (F.args_list_extend_2 _ _) (ext_list l b its.toArray its2.toArray n n2 none sl2 hlong (by rw [List.size_toArray]; omega) (by omega)) ⟨e, e2, ?_⟩
    refine ⟨.non, _, I.lset (its' := its ++ its2) hH e (by simp) (r.append r2) ?_, rfl, q⟩
    rw [List.length_append]
    omega
  · obtain ⟨its2, r2, ⟨⟨cls, dd, data, sl⟩, ho, hc, n2, hd⟩, hz2⟩ := I.tuple hB
    simp only at hc hd
    subst hc hd
    have hl2 := r2.length
    have hsz : its.toArray.size + its2.toArray.size ≤ sizeLine := by rw [List.size_toArray, List.size_toArray]; omega
    have hlong : ¬ (!its.toArray.isEmpty && Builtin.List.listTooLong (its.toArray.size + its2.toArray.size)) = true := by
      rw [notLongL hsz, Bool.and_false]
      exact Bool.false_ne_true
    refine call_meets F.slot_list_extend ⟨_, e, rfl⟩ F.entry_list_extend (F.args_list_extend_2 _ _) (ext_tuple l b its.toArray its2.toArray n n2 dd sl hlong (by rw [List.size_toArray]; omega) (by omega)) ⟨e, ho, ?_⟩
    refine ⟨.non, _, I.lset (its' := its ++ its2) hH e (by simp) (r.append r2) ?_, rfl, q⟩
    rw [List.length_append]
    omega
end

/-! ### what a statement's context must hold -/
structure Bd (n : Nm) (T : Nat → Fn) (k : Nat) (X : Cx) (W : WX) : Prop where
  gd : Gd n T k X
  tk : Takes X W
  fn : ∀ x, X.fn x = true
  kind : X.env.scope.kind = .function
  own : PassesOwn (model X.prog X.w) X.A X.env X.xe
  stk : X.stack = X.env :: X.outer
  fr : X.env.frame = some X.env.locals
  exc : ∀ x, n.px x = true → ∃ C, X.mg (n.nx x) = some (.ref C) ∧ PySem.W.excIn X.K C He.veBase "ValueError.__new__" = true ∧ PySem.W.keepIn X.K (.ref C) = true ∧ Raises X (.ref C)
  exd : ∀ x y, n.px x = true → n.px y = true → ∀ C D, X.mg (n.nx x) = some (.ref C) → X.mg (n.nx y) = some (.ref D) → PySem.W.exmOne X.K (.ref C) (.ref D) = some (decide (x = y))

/-! ### ends -/
def OutS (n : Nm) (K : PySem.W.Frag) (mg : Str → Option Value) (p : Addr) (W : WX) (D : Ends) (P : Addr → Prop) (F H : Hp) (r : Fl) : Prop := match r with
  | .nx e' => ∀ σ' F' H', Step F H P F' H' (owns σ' e') → Stt n K mg p F' σ' H' e' → D.nx σ' H'
  | .rt c e' => ∀ σ' F' H' v, Step F H P F' H' (owns σ' e') → Stt n K mg p F' σ' H' e' → RC n K mg F' H' v c P H (owns σ' e') → D.rt v H'
  | .ex x e' => n.px x = true ∧ ∀ σ' F' H', Step F H P F' H' (owns σ' e') → Stt n K mg p F' σ' H' e' → ∀ C, mg (n.nx x) = some (.ref C) → W (.ref C) none σ' H'
  | .no => False
section
variable {n : Nm} {K : PySem.W.Frag} {mg : Str → Option Value} {p : Addr} {W : WX} {En : Ends} {P P1 : Addr → Prop} {F H F1 H1 : Hp} {σ σ1 : L2.St} {e e1 : Env} {α : Type}
theorem OutS.from {r : Fl} (s : Step F H P F1 H1 P1) (h : OutS n K mg p W En P F H r) : OutS n K mg p W En P1 F1 H1 r := by
  cases r with
  | nx e2 => exact fun σ2 F2 H2 s2 S2 => h σ2 F2 H2 (s.trans s2) S2
  | rt c e2 => exact fun σ2 F2 H2 v s2 S2 hv => h σ2 F2 H2 v (s.trans s2) S2 (RC.base s hv)
  | ex x e2 => exact ⟨h.1, fun σ2 F2 H2 s2 S2 => h.2 σ2 F2 H2 (s.trans s2) S2⟩
  | no => exact h
theorem OutS.here (S : Stt n K mg p F σ H e) (h : OutS n K mg p W En (owns σ e) F H (.nx e)) : En.nx σ H := h σ F H Step.refl S
/-- one statement behind another -/
theorem OutS.seq {r : Fl} {f : Env → Fl} (h : OutS n K mg p W En P F H (r.then f)) : OutS n K mg p W { En with nx := fun σ' H' => ∃ F' e', (∀ b o, F b = some o → F' b = some o) ∧ Stt n K mg p F' σ' H' e' ∧ OutS n K mg p W En (owns σ' e') F' H' (f e') } P F H r := by
  cases r with
  | nx e2 => exact fun σ2 F2 H2 s2 S2 => ⟨F2, e2, s2.ext, S2, OutS.from s2 h⟩
  | rt c e2 => exact h
  | ex x e2 => exact h
  | no => exact h
/-- an expression ahead; the exceptions it may let out are declared -/
theorem OutS.fl {r : R α} {f : α → Env → Fl} (h : OutS n K mg p W En (owns σ e) F H (r.fl f)) : Out n K mg p W σ F H e r fun F1 H1 e1 a => Step F H (owns σ e) F1 H1 (owns σ e1) ∧ Stt n K mg p F1 σ H1 e1 ∧ OutS n K mg p W En (owns σ e) F H (f a e1) := by
  cases r with
  | ok a e2 => exact fun F2 H2 s2 S2 => ⟨s2, S2, h⟩
  | ex x e2 => exact ⟨h.1, fun F2 H2 s2 S2 => h.2 σ F2 H2 s2 S2⟩
  | no => exact h
theorem OutS.mono {r : Fl} {En' : Ends} (h : OutS n K mg p W En P F H r) (h1 : ∀ σ H, En.nx σ H → En'.nx σ H) (h2 : ∀ v H, En.rt v H → En'.rt v H) : OutS n K mg p W En' P F H r := by
  cases r with
  | nx e2 => exact fun σ2 F2 H2 s2 S2 => h1 _ _ (h σ2 F2 H2 s2 S2)
  | rt c e2 => exact fun σ2 F2 H2 v s2 S2 hv => h2 _ _ (h σ2 F2 H2 v s2 S2 hv)
  | ex x e2 => exact h
  | no => exact h
/-- a slot given a cell -/
theorem Stt.give {i : Nat} {v : V} {c : Cl} {P0 : Addr → Prop} {H0 : Hp} (S : Stt n K mg p F σ H e) (hi : i < e.length) (h : RC n K mg F H v c P0 H0 (owns σ e)) : Stt n K mg p F (σ.set i (some v)) H (e.set i c) := by
  cases c with
  | no => exact h.elim
  | dat d => exact S.put hi h
  | own k ds =>
    obtain ⟨hk, a, vs, rfl, h1, h2, h3, h4, h5, h6⟩ := h
    subst hk
    have hl : i < σ.length := by rw [S.len]; exact hi
    have other : ∀ {j : Nat} {c : Cl}, j ≠ i → (e.set i (.own false ds))[j]? = some c → e[j]? = some c := fun {j c} hj z => by
      rw [List.getElem?_set_ne (Ne.symm hj)] at z; exact z
    refine ⟨S.sub, by rw [List.length_set, List.length_set]; exact S.len, fun j d z => ?_, fun j k es z => ?_, fun j m k l es es' b z1 z2 z3 z4 => ?_⟩
    · by_cases hj : j = i
      · subst hj; rw [List.getElem?_set_self hi] at z; cases z
      · obtain ⟨w, g1, g2⟩ := S.dat j d (other hj z)
        exact ⟨w, by rw [List.getElem?_set_ne (Ne.symm hj)]; exact g1, g2⟩
    · by_cases hj : j = i
      · subst hj
        rw [List.getElem?_set_self hi] at z
        cases z
        exact ⟨a, vs, by rw [List.getElem?_set_self hl], h1, h2, h3, h4, fun z => nomatch z⟩
      · obtain ⟨w, ws, g1, g2⟩ := S.own j k es (other hj z)
        exact ⟨w, ws, by rw [List.getElem?_set_ne (Ne.symm hj)]; exact g1, g2⟩
    · have mine : ∀ {j : Nat} {k : Bool} {es : List D}, j ≠ i → (e.set i (.own false ds))[j]? = some (Cl.own k es) → (σ.set i (some (.ref a)))[j]? = some (some (.ref a)) → False := fun {j k es} hj y1 y2 => by
        rw [List.getElem?_set_ne (Ne.symm hj)] at y2
        exact h5 ⟨j, k, es, other hj y1, y2⟩
      by_cases hj : j = i
      · subst hj
        rw [List.getElem?_set_self hl] at z3
        cases z3
        by_cases hm : m = j
        · exact hm.symm
        · exact (mine hm z2 z4).elim
      · by_cases hm : m = i
        · subst hm
          rw [List.getElem?_set_self hl] at z4
          cases z4
          exact (mine hj z1 z3).elim
        · rw [List.getElem?_set_ne (Ne.symm hj)] at z3
          rw [List.getElem?_set_ne (Ne.symm hm)] at z4
          exact S.apart j m k l es es' b (other hj z1) (other hm z2) z3 z4
theorem owns.give {i : Nat} {v : V} {c : Cl} {b : Addr} (h : owns (σ.set i (some v)) (e.set i c) b) : owns σ e b ∨ (∃ k ds, c = .own k ds ∧ v = .ref b) := by
  obtain ⟨j, k, ds, z1, z2⟩ := h
  by_cases hj : j = i
  · subst hj
    by_cases hi : j < e.length
    · rw [List.getElem?_set_self hi] at z1
      by_cases hl : j < σ.length
      · rw [List.getElem?_set_self hl] at z2
        exact .inr ⟨k, ds, Option.some.inj z1, Option.some.inj (Option.some.inj z2)⟩
      · rw [List.getElem?_eq_none (by rw [List.length_set]; omega)] at z2; cases z2
    · rw [List.getElem?_eq_none (by rw [List.length_set]; omega)] at z1; cases z1
  · rw [List.getElem?_set_ne (Ne.symm hj)] at z1 z2
    exact .inl ⟨j, k, ds, z1, z2⟩
/-- .. and the step that it is -/
theorem Step.give {i : Nat} {v : V} {c : Cl} (s : Step F H P F1 H1 (owns σ e)) (h : RC n K mg F1 H1 v c P H (owns σ e)) : Step F H P F1 H1 (owns (σ.set i (some v)) (e.set i c)) := by
  refine ⟨s.ext, s.new, s.keep, fun b hb => ?_⟩
  rcases owns.give hb with z | ⟨k, ds, rfl, rfl⟩
  · exact s.own b z
  · obtain ⟨_, a, vs, e1, _, _, _, _, _, h6⟩ := h
    cases e1
    exact h6.symm
/-- an own list rewritten -/
theorem Stt.rewr {i : Nat} {k : Bool} {ds ds' : List D} {a : Addr} {ws : List V} (S : Stt n K mg p F σ H e) (he : e[i]? = some (.own k ds)) (ha : σ[i]? = some (some (.ref a))) (hl : ws.length ≤ sizeLine) (hw : Rps n K mg F ws ds') : Stt n K mg p F σ (upd H a (.lst ws)) (e.set i (.own k ds')) := by
  have hi : i < e.length := (List.getElem?_eq_some_iff.mp he).1
  obtain ⟨a', vs, g1, g2, g3, g4, g5, g6⟩ := S.own i k ds he
  rw [ha] at g1
  cases g1
  have other : ∀ {j : Nat} {c : Cl}, j ≠ i → (e.set i (.own k ds'))[j]? = some c → e[j]? = some c := fun {j c} hj z => by
    rw [List.getElem?_set_ne (Ne.symm hj)] at z; exact z
  have back : ∀ {j : Nat} {l : Bool} {es : List D}, (e.set i (.own k ds'))[j]? = some (Cl.own l es) → ∃ l' es', e[j]? = some (Cl.own l' es') := fun {j l es} z => by
    by_cases hj : j = i
    · subst hj; exact ⟨_, _, he⟩
    · exact ⟨_, _, other hj z⟩
  refine ⟨fun b o h => ?_, by rw [List.length_set]; exact S.len, fun j d z => ?_, fun j l es z => ?_, fun j m l l' es es' b z1 z2 z3 z4 => ?_⟩
  · have hb : b ≠ a := fun z => by subst z; rw [g3] at h; cases h
    rw [upd_ne hb]
    exact S.sub b o h
  · by_cases hj : j = i
    · subst hj; rw [List.getElem?_set_self hi] at z; cases z
    · exact S.dat j d (other hj z)
  · by_cases hj : j = i
    · subst hj
      rw [List.getElem?_set_self hi] at z
      cases z
      exact ⟨a, ws, ha, upd_same, g3, hl, hw, g6⟩
    · obtain ⟨c, us, y1, y2, y3⟩ := S.own j l es (other hj z)
      have hc : c ≠ a := fun z' => hj (S.apart j i l k es ds a (other hj z) he (z' ▸ y1) ha)
      exact ⟨c, us, y1, by rw [upd_ne hc]; exact y2, y3⟩
  · obtain ⟨_, _, y1⟩ := back z1
    obtain ⟨_, _, y2⟩ := back z2
    exact S.apart j m _ _ _ _ b y1 y2 z3 z4
theorem Step.rewr {i : Nat} {k : Bool} {ds ds' : List D} {a : Addr} {ws : List V} (he : e[i]? = some (.own k ds)) (ha : σ[i]? = some (some (.ref a))) : Step F H (owns σ e) F (upd H a (.lst ws)) (owns σ (e.set i (.own k ds'))) := by
  have oa : owns σ e a := ⟨i, k, ds, he, ha⟩
  refine ⟨fun _ _ h => h, fun b o h => .inl ⟨o, h⟩, fun b o h hb => ?_, fun b ⟨j, l, es, z1, z2⟩ => .inl ?_⟩
  · have : b ≠ a := fun z => hb (z ▸ oa)
    rw [upd_ne this]; exact h
  · by_cases hj : j = i
    · subst hj
      rw [ha] at z2
      cases z2
      exact oa
    · rw [List.getElem?_set_ne (Ne.symm hj)] at z1
      exact ⟨j, l, es, z1, z2⟩
end
section
variable (n : Nm) (K : PySem.W.Frag) (mg : Str → Option Value) (p : Addr) (T : Nat → Fn) (W : WX)
def tS (c : S) : TS := fun D σ H => ∃ F e, Stt n K mg p F σ H e ∧ OutS n K mg p W D (owns σ e) F H (xs T n.gv c e)
def tSs (c : Ss) : TS := fun D σ H => ∃ F e, Stt n K mg p F σ H e ∧ OutS n K mg p W D (owns σ e) F H (xss T n.gv c e)
end
theorem weakS {X : Cx} {x : Stmt} {t t' : TS} (h : PS X x t) (w : ∀ D σ H, t' D σ H → t D σ H) : PS X x t' := ⟨fun pins s σ H D I hq => h.run pins s σ H D I (w D σ H hq)⟩
theorem weakSs {X : Cx} {x : List Stmt} {t t' : TS} (h : PSs X x t) (w : ∀ D σ H, t' D σ H → t D σ H) : PSs X x t' := ⟨fun pins s σ H D I hq => h.run pins s σ H D I (w D σ H hq)⟩
end Z

/-! Z6: a statement of the text read as one of the evaluator's. -/
namespace Z
open PySem PySem.Spec L2

/-- name = [..] on one line: the name is bound within -/
def swB (sc : Scope) (v : Expr) (y : Str) (py : Pos) : Bool := match v with
  | .ListComp _ _ s q => decide (sc.names.lookup y = some .local) && (py.line == q.line) && !(s.names.any fun (m, k) => m == y && (k == .local || k == .cell))
  | _ => false
def noSet : Expr → Bool
  | .SetComp .. => false
  | .DictComp .. => false
  | _ => true
theorem blk_fn {env : PySem.Env} (h : env.scope.kind = .function) : env.blockKind = .function := by unfold Env.blockKind; rw [h]; rfl
theorem sw_name {v : Expr} {y : Str} {py : Pos} {l : Nat} {env : PySem.Env} (h : env.scope.kind = .function) (hv : noSet v = true) : swapsWith v (some (.Name y py)) l env = pure (swB env.scope v y py) := by
  cases v <;> first | rfl | (exact absurd hv Bool.false_ne_true) | skip
  rename_i el gs s q
  unfold swapsWith swB
  simp only [blk_fn h, beq_self_eq_true, Bool.true_and]
  have : (env.kindOf y == some NameKind.local) = decide (env.scope.names.lookup y = some .local) := by
    show (env.scope.names.lookup y == some NameKind.local) = _
    rw [Bool.beq_eq_decide_eq]
  rw [this]
  rfl
def notName : Expr → Bool
  | .Name .. => false
  | _ => true
theorem sw_else {v t : Expr} {l : Nat} {env : PySem.Env} (ht : notName t = true) : swapsWith v (some t) l env = pure false := by
  cases v <;> first | rfl | (cases t <;> first | rfl | exact absurd ht Bool.false_ne_true)
theorem sole_else {v t : Expr} {l : Nat} {env : PySem.Env} (ht : notName t = true) : swapsWithSole [t] v l env = pure false := sw_else ht
def notTup : Expr → Bool
  | .Tuple .. => false
  | _ => true
theorem st_else {t v : Expr} {env : PySem.Env} (h : notTup v = true) : swappedStores [t] v env = pure none := by
  cases t <;> cases v <;> first | rfl | exact absurd h Bool.false_ne_true
theorem st_sub {t v : Expr} {env : PySem.Env} (h : notTup t = true) (h2 : (match t with | .List .. => false | _ => true) = true) : swappedStores [t] v env = pure none := by
  cases t <;> first | rfl | (exact absurd h Bool.false_ne_true) | (exact absurd h2 Bool.false_ne_true)
/-- the names that a store from the right binds -/
def swNames (sc : Scope) (ts : List Expr) : List Str := ts.filterMap fun
  | .Name id pos => if sc.names.lookup id == some .local && pos.line == (ts.head?.map (·.pos.line)).getD 0 then some id else none
  | _ => none
def swR (sc : Scope) (ts vs : List Expr) : Option (Option (List Str)) :=
  if (!(ts.length == 2 || ts.length == 3) || vs.length != ts.length) then some none
  else if (vs.any fun | .Starred .. => true | _ => false) then some none
  else if ((swNames sc ts).length != ts.length || (swNames sc ts).eraseDups.length != (swNames sc ts).length) then some none
  else if vs.all (foldedForSure 8) then some none
  else if vs.all (constantsAlone 8) then none
  else some (some (swNames sc ts))
theorem swR_ok {env : PySem.Env} {ts vs : List Expr} {k k2 : Nat} {p p2 : Pos} {r : Option (List Str)} (h : env.scope.kind = .function) (hr : swR env.scope ts vs = some r) : swappedStores [.Tuple ts k p] (.Tuple vs k2 p2) env = pure r := by
  unfold swappedStores
  unfold swR at hr
  have bk := blk_fn h
  have hN : (ts.filterMap fun
      | .Name id pos => if env.kindOf id == some .local && pos.line == (ts.head?.map (·.pos.line)).getD 0 then some id else none
      | _ => none) = swNames env.scope ts := rfl
  simp only [bk, bne_self_eq_false, Bool.or_false]
  show (if (!(ts.length == 2 || ts.length == 3) || vs.length != ts.length) = true then _ else _) = _
  split at hr
  · rename_i h1
    cases hr
    exact if_pos h1
  · rename_i h1
    refine (if_neg h1).trans ?_
    split at hr
    · rename_i h2
      cases hr
      exact if_pos h2
    · rename_i h2
      refine (if_neg h2).trans ?_
      split at hr
      · rename_i h3
        cases hr
        exact if_pos h3
      · rename_i h3
        refine (if_neg h3).trans ?_
        split at hr
        · rename_i h4
          cases hr
          exact if_pos h4
        · rename_i h4
          refine (if_neg h4).trans ?_
          split at hr
          · cases hr
          · rename_i h5
            cases hr
            exact if_neg h5
abbrev allC : Str → Bool := fun _ => true
def isCall : Expr → Bool
  | .Call .. => true
  | _ => false
/-- an except suite: a literal returned -/
def isH : Ss → List Stmt → Bool
  | .cons (.ret (.lit d)) .nil, [.Return (some (.Constant c _ _)) _] => isLit d c
  | _, _ => false
section
variable (n : Nm) (N : List Str)
mutual
def isS : S → Scope → Stmt → Bool
  | .set i a, sc, .Assign [.Name y py] v _ => okT N sc allC i y && isE n N a sc v && noSet v
  | .asg t a, sc, .Assign [.Tuple es k p] v _ => isTg N sc allC t (.Tuple es k p) && isE n N a sc v && notTup v
  | .tpar ts es, sc, .Assign [.Tuple xs _ _] (.Tuple vs _ _) _ => isTgs N sc allC ts xs && isEs n N es sc vs && (match swR sc xs vs with | some none => decide (es.len ≤ 1000) | some (some _) => true | none => false)
  | .sti i k a, sc, .Assign [.Subscript (.Name y _) j _] v _ => okV N sc i y && isE n N k sc j && isE n N a sc v
  | .st2 i k k' a a', sc, .Assign [.Tuple [.Subscript (.Name y _) j _, .Subscript (.Name y' _) j' _] _ _] (.Tuple [v, v'] _ _) _ => okV N sc i y && okV N sc i y' && isE n N k sc j && isE n N k' sc j' && isE n N a sc v && isE n N a' sc v'
  | .aug i o a, sc, .AugAssign (.Name y _) o' v _ => decide (o = o') && (decide (o = .Add) || decide (o = .Mult)) && okT N sc allC i y && isE n N a sc v
  | .apd i a, sc, .Expr (.Call (.Attribute (.Name y _) m ap) [v] [] cp) _ => decide (m = "append") && (ap.endLine == cp.line) && okV N sc i y && isE n N a sc v
  | .xtd i a, sc, .Expr (.Call (.Attribute (.Name y _) m ap) [v] [] cp) _ => decide (m = "extend") && (ap.endLine == cp.line) && okV N sc i y && isE n N a sc v
  | .rvs i, sc, .Expr (.Call (.Attribute (.Name y _) m ap) [] [] cp) _ => decide (m = "reverse") && (ap.endLine == cp.line) && okV N sc i y
  | .exp a, sc, .Expr v _ => isCall v && isE n N a sc v
  | .iff c a b, sc, .If x y z _ => isE n N c sc x && isSs a sc y && isSs b sc z
  | .for_ t it b, sc, .For x y z [] _ => isTg N sc allC t x && isIt n N it sc x y && isSs b sc z
  | .whl c b, sc, .While x y [] _ => isE n N c sc x && isSs b sc y
  | .ret a, sc, .Return (some x) _ => isE n N a sc x
  | .ret (.lit .non), _, .Return none _ => true
  | .rse x a, sc, .Raise (some (.Call (.Name y _) [v] [] _)) none _ => decide (n.nx x = y) && n.px x && okG sc y && isE n N a sc v
  | .try_ b x h, sc, .Try y [.ExceptHandler (some (.Name z _)) none s _] [] [] _ => isSs b sc y && decide (n.nx x = z) && n.px x && okG sc z && isH h s
  | .pas, _, .Pass _ => true
  | _, _, _ => false
def isSs : Ss → Scope → List Stmt → Bool
  | .nil, _, [] => true
  | .cons s ss, sc, x :: xs => isS s sc x && isSs ss sc xs
  | _, _, _ => false
end
end
end Z

/-! Z7: every statement keeps what the evaluator says. -/
namespace Z
open PySem PySem.Spec L2
section
variable {n : Nm} {p : Addr} {T : Nat → Fn} {k : Nat} {X : Cx} {W : WX}
def GS (n : Nm) (p : Addr) (T : Nat → Fn) (k : Nat) (c : S) : Prop := ∀ (X : Cx) (W : WX) (x : Stmt), Bd n T k X W → isS n X.N c X.env.scope x = true → PS X x (tS n X.K X.mg p T W c)
def GSs (n : Nm) (p : Addr) (T : Nat → Fn) (k : Nat) (c : Ss) : Prop := ∀ (X : Cx) (W : WX) (x : List Stmt), Bd n T k X W → isSs n X.N c X.env.scope x = true → PSs X x (tSs n X.K X.mg p T W c)
theorem Bd.tr (B : Bd n T k X W) {W' : WX} {pn : List (Addr × Obj)} {xe : Value → Shared → Prop} (tk : Takes (X.tr pn xe) W') (own : PassesOwn (model X.prog X.w) X.A X.env xe) : Bd n T k (X.tr pn xe) W' :=
  ⟨⟨B.gd.calm, B.gd.nd, B.gd.room, B.gd.blt, B.gd.glv, B.gd.fns⟩, tk, B.fn, B.kind, own, B.stk, B.fr, B.exc, B.exd⟩
theorem okT_ix {N : List Str} {sc : Scope} {i : Nat} {x : Str} (h : okT N sc allC i x = true) : N[i]? = some x ∧ Loc sc x := by
  obtain ⟨h1, h2⟩ := and1 h
  refine ⟨of_decide_eq_true h1, ?_⟩
  simp only [Bool.or_eq_true, Bool.and_eq_true, decide_eq_true_eq] at h2
  exact h2.elim .inl fun z => .inr z.1
variable {K : PySem.W.Frag} {mg : Str → Option Value} {En : Ends} {F H : Hp} {σ : L2.St} {e : Env} {P : Addr → Prop}
theorem fl_lift {α : Type} {o : Option α} {f : α → Env → Fl} (h : OutS n K mg p W En P F H ((R.lift o e).fl f)) : ∃ a, o = some a ∧ OutS n K mg p W En P F H (f a e) := by
  cases o with
  | none => exact h.elim
  | some a => exact ⟨a, rfl, h⟩
/-- a slot set -/
theorem set_end {i : Nat} {v : V} {c : Cl} {e1 : Env} {F1 H1 : Hp} (s : Step F H P F1 H1 (owns σ e1)) (S : Stt n K mg p F1 σ H1 e1) (h : OutS n K mg p W En P F H (stC i c e1)) (hv : RC n K mg F1 H1 v c P H (owns σ e1)) : En.nx (σ.set i (some v)) H1 := by
  unfold stC at h
  split at h
  case isFalse => exact h.elim
  rename_i hi
  exact h _ _ _ (s.give hv) (S.give hi hv)
/-- a target set -/
theorem tgt_end {t : Tg} {v : V} {d : D} {e1 : Env} {F1 H1 : Hp} (s : Step F H P F1 H1 (owns σ e1)) (S : Stt n K mg p F1 σ H1 e1) (h : OutS n K mg p W En P F H (match bindTg t d e1 with
    | some e2 => .nx e2
    | none => .no)) (hv : Rp n K mg F1 v d) : gOf K t v σ H1 En.nx := by
  cases hb : bindTg t d e1 with
  | none => rw [hb] at h; exact h.elim
  | some e2 =>
    rw [hb] at h
    refine gOf_ok t S hv hb fun σ' S' o w => h σ' F1 H1 (s.trans ?_) S'
    exact ⟨fun _ _ h => h, fun b o h => .inl ⟨o, h⟩, fun _ _ h _ => h, fun b hb => .inl (o b hb)⟩
theorem tpg {t : Tg} {x : Expr} (B : Bd n T k X W) (h : isTg X.N X.env.scope allC t x = true) : PG X x (gOf X.K t) := isTg_pg B.gd.nd (fun x _ => B.fn x) B.gd.calm t x h
variable {a b c : E} {x y z : Expr} {pos : Pos} {st : Stmt}
/-- the reading of name = value -/
theorem r_set {i : Nat} : ∀ D σ H, tS n X.K X.mg p T W (.set i a) D σ H → tAsg (tE n X.K X.mg p T W a) (gName i) D σ H := fun D σ H ⟨F, e, S, q⟩ =>
  ⟨F, e, S, (OutS.fl (show OutS n X.K X.mg p W D (owns σ e) F H ((ev T n.gv a e).fl fun c e1 => stC i c e1) from q)).mono fun F1 H1 e1 c ⟨s1, S1, q1⟩ v hv => set_end s1 S1 q1 hv⟩
theorem s_set {i : Nat} (B : Bd n T k X W) (h : isS n X.N (.set i a) X.env.scope st = true) : PS X st (tS n X.K X.mg p T W (.set i a)) := by
  cases st <;> first | (exact absurd h Bool.false_ne_true) | skip
  rename_i ts v ps
  rcases ts with _ | ⟨t, ts⟩ <;> first | (exact absurd h Bool.false_ne_true) | skip
  cases t <;> first | (exact absurd h Bool.false_ne_true) | skip
  rcases ts with _ | _ <;> first | (exact absurd h Bool.false_ne_true) | skip
  rename_i y py
  obtain ⟨h12, h3⟩ := and1 (show (okT X.N X.env.scope allC i y && isE n X.N a X.env.scope v && noSet v) = true from h)
  obtain ⟨h1, h2⟩ := and1 h12
  obtain ⟨hi, hx⟩ := okT_ix h1
  have hsw := sw_name (py := py) (y := y) (l := ps.line) B.kind h3
  cases hb : swB X.env.scope v y py with
  | false =>
    rw [hb] at hsw
    exact weakS (ps_set B.gd.nd hi hx (gE a X W v B.gd B.tk h2).e hsw (.inl (B.fn y))) r_set
  | true =>
    rw [hb] at hsw
    cases v <;> first | (exact absurd hb Bool.false_ne_true) | skip
    rename_i el gens scope q
    have hyl : X.env.scope.names.lookup y = some .local := by
      simp only [swB, Bool.and_eq_true, decide_eq_true_eq] at hb
      exact hb.1.1
    cases a <;> first | (exact absurd h2 Bool.false_ne_true) | skip
    case app f o es => cases o <;> exact absurd h2 Bool.false_ne_true
    case cm1 elt t it cd vs =>
      rcases gens with _ | ⟨⟨tg, ix, ifs, z⟩, _ | ⟨⟨_, _, _, _⟩, _ | _⟩⟩ <;> first | (exact absurd h2 Bool.false_ne_true) | skip
      have h' : (decide (z = 0) && isTg X.N (relS scope X.env.scope) (fun x => scope.names.lookup x == some .cell) t tg && tgIn t vs && isIt n X.N it X.env.scope tg ix && isOc n X.N cd (relS scope X.env.scope) ifs && isE n X.N elt (relS scope X.env.scope) el && blkC X.N X.env.scope scope (ownOf X.N vs)) = true := h2
      simp only [Bool.and_eq_true, decide_eq_true_eq] at h'
      obtain ⟨⟨⟨⟨⟨⟨rfl, g1⟩, g2⟩, g3⟩, g4⟩, g5⟩, g6⟩ := h'
      obtain ⟨tt, c1, c2⟩ := (gOe (p := p) (T := T) (k := k) cd).2 X.N _ ifs g4
      exact weakS (ps_setLc B.gd.calm B.gd.nd hi hyl hsw ((gIt it).2 X W tg ix B.gd B.tk g3) (blkOk_by g6) (fun s H C cl fp => isTg_pg (X := X.blk s H scope (compEnvC scope cl C X.env) fp) B.gd.nd (fun _ z => z) B.gd.calm t tg g1)
        (fun s H C cl fp => c1 (X.blk s H scope (compEnvC scope cl C X.env) fp) rfl rfl B.gd.blk takes0) (fun s H C cl fp => (gE elt (X.blk s H scope (compEnvC scope cl C X.env) fp) W0 el B.gd.blk takes0 g5).d) ((gIt (p := p) (T := T) (k := k) it).1 _ _ _ _ g3 X.env))
        fun D σ H hq => r_cm1 (own_snd _ _) g2 (c2 X.K X.mg) _ _ _ (r_set D σ H hq)
    case cm2 elt t it cd t' it' cd' vs vs' =>
      rcases gens with _ | ⟨⟨tg, ix, ifs, z⟩, _ | ⟨⟨tg', ix', ifs', z'⟩, _ | _⟩⟩ <;> first | (exact absurd h2 Bool.false_ne_true) | skip
      have h' : (decide (z = 0) && decide (z' = 0) && isTg X.N (relS scope X.env.scope) (fun x => scope.names.lookup x == some .cell) t tg && tgIn t vs && isIt n X.N it X.env.scope tg ix && isOc n X.N cd (relS scope X.env.scope) ifs &&
        isTg X.N (relS scope X.env.scope) (fun x => scope.names.lookup x == some .cell) t' tg' && tgIn t' vs' && isIt n X.N it' (relS scope X.env.scope) tg' ix' && isOc n X.N cd' (relS scope X.env.scope) ifs' &&
        isE n X.N elt (relS scope X.env.scope) el && blkC X.N X.env.scope scope (ownOf X.N vs) && (vs'.all fun i => vs.contains i)) = true := h2
      simp only [Bool.and_eq_true, decide_eq_true_eq, List.all_eq_true] at h'
      obtain ⟨⟨⟨⟨⟨⟨⟨⟨⟨⟨⟨⟨rfl, rfl⟩, g1⟩, g2⟩, g3⟩, g4⟩, g1'⟩, g2'⟩, g3'⟩, g4'⟩, g5⟩, g6⟩, g7⟩ := h'
      obtain ⟨tt, c1, c2⟩ := (gOe (p := p) (T := T) (k := k) cd).2 X.N _ ifs g4
      obtain ⟨tt', c1', c2'⟩ := (gOe (p := p) (T := T) (k := k) cd').2 X.N _ ifs' g4'
      have hsub : ∀ i ∈ vs', i ∈ vs := fun i hi => by have := g7 i hi; simpa using this
      exact weakS (ps_setLc2 (vs1 := vs') (wi1 := tIt n X.K X.mg p T W0 it') B.gd.calm B.gd.nd hi hyl hsw ((gIt it).2 X W tg ix B.gd B.tk g3) (blkOk_by g6) (by rw [own_snd]; exact hsub) (fun s H C cl fp => isTg_pg (X := X.blk s H scope (compEnvC scope cl C X.env) fp) B.gd.nd (fun _ z => z) B.gd.calm t tg g1)
        (fun s H C cl fp => c1 (X.blk s H scope (compEnvC scope cl C X.env) fp) rfl rfl B.gd.blk takes0) (fun s H C cl fp => (gIt it').2 (X.blk s H scope (compEnvC scope cl C X.env) fp) W0 tg' ix' B.gd.blk takes0 g3')
        (fun s H C cl fp => isTg_pg (X := X.blk s H scope (compEnvC scope cl C X.env) fp) B.gd.nd (fun _ z => z) B.gd.calm t' tg' g1') (fun s H C cl fp => c1' (X.blk s H scope (compEnvC scope cl C X.env) fp) rfl rfl B.gd.blk takes0)
        (fun s H C cl fp => (gE elt (X.blk s H scope (compEnvC scope cl C X.env) fp) W0 el B.gd.blk takes0 g5).d) ((gIt (p := p) (T := T) (k := k) it).1 _ _ _ _ g3 X.env) ((gIt (p := p) (T := T) (k := k) it').1 _ _ _ _ g3'))
        fun D σ H hq => r_cm2 (own_snd _ _) hsub g2 g2' (c2 X.K X.mg) (c2' X.K X.mg) _ _ _ (r_set D σ H hq)
end
end Z

/-! Z7b: the other statements. -/
namespace Z
open PySem PySem.Spec L2
section
variable {n : Nm} {p : Addr} {T : Nat → Fn} {k : Nat} {X : Cx} {W : WX}
variable {K : PySem.W.Frag} {mg : Str → Option Value} {En : Ends} {F H : Hp} {σ : L2.St} {e : Env} {P : Addr → Prop}
variable {a b c : E} {x y z : Expr} {pos : Pos} {st : Stmt}
theorem r_asg {t : Tg} : ∀ D σ H, tS n X.K X.mg p T W (.asg t a) D σ H → tAsg (tD n X.K X.mg p T W a) (gOf X.K t) D σ H := fun D σ H ⟨F, e, S, q⟩ =>
  ⟨F, e, S, (OutS.fl (show OutS n X.K X.mg p W D (owns σ e) F H ((data (ev T n.gv a e)).fl fun d e1 => (match bindTg t d e1 with
    | some e2 => .nx e2
    | none => .no)) from q)).mono fun F1 H1 e1 d ⟨s1, S1, q1⟩ v hv => tgt_end s1 S1 q1 hv⟩
theorem s_asg {t : Tg} (B : Bd n T k X W) (h : isS n X.N (.asg t a) X.env.scope st = true) : PS X st (tS n X.K X.mg p T W (.asg t a)) := by
  cases st <;> first | (exact absurd h Bool.false_ne_true) | skip
  rename_i ts v ps
  rcases ts with _ | ⟨t', ts⟩ <;> first | (exact absurd h Bool.false_ne_true) | skip
  cases t' <;> first | (exact absurd h Bool.false_ne_true) | skip
  rcases ts with _ | _ <;> first | (exact absurd h Bool.false_ne_true) | skip
  rename_i es k' py
  obtain ⟨h12, h3⟩ := and1 (show (isTg X.N X.env.scope allC t (.Tuple es k' py) && isE n X.N a X.env.scope v && notTup v) = true from h)
  obtain ⟨h1, h2⟩ := and1 h12
  exact weakS (ps_asg (gE a X W v B.gd B.tk h2).d (tpg B h1) (sole_else (t := .Tuple es k' py) rfl) (st_else h3) rfl) r_asg
theorem data_tup {es : Es} : data (ev T n.gv (.tup es) e) = (evs T n.gv es e).bind fun ds e1 => .ok (.tup ds) e1 := by
  show data ((evs T n.gv es e).bind fun ds e1 => .ok (Cl.dat (.tup ds)) e1) = _
  cases evs T n.gv es e <;> rfl
theorem tpar_asg {ts : Tgs} {es : Es} : xs T n.gv (.tpar ts es) e = xs T n.gv (.asg (.tp ts) (.tup es)) e := by
  show ((evs T n.gv es e).fl fun ds e1 => (match bindTgs ts ds e1 with
    | some e2 => .nx e2
    | none => .no)) = ((data (ev T n.gv (.tup es) e)).fl fun d e1 => (match bindTg (.tp ts) d e1 with
    | some e2 => .nx e2
    | none => .no))
  rw [data_tup]
  cases evs T n.gv es e <;> rfl
theorem names_of {sc : Scope} {ts : List Expr} {ln : Nat} : ∀ {us : List Expr}, (us.filterMap fun
      | .Name id pos => if sc.names.lookup id == some .local && pos.line == ln then some id else none
      | _ => none).length = us.length → ∀ u ∈ us, ∃ y q, u = .Name y q ∧ sc.names.lookup y = some .local
  | [], _, _, hu => by cases hu
  | u :: us, h, v, hv => by
    have hle := List.length_filterMap_le (fun (x : Expr) => match x with
      | .Name id pos => if sc.names.lookup id == some .local && pos.line == ln then some id else none
      | _ => none) us
    rw [List.filterMap_cons] at h
    split at h
    · rename_i hn
      rw [List.length_cons] at h
      omega
    · rename_i s hs
      rw [List.length_cons, List.length_cons] at h
      rcases List.mem_cons.mp hv with rfl | hv
      · cases v <;> first | (exact no_some hs) | skip
        rename_i id q
        have hs' : (if (sc.names.lookup id == some NameKind.local && q.line == ln) = true then some id else none) = some s := hs
        split at hs'
        · rename_i hc
          have := (and1 hc).1
          exact ⟨id, q, rfl, by simpa using this⟩
        · cases hs'
      · exact names_of (ts := ts) (Nat.succ.inj h) v hv
theorem s_tpar {ts : Tgs} {es : Es} (B : Bd n T k X W) (h : isS n X.N (.tpar ts es) X.env.scope st = true) : PS X st (tS n X.K X.mg p T W (.tpar ts es)) := by
  cases st <;> first | (exact absurd h Bool.false_ne_true) | skip
  rename_i us v ps
  rcases us with _ | ⟨t', us⟩ <;> first | (exact absurd h Bool.false_ne_true) | skip
  cases t' <;> first | (exact absurd h Bool.false_ne_true) | skip
  rcases us with _ | _ <;> first | (exact absurd h Bool.false_ne_true) | skip
  cases v <;> first | (exact absurd h Bool.false_ne_true) | skip
  rename_i xs k' py vs k2 p2
  obtain ⟨h12, h3⟩ := and1 (show (isTgs X.N X.env.scope allC ts xs && isEs n X.N es X.env.scope vs && (match swR X.env.scope xs vs with | some none => decide (es.len ≤ 1000) | some (some _) => true | none => false)) = true from h)
  obtain ⟨h1, h2⟩ := and1 h12
  have pa := gEs (p := p) es X W vs B.gd B.tk h2
  cases hr : swR X.env.scope xs vs with
  | none => rw [hr] at h3; cases h3
  | some o =>
  rw [hr] at h3
  cases o with
  | none =>
    have pe := e_tup (pos := p2) (k := k2) pa (of_decide_eq_true h3)
    refine weakS (ps_asg (toD pe) (tpg (t := .tp ts) B h1) (sole_else (t := .Tuple xs k' py) rfl) (swR_ok B.kind hr) rfl) fun D σ H ⟨F, e, S, q⟩ => r_asg D σ H ⟨F, e, S, ?_⟩
    rw [← tpar_asg]
    exact q
  | some nms =>
    have hsw := swR_ok (k := k') (k2 := k2) (p := py) (p2 := p2) B.kind hr
    -- the names
    unfold swR at hr
    split at hr
    · cases hr
    rename_i g1
    split at hr
    · cases hr
    split at hr
    · cases hr
    rename_i g3
    split at hr
    · cases hr
    split at hr
    · cases hr
    cases hr
    simp only [Bool.or_eq_true, Bool.not_eq_true', bne_iff_ne, ne_eq, not_or, Bool.not_eq_false, Decidable.not_not, beq_iff_eq] at g1 g3
    obtain ⟨g1, g2⟩ := g1
    obtain ⟨g3, g4⟩ := g3
    have nm : ∀ u ∈ xs, ∃ y q, u = .Name y q ∧ X.env.scope.names.lookup y = some .local := names_of (ts := xs) g3
    rcases xs with _ | ⟨u1, _ | ⟨u2, _ | ⟨u3, _ | ⟨u4, _⟩⟩⟩⟩
    · simp at g1
    · simp at g1
    · rcases vs with _ | ⟨v1, _ | ⟨v2, _ | _⟩⟩ <;> first | (simp at g2; done) | skip
      obtain ⟨y1, q1, rfl, l1⟩ := nm u1 (by simp)
      obtain ⟨y2, q2, rfl, l2⟩ := nm u2 (by simp)
      rcases ts with _ | ⟨t1, _ | ⟨t2, _ | _⟩⟩ <;> first | (exact absurd h1 Bool.false_ne_true) | (exact absurd (and1 h1).2 Bool.false_ne_true) | (exact absurd (and1 (and1 h1).2).2 Bool.false_ne_true) | skip
      obtain ⟨i1, i2'⟩ := and1 h1
      obtain ⟨i2, _⟩ := and1 i2'
      cases t1 <;> first | (exact absurd i1 Bool.false_ne_true) | skip
      cases t2 <;> first | (exact absurd i2 Bool.false_ne_true) | skip
      rename_i i j
      have e1 := (okT_ix i1).1
      have e2 := (okT_ix i2).1
      have hne : i ≠ j := fun z => by
        subst z
        rw [e1] at e2
        cases e2
        have : swNames X.env.scope [Expr.Name y1 q1, Expr.Name y1 q2] = [y1, y1] := by
          unfold swNames at g3 ⊢
          simp only [List.filterMap_cons, List.filterMap_nil] at g3 ⊢
          split at g3 <;> split at g3 <;> simp_all
        rw [this] at g4
        simp [List.eraseDups, List.eraseDupsBy, List.eraseDupsBy.loop] at g4
      have hnm : swNames X.env.scope [Expr.Name y1 q1, Expr.Name y2 q2] = [y1, y2] := by
          unfold swNames at g3 ⊢
          simp only [List.filterMap_cons, List.filterMap_nil] at g3 ⊢
          split at g3 <;> split at g3 <;> simp_all
      rw [hnm] at hsw
      refine weakS (ps_par B.gd.calm B.gd.nd e1 e2 hne l1 l2 pa hsw) fun D σ H ⟨F, e, S, q⟩ => ⟨F, e, S, (OutS.fl (show OutS n X.K X.mg p W D (owns σ e) F H ((evs T n.gv es e).fl fun ds e1 => (match bindTgs (.cons (.nm i) (.cons (.nm j) .nil)) ds e1 with
        | some e2 => .nx e2
        | none => .no)) from q)).mono fun F1 H1 e1 ds ⟨s1, S1, q1⟩ vs hv => ?_⟩
      cases hb : bindTgs (.cons (.nm i) (.cons (.nm j) .nil)) ds e1 with
      | none => rw [hb] at q1; exact q1.elim
      | some e2 =>
        rw [hb] at q1
        have := gsOf_ok (.cons (.nm i) (.cons (.nm j) .nil)) (Q := D.nx) S1 hv hb fun σ' S' o w => q1 σ' F1 H1 (s1.trans ⟨fun _ _ h => h, fun b o h => .inl ⟨o, h⟩, fun _ _ h _ => h, fun b hb => .inl (o b hb)⟩) S'
        obtain ⟨w1, r1, rfl, w2, r2, rfl, rfl, w3⟩ := this
        exact ⟨w1, w2, rfl, w3⟩
    · rcases vs with _ | ⟨v1, _ | ⟨v2, _ | ⟨v3, _ | _⟩⟩⟩ <;> first | (simp at g2; done) | skip
      obtain ⟨y1, q1, rfl, l1⟩ := nm u1 (by simp)
      obtain ⟨y2, q2, rfl, l2⟩ := nm u2 (by simp)
      obtain ⟨y3, q3, rfl, l3⟩ := nm u3 (by simp)
      rcases ts with _ | ⟨t1, _ | ⟨t2, _ | ⟨t3, _ | _⟩⟩⟩ <;> first | (exact absurd h1 Bool.false_ne_true) | (exact absurd (and1 h1).2 Bool.false_ne_true) | (exact absurd (and1 (and1 h1).2).2 Bool.false_ne_true) | (exact absurd (and1 (and1 (and1 h1).2).2).2 Bool.false_ne_true) | skip
      obtain ⟨i1, i2'⟩ := and1 h1
      obtain ⟨i2, i3'⟩ := and1 i2'
      obtain ⟨i3, _⟩ := and1 i3'
      cases t1 <;> first | (exact absurd i1 Bool.false_ne_true) | skip
      cases t2 <;> first | (exact absurd i2 Bool.false_ne_true) | skip
      cases t3 <;> first | (exact absurd i3 Bool.false_ne_true) | skip
      rename_i i j l
      have e1 := (okT_ix i1).1
      have e2 := (okT_ix i2).1
      have e3 := (okT_ix i3).1
      have hnm : swNames X.env.scope [Expr.Name y1 q1, Expr.Name y2 q2, Expr.Name y3 q3] = [y1, y2, y3] := by
          unfold swNames at g3 ⊢
          simp only [List.filterMap_cons, List.filterMap_nil] at g3 ⊢
          split at g3 <;> split at g3 <;> split at g3 <;> simp_all
      rw [hnm] at hsw g4
      have hd : y1 ≠ y2 ∧ y1 ≠ y3 ∧ y2 ≠ y3 := by
        refine ⟨fun z => ?_, fun z => ?_, fun z => ?_⟩ <;>
        · subst z
          simp only [List.eraseDups, List.eraseDupsBy, List.eraseDupsBy.loop, List.any_nil, List.any_cons, BEq.rfl, Bool.or_true, Bool.true_or, Bool.or_false, Bool.false_eq_true, if_false, if_true] at g4
          repeat' split at g4
          all_goals simp_all
      refine weakS (ps_par3 B.gd.calm B.gd.nd e1 e2 e3 (fun z => hd.1 (by subst z; rw [e1] at e2; exact Option.some.inj e2)) (fun z => hd.2.1 (by subst z; rw [e1] at e3; exact Option.some.inj e3)) (fun z => hd.2.2 (by subst z; rw [e2] at e3; exact Option.some.inj e3)) l1 l2 l3 pa hsw) fun D σ H ⟨F, e, S, q⟩ => ⟨F, e, S, (OutS.fl (show OutS n X.K X.mg p W D (owns σ e) F H ((evs T n.gv es e).fl fun ds e1 => (match bindTgs (.cons (.nm i) (.cons (.nm j) (.cons (.nm l) .nil))) ds e1 with
        | some e2 => .nx e2
        | none => .no)) from q)).mono fun F1 H1 e1 ds ⟨s1, S1, q1⟩ vs hv => ?_⟩
      cases hb : bindTgs (.cons (.nm i) (.cons (.nm j) (.cons (.nm l) .nil))) ds e1 with
      | none => rw [hb] at q1; exact q1.elim
      | some e2 =>
        rw [hb] at q1
        have := gsOf_ok (.cons (.nm i) (.cons (.nm j) (.cons (.nm l) .nil))) (Q := D.nx) S1 hv hb fun σ' S' o w => q1 σ' F1 H1 (s1.trans ⟨fun _ _ h => h, fun b o h => .inl ⟨o, h⟩, fun _ _ h _ => h, fun b hb => .inl (o b hb)⟩) S'
        obtain ⟨w1, r1, rfl, w2, r2, rfl, w3, r3, rfl, rfl, w4⟩ := this
        exact ⟨w1, w2, w3, rfl, w4⟩
    · simp at g1
end
end Z

/-! Z7c: stores into lists, list methods. -/
namespace Z
open PySem PySem.Spec L2
section
variable {n : Nm} {p : Addr} {T : Nat → Fn} {k : Nat} {X : Cx} {W : WX}
variable {K : PySem.W.Frag} {mg : Str → Option Value} {En : Ends} {F H : Hp} {σ : L2.St} {e : Env} {P : Addr → Prop}
variable {a b c : E} {x y z : Expr} {pos : Pos} {st : Stmt}
theorem ownAt_some {i : Nat} {u : Unit} (h : ownAt i e = some u) : ∃ k ds, e[i]? = some (.own k ds) := by
  unfold ownAt at h
  split at h
  · rename_i k ds hq
    exact ⟨k, ds, getD_get hq (fun z => nomatch z)⟩
  · cases h
/-- an own list's change, at the state -/
theorem own_end {i : Nat} {f : List D → Option (List D)} {e1 : Env} {F1 H1 : Hp} {a : Addr} (s : Step F H P F1 H1 (owns σ e1)) (S : Stt n K mg p F1 σ H1 e1) (ha : σ[i]? = some (some (.ref a))) (h : OutS n K mg p W En P F H (onOwn i e1 f)) :
    ∃ vs ds ds', H1 a = some (.lst vs) ∧ Rps n K mg F1 vs ds ∧ vs.length ≤ sizeLine ∧ f ds = some ds' ∧ ∀ ws, ws.length ≤ sizeLine → Rps n K mg F1 ws ds' → En.nx σ (upd H1 a (.lst ws)) := by
  unfold onOwn at h
  split at h
  · rename_i k ds hq
    have hi := getD_get hq (fun z => nomatch z)
    obtain ⟨a', vs, g1, g2, g3, g4, g5, g6⟩ := S.own i k ds hi
    rw [ha] at g1
    cases g1
    cases hf : f ds with
    | none => rw [hf] at h; exact h.elim
    | some ds' =>
      rw [hf] at h
      exact ⟨vs, ds, ds', g2, g5, g4, hf, fun ws hl hw => h σ F1 _ (s.trans (Step.rewr hi ha)) (S.rewr hi ha hl hw)⟩
  · exact h.elim
theorem peek_val {i : Nat} {d : D} (S : Stt n K mg p F σ H e) (h : peek i e = some d) : ∃ v, σ[i]? = some (some v) := by
  unfold peek at h
  cases q : e.getD i .no with
  | no => rw [q] at h; cases h
  | dat c =>
    obtain ⟨v, h1, _⟩ := S.dat i c (getD_get q (fun z => nomatch z))
    exact ⟨v, h1⟩
  | own k ds =>
    obtain ⟨a, vs, h1, _⟩ := S.own i k ds (getD_get q (fun z => nomatch z))
    exact ⟨_, h1⟩
/-- .. the slot then holds that list -/
theorem own_ref {i : Nat} {f : List D → Option (List D)} {e1 : Env} {F1 H1 : Hp} {v : V} (S : Stt n K mg p F1 σ H1 e1) (hv : σ[i]? = some (some v)) (h : OutS n K mg p W En P F H (onOwn i e1 f)) : ∃ a, v = .ref a := by
  unfold onOwn at h
  split at h
  · rename_i k ds hq
    obtain ⟨a', vs, g1, _⟩ := S.own i k ds (getD_get hq (fun z => nomatch z))
    rw [hv] at g1
    cases g1
    exact ⟨_, rfl⟩
  · exact h.elim
/-- row[k] = v, the value given -/
theorem sub_end {i : Nat} {kx : E} {v : V} {d : D} {e1 : Env} {F1 H1 : Hp} {f : Env → Fl} (S : Stt n K mg p F1 σ H1 e1) (hv : Rp n K mg F1 v d)
    (h : OutS n K mg p W En (owns σ e1) F1 H1 ((R.lift (peek i e1) e1).fl fun _ _ => (data (ev T n.gv kx e1)).fl fun j e2 => (onOwn i e2 fun ds => (ixOf j).bind fun j => setAt ds j d).then f)) :
    gSub (tVar i) (tD n K mg p T W kx) rSetL v σ H1 fun σ' H' => ∃ F' e', (∀ b o, F1 b = some o → F' b = some o) ∧ Stt n K mg p F' σ' H' e' ∧ OutS n K mg p W En (owns σ' e') F' H' (f e') := by
  obtain ⟨d0, hd0, q1⟩ := fl_lift h
  obtain ⟨v0, hv0⟩ := peek_val S hd0
  refine ⟨v0, hv0, F1, e1, S, (OutS.fl (En := En) q1).mono fun F2 H2 e2 j ⟨s2, S2, q2⟩ u ru => ?_⟩
  have q3 := q2.seq
  obtain ⟨a, rfl⟩ := own_ref S2 hv0 q3
  obtain ⟨vs, ds, ds', g1, g2, g3, g4, g5⟩ := own_end s2 S2 hv0 q3
  obtain ⟨iz, rfl⟩ : ∃ iz, j = .int iz := by cases j <;> first | (exact no_some g4) | (exact ⟨_, rfl⟩)
  cases ru
  have e3 : (ixD ds.length iz).map (fun m => ds.set m d) = some ds' := g4
  cases hx : ixD ds.length iz with
  | none => rw [hx] at e3; cases e3
  | some m =>
    rw [hx] at e3
    cases e3
    have hl : vs.length = ds.length := g2.length
    exact ⟨a, vs, iz, m, rfl, rfl, g1, by rw [hl]; exact hx, g5 _ (by rw [List.length_set]; exact g3) (g2.set (hv.up s2.ext) m)⟩
theorem good_sub {o j : Expr} {q : Pos} {env : PySem.Env} (h : badE j = false) : ∀ v, assign (.Subscript o j q) env v = (do
      let ov ← holding [v] (eval o env)
      let iv ← holding [v, ov] (eval j env)
      standAt q
      holding [v, ov, iv] (setItem ov iv v)
      release [v, ov, iv] []) := by
  intro v
  cases j <;> first | rfl | exact absurd h.symm Bool.false_ne_true
theorem s_sti {i : Nat} {kx : E} (B : Bd n T k X W) (h : isS n X.N (.sti i kx a) X.env.scope st = true) : PS X st (tS n X.K X.mg p T W (.sti i kx a)) := by
  cases st <;> first | (exact absurd h Bool.false_ne_true) | skip
  rename_i us v ps
  rcases us with _ | ⟨t', us⟩ <;> first | (exact absurd h Bool.false_ne_true) | skip
  cases t' <;> first | (exact absurd h Bool.false_ne_true) | skip
  rename_i o j q1
  cases o <;> first | (exact absurd h Bool.false_ne_true) | skip
  rcases us with _ | _ <;> first | (exact absurd h Bool.false_ne_true) | skip
  rename_i y q2
  obtain ⟨h12, h3⟩ := and1 (show (okV X.N X.env.scope i y && isE n X.N kx X.env.scope j && isE n X.N a X.env.scope v) = true from h)
  obtain ⟨h1, h2⟩ := and1 h12
  refine weakS (ps_asg (gE (p := p) a X W v B.gd B.tk h3).d (pg_sub (pe_slot h1) (gE (p := p) kx X W j B.gd B.tk h2).d set_list (good_sub (isE_good kx _ j h2))) (sole_else rfl) (st_sub rfl rfl) rfl) fun D σ H ⟨F, e, S, q⟩ => ?_
  refine ⟨F, e, S, (OutS.fl (show OutS n X.K X.mg p W D (owns σ e) F H ((data (ev T n.gv a e)).fl fun d e1 => (R.lift (peek i e1) e1).fl fun _ _ => (data (ev T n.gv kx e1)).fl fun j e2 => onOwn i e2 fun ds => (ixOf j).bind fun j => setAt ds j d) from q)).mono fun F1 H1 e1 d ⟨s1, S1, q1⟩ v hv => ?_⟩
  have q2 := OutS.from s1 q1
  have nxt : ∀ r : Fl, r.then Fl.nx = r := fun r => by cases r <;> rfl
  have e4 : ((R.lift (peek i e1) e1).fl fun _ _ => (data (ev T n.gv kx e1)).fl fun j e2 => onOwn i e2 fun ds => (ixOf j).bind fun j => setAt ds j d) = ((R.lift (peek i e1) e1).fl fun _ _ => (data (ev T n.gv kx e1)).fl fun j e2 => (onOwn i e2 fun ds => (ixOf j).bind fun j => setAt ds j d).then Fl.nx) := by
    simp only [nxt]
  rw [e4] at q2
  have := sub_end S1 hv q2
  obtain ⟨o, ho, F2, e2, S2, q3⟩ := this
  exact ⟨o, ho, F2, e2, S2, q3.mono fun F3 H3 e3 j q4 u ru => by
    obtain ⟨pp, vs, kk, jj, g1, g2, g3, g4, F4, e4, g5, S4, q5⟩ := q4 u ru
    exact ⟨pp, vs, kk, jj, g1, g2, g3, g4, OutS.here S4 q5⟩⟩
theorem s_st2 {i : Nat} {kx kx' : E} (B : Bd n T k X W) (h : isS n X.N (.st2 i kx kx' a b) X.env.scope st = true) : PS X st (tS n X.K X.mg p T W (.st2 i kx kx' a b)) := by
  cases st <;> first | (exact absurd h Bool.false_ne_true) | skip
  rename_i us v ps
  rcases us with _ | ⟨t', us⟩ <;> first | (exact absurd h Bool.false_ne_true) | skip
  cases t' <;> first | (exact absurd h Bool.false_ne_true) | skip
  rename_i xs k1 q1
  rcases xs with _ | ⟨t1, xs⟩ <;> first | (exact absurd h Bool.false_ne_true) | skip
  cases t1 <;> first | (exact absurd h Bool.false_ne_true) | skip
  rename_i o1 j1 q2
  cases o1 <;> first | (exact absurd h Bool.false_ne_true) | skip
  rcases xs with _ | ⟨t2, xs⟩ <;> first | (exact absurd h Bool.false_ne_true) | skip
  cases t2 <;> first | (exact absurd h Bool.false_ne_true) | skip
  rename_i o2 j2 q4
  cases o2 <;> first | (exact absurd h Bool.false_ne_true) | skip
  rcases xs with _ | _ <;> first | (exact absurd h Bool.false_ne_true) | skip
  rcases us with _ | _ <;> first | (exact absurd h Bool.false_ne_true) | skip
  cases v <;> first | (exact absurd h Bool.false_ne_true) | skip
  rename_i vs k2 p2
  rcases vs with _ | ⟨v1, _ | ⟨v2, _ | _⟩⟩ <;> first | (exact absurd h Bool.false_ne_true) | skip
  rename_i y1 q3 y2 q5
  have h' : (okV X.N X.env.scope i y1 && okV X.N X.env.scope i y2 && isE n X.N kx X.env.scope j1 && isE n X.N kx' X.env.scope j2 && isE n X.N a X.env.scope v1 && isE n X.N b X.env.scope v2) = true := h
  simp only [Bool.and_eq_true] at h'
  obtain ⟨⟨⟨⟨⟨h1, h2⟩, h3⟩, h4⟩, h5⟩, h6⟩ := h'
  have xa := gE (p := p) a X W v1 B.gd B.tk h5
  have xb := gE (p := p) b X W v2 B.gd B.tk h6
  have pa : PA X [v1, v2] (tDs n X.K X.mg p T W (.cons a (.cons b .nil))) := es_cons xa.d (es_cons xb.d es_nil (isE_good b _ v2 h6)) (isE_good a _ v1 h5)
  have hsw : swR X.env.scope [.Subscript (.Name y1 q3) j1 q2, .Subscript (.Name y2 q5) j2 q4] [v1, v2] = some none := by
    unfold swR
    rw [if_neg (by simp)]
    split
    · rfl
    · rfl
  have pe := e_tup (pos := p2) (k := k2) pa (show 2 ≤ 1000 by decide)
  have g1 : PG X (.Subscript (.Name y1 q3) j1 q2) (gSub (tVar i) (tD n X.K X.mg p T W kx) rSetL) := pg_sub (pe_slot h1) (gE kx X W j1 B.gd B.tk h3).d set_list (good_sub (isE_good kx _ j1 h3))
  have g2 : PG X (.Subscript (.Name y2 q5) j2 q4) (gSub (tVar i) (tD n X.K X.mg p T W kx') rSetL) := pg_sub (pe_slot h2) (gE kx' X W j2 B.gd B.tk h4).d set_list (good_sub (isE_good kx' _ j2 h4))
  refine weakS (ps_asg (toD pe) (pg_tup (n := 2) B.gd.calm (pgs_cons g1 (pgs_cons g2 pgs_nil rfl) rfl) rfl rfl) (sole_else rfl) (swR_ok B.kind hsw) rfl) fun D σ H ⟨F, e, S, q⟩ => ?_
  have q' : OutS n X.K X.mg p W D (owns σ e) F H ((data (ev T n.gv (.tup (.cons a (.cons b .nil))) e)).fl fun d e2 => (match d with
    | .tup [d, d'] => (R.lift (peek i e2) e2).fl fun _ _ => (data (ev T n.gv kx e2)).fl fun j e3 =>
      (onOwn i e3 fun ds => (ixOf j).bind fun j => setAt ds j d).then fun e4 => (R.lift (peek i e4) e4).fl fun _ _ => (data (ev T n.gv kx' e4)).fl fun j' e5 => onOwn i e5 fun ds => (ixOf j').bind fun j => setAt ds j d'
    | _ => .no)) := by
    rw [data_tup]
    have q0 : OutS n X.K X.mg p W D (owns σ e) F H ((data (ev T n.gv a e)).fl fun d e1 => (data (ev T n.gv b e1)).fl fun d' e2 => (R.lift (peek i e2) e2).fl fun _ _ => (data (ev T n.gv kx e2)).fl fun j e3 =>
      (onOwn i e3 fun ds => (ixOf j).bind fun j => setAt ds j d).then fun e4 => (R.lift (peek i e4) e4).fl fun _ _ => (data (ev T n.gv kx' e4)).fl fun j' e5 => onOwn i e5 fun ds => (ixOf j').bind fun j => setAt ds j d') := q
    show OutS n X.K X.mg p W D (owns σ e) F H ((((data (ev T n.gv a e)).bind fun x e1 => ((data (ev T n.gv b e1)).bind fun x e2 => (R.ok ([] : List Z.D) e2).bind fun xs e3 => .ok (x :: xs) e3).bind fun xs e2 => .ok (x :: xs) e2).bind fun ds e1 => .ok (Z.D.tup ds) e1).fl _)
    cases r1 : data (ev T n.gv a e) with
    | no => rw [r1] at q0; exact q0
    | ex x e1 => rw [r1] at q0; exact q0
    | ok d e1 =>
      rw [r1] at q0
      have q1 : OutS n X.K X.mg p W D (owns σ e) F H ((data (ev T n.gv b e1)).fl fun d' e2 => _) := q0
      show OutS n X.K X.mg p W D (owns σ e) F H (((((data (ev T n.gv b e1)).bind fun x e2 => (R.ok ([] : List Z.D) e2).bind fun xs e3 => .ok (x :: xs) e3).bind fun xs e2 => .ok (d :: xs) e2).bind fun ds e1 => .ok (Z.D.tup ds) e1).fl _)
      cases r2 : data (ev T n.gv b e1) with
      | no => rw [r2] at q1; exact q1
      | ex x e1 => rw [r2] at q1; exact q1
      | ok d' e2 => rw [r2] at q1; exact q1
  refine ⟨F, e, S, (OutS.fl q').mono fun F1 H1 e1 d hh v hv => ?_⟩
  obtain ⟨s1, S1, q1⟩ := hh
  split at q1
  · rename_i d d'
    cases hv with
    | @tup ad vs _ c1 c2 c3 =>
    cases c3 with
    | @cons w1 ws1 _ _ c4 c5 =>
    cases c5 with
    | @cons w2 ws2 _ _ c6 c7 =>
    cases c7
    refine ⟨ad, [w1, w2], rfl, SqT.up c1 S1.sub, rfl, w1, [w2], rfl, ?_⟩
    have q2 := OutS.from s1 q1
    have st1 := sub_end S1 c4 q2
    obtain ⟨o, ho, F2, e2, S2, q3⟩ := st1
    refine ⟨o, ho, F2, e2, S2, q3.mono fun F3 H3 e3 j q4 u ru => ?_⟩
    obtain ⟨pp, vs, kk, jj, g1, g2, g3, g4, F4, e4, g5, S4, q5⟩ := q4 u ru
    refine ⟨pp, vs, kk, jj, g1, g2, g3, g4, w2, [], rfl, ?_⟩
    have nxt : ∀ r : Fl, r.then Fl.nx = r := fun r => by cases r <;> rfl
    have e6 : ((R.lift (peek i e4) e4).fl fun _ _ => (data (ev T n.gv kx' e4)).fl fun j' e5 => onOwn i e5 fun ds => (ixOf j').bind fun j => setAt ds j d') = ((R.lift (peek i e4) e4).fl fun _ _ => (data (ev T n.gv kx' e4)).fl fun j e2 => (onOwn i e2 fun ds => (ixOf j).bind fun j => setAt ds j d').then Fl.nx) := by
      simp only [nxt]
    rw [e6] at q5
    obtain ⟨o, ho, F5, e5, S5, q6⟩ := sub_end S4 (c6.up g5) q5
    exact ⟨o, ho, F5, e5, S5, q6.mono fun F6 H6 e6 j q7 u ru => by
      obtain ⟨pp, vs, kk, jj, g1, g2, g3, g4, F7, e7, g5, S7, q8⟩ := q7 u ru
      exact ⟨pp, vs, kk, jj, g1, g2, g3, g4, rfl, OutS.here S7 q8⟩⟩
  · exact q1.elim
theorem s_aug {i : Nat} {o : Operator} (B : Bd n T k X W) (h : isS n X.N (.aug i o a) X.env.scope st = true) : PS X st (tS n X.K X.mg p T W (.aug i o a)) := by
  cases st <;> first | (exact absurd h Bool.false_ne_true) | skip
  rename_i t o' v ps
  cases t <;> first | (exact absurd h Bool.false_ne_true) | skip
  rename_i y q1
  obtain ⟨h12, h3⟩ := and1 (show (decide (o = o') && (decide (o = .Add) || decide (o = .Mult)) && okT X.N X.env.scope allC i y && isE n X.N a X.env.scope v) = true from h)
  obtain ⟨h12', h2⟩ := and1 h12
  obtain ⟨h1, h0⟩ := and1 h12'
  obtain rfl := of_decide_eq_true h1
  obtain ⟨hi, hx⟩ := okT_ix h2
  have xa := gE (p := p) a X W v B.gd B.tk h3
  have go : ∀ D σ H, tS n X.K X.mg p T W (.aug i o a) D σ H → ∃ ii : Int, σ[i]? = some (some (.int ii)) ∧ ∃ F e, Stt n X.K X.mg p F σ H e ∧ Out n X.K X.mg p W σ F H e (data (ev T n.gv a e)) fun F1 H1 e1 y => Step F H (owns σ e) F1 H1 (owns σ e1) ∧ Stt n X.K X.mg p F1 σ H1 e1 ∧ ∃ z, augD o ii y = some z ∧ OutS n X.K X.mg p W D (owns σ e) F H (stC i (.dat (.int z)) e1) := fun D σ H ⟨F, e, S, q⟩ => by
    obtain ⟨ii, hp, q1⟩ := fl_lift (show OutS n X.K X.mg p W D (owns σ e) F H ((R.lift ((peek i e).bind ixOf) e).fl fun x _ => (data (ev T n.gv a e)).fl fun y e1 => (R.lift (augD o x y) e1).fl fun z e2 => stC i (.dat (.int z)) e2) from q)
    have hd : peek i e = some (.int ii) := by
      cases hq : peek i e with
      | none => rw [hq] at hp; cases hp
      | some d =>
        rw [hq] at hp
        cases d <;> first | (exact no_some hp) | skip
        cases hp
        rfl
    have hs : σ[i]? = some (some (.int ii)) := by
      unfold peek at hd
      cases hq : e.getD i .no with
      | no => rw [hq] at hd; cases hd
      | own _ _ => rw [hq] at hd; cases hd
      | dat c =>
        rw [hq] at hd
        cases hd
        obtain ⟨v, g1, g2⟩ := S.dat i _ (getD_get hq (fun z => nomatch z))
        cases g2
        exact g1
    exact ⟨ii, hs, F, e, S, (OutS.fl q1).mono fun F1 H1 e1 y ⟨s1, S1, q2⟩ => ⟨s1, S1, fl_lift (f := fun z e2 => stC i (.dat (.int z)) e2) q2⟩⟩
  rcases (Bool.or_eq_true _ _).mp h0 with h0 | h0
  · obtain rfl := of_decide_eq_true h0
    refine weakS (ps_aug B.gd.nd hi hx xa.d ip_add (.inl (B.fn y))) fun D σ H q => ?_
    obtain ⟨ii, hs, F, e, S, q1⟩ := go D σ H q
    refine ⟨.int ii, hs, F, e, S, q1.mono fun F1 H1 e1 d ⟨s1, S1, z, hz, q2⟩ v hv => ?_⟩
    cases hv <;> first | (exact no_some hz) | skip
    cases hz
    exact ⟨ii, _, rfl, rfl, set_end s1 S1 q2 (.int _)⟩
  · obtain rfl := of_decide_eq_true h0
    refine weakS (ps_aug B.gd.nd hi hx xa.d (fun pins s σ H x y v u Q => iop_mul pins s σ H x y v u Q) (.inl (B.fn y))) fun D σ H q => ?_
    obtain ⟨ii, hs, F, e, S, q1⟩ := go D σ H q
    refine ⟨.int ii, hs, F, e, S, q1.mono fun F1 H1 e1 d hh v hv => ?_⟩
    obtain ⟨s1, S1, z, hz, q2⟩ := hh
    cases hv <;> first | (exact no_some hz) | skip
    rename_i jj
    have hz' : (if cMul ii jj then some (ii * jj) else none) = some z := hz
    split at hz'
    · rename_i hc
      cases hz'
      exact ⟨ii, _, rfl, rfl, by simpa only [cMul, CMul, Bool.or_eq_true, Bool.and_eq_true, decide_eq_true_eq] using hc, set_end s1 S1 q2 (.int _)⟩
    · cases hz'
theorem s_apd {i : Nat} (B : Bd n T k X W) (h : isS n X.N (.apd i a) X.env.scope st = true) : PS X st (tS n X.K X.mg p T W (.apd i a)) := by
  cases st <;> first | (exact absurd h Bool.false_ne_true) | skip
  rename_i v ps
  cases v <;> first | (exact absurd h Bool.false_ne_true) | skip
  rename_i f xs kw cp
  cases f <;> first | (exact absurd h Bool.false_ne_true) | skip
  rename_i o m ap
  cases o <;> first | (exact absurd h Bool.false_ne_true) | skip
  rcases xs with _ | ⟨v, _ | _⟩ <;> first | (exact absurd h Bool.false_ne_true) | skip
  rcases kw with _ | _ <;> first | (exact absurd h Bool.false_ne_true) | skip
  rename_i y q1
  obtain ⟨h123, h4⟩ := and1 (show (decide (m = "append") && (ap.endLine == cp.line) && okV X.N X.env.scope i y && isE n X.N a X.env.scope v) = true from h)
  obtain ⟨h12, h3⟩ := and1 h123
  obtain ⟨h1, h2⟩ := and1 h12
  obtain rfl := of_decide_eq_true h1
  have gx := isE_good a _ v h4
  have st := good_star gx [] X.env
  refine weakS (ps_expr (pe_bm PySem.F.plainAttrs_list PySem.F.slot_list_append PySem.F.type_list_append mt_append (pe_slot h3) (pa_cons (gE (p := p) a X W v B.gd B.tk h4).d pa_nil st) rfl (by rw [st]; rfl) h2 st rfl) rfl) fun D σ H ⟨F, e, S, q⟩ => ?_
  obtain ⟨u, hu, q1⟩ := fl_lift (show OutS n X.K X.mg p W D (owns σ e) F H ((R.lift (ownAt i e) e).fl fun _ _ => (data (ev T n.gv a e)).fl fun d e1 => onOwn i e1 fun ds => if ds.length < LIM then some (ds ++ [d]) else none) from q)
  obtain ⟨k0, ds0, hi0⟩ := ownAt_some hu
  obtain ⟨b, vs0, c1, c2, c3, c4, c5, c6⟩ := S.own i k0 ds0 hi0
  refine ⟨_, c1, .inl ⟨rfl, vs0, .inl (.inl c2)⟩, F, e, S, (OutS.fl q1).mono fun F1 H1 e1 d ⟨s1, S1, q2⟩ v hv => ?_⟩
  obtain ⟨vs, ds, ds', g1, g2, g3, g4, g5⟩ := own_end s1 S1 c1 q2
  split at g4
  · rename_i hl
    cases g4
    have hlen : vs.length < sizeLine := by rw [g2.length]; exact hl
    exact ⟨b, vs, v, rfl, rfl, g1, hlen, g5 _ (by rw [List.length_append, List.length_singleton]; omega) (g2.app (.cons hv .nil))⟩
  · cases g4
theorem s_xtd {i : Nat} (B : Bd n T k X W) (h : isS n X.N (.xtd i a) X.env.scope st = true) : PS X st (tS n X.K X.mg p T W (.xtd i a)) := by
  cases st <;> first | (exact absurd h Bool.false_ne_true) | skip
  rename_i v ps
  cases v <;> first | (exact absurd h Bool.false_ne_true) | skip
  rename_i f xs kw cp
  cases f <;> first | (exact absurd h Bool.false_ne_true) | skip
  rename_i o m ap
  cases o <;> first | (exact absurd h Bool.false_ne_true) | skip
  rcases xs with _ | ⟨v, _ | _⟩ <;> first | (exact absurd h Bool.false_ne_true) | skip
  rcases kw with _ | _ <;> first | (exact absurd h Bool.false_ne_true) | skip
  rename_i y q1
  obtain ⟨h123, h4⟩ := and1 (show (decide (m = "extend") && (ap.endLine == cp.line) && okV X.N X.env.scope i y && isE n X.N a X.env.scope v) = true from h)
  obtain ⟨h12, h3⟩ := and1 h123
  obtain ⟨h1, h2⟩ := and1 h12
  obtain rfl := of_decide_eq_true h1
  have gx := isE_good a _ v h4
  have st := good_star gx [] X.env
  refine weakS (ps_expr (pe_bm PySem.F.plainAttrs_list PySem.F.slot_list_extend PySem.F.type_list_extend mt_xtd (pe_slot h3) (pa_cons (gE (p := p) a X W v B.gd B.tk h4).d pa_nil st) rfl (by rw [st]; rfl) h2 st rfl) rfl) fun D σ H ⟨F, e, S, q⟩ => ?_
  obtain ⟨u, hu, q1⟩ := fl_lift (show OutS n X.K X.mg p W D (owns σ e) F H ((R.lift (ownAt i e) e).fl fun _ _ => (data (ev T n.gv a e)).fl fun d e1 => onOwn i e1 fun ds => (itemsOf d).bind fun zs => if ds.length + zs.length ≤ LIM then some (ds ++ zs) else none) from q)
  obtain ⟨k0, ds0, hi0⟩ := ownAt_some hu
  obtain ⟨b, vs0, c1, c2, c3, c4, c5, c6⟩ := S.own i k0 ds0 hi0
  refine ⟨_, c1, .inl ⟨rfl, vs0, .inl (.inl c2)⟩, F, e, S, (OutS.fl q1).mono fun F1 H1 e1 d ⟨s1, S1, q2⟩ v hv => ?_⟩
  obtain ⟨vs, ds, ds', g1, g2, g3, g4, g5⟩ := own_end s1 S1 c1 q2
  obtain ⟨zs, us, b', rfl, hr, hz, g4'⟩ : ∃ zs us b', v = .ref b' ∧ (SqL X.K H1 b' us ∨ SqT X.K H1 b' us) ∧ Rps n X.K X.mg F1 us zs ∧ (if ds.length + zs.length ≤ LIM then some (ds ++ zs) else none) = some ds' := by
    cases hv with
    | tup y1 y2 y3 => exact ⟨_, _, _, rfl, .inr (SqT.up y1 S1.sub), y3, g4⟩
    | lst y1 y2 y3 => exact ⟨_, _, _, rfl, .inl (SqL.up y1 S1.sub), y3, g4⟩
    | non => exact no_some g4
    | bl _ => exact no_some g4
    | int _ => exact no_some g4
    | str _ => exact no_some g4
    | fn _ => exact no_some g4
  split at g4'
  · rename_i hl
    cases g4'
    have hlen : vs.length + us.length ≤ sizeLine := by rw [g2.length, hz.length]; exact hl
    exact ⟨b, b', vs, us, rfl, rfl, g1, hr, hlen, g5 _ (by rw [List.length_append]; exact hlen) (g2.app hz)⟩
  · cases g4'
theorem s_rvs {i : Nat} (B : Bd n T k X W) (h : isS n X.N (.rvs i) X.env.scope st = true) : PS X st (tS n X.K X.mg p T W (.rvs i)) := by
  cases st <;> first | (exact absurd h Bool.false_ne_true) | skip
  rename_i v ps
  cases v <;> first | (exact absurd h Bool.false_ne_true) | skip
  rename_i f xs kw cp
  cases f <;> first | (exact absurd h Bool.false_ne_true) | skip
  rename_i o m ap
  cases o <;> first | (exact absurd h Bool.false_ne_true) | skip
  rcases xs with _ | _ <;> first | (exact absurd h Bool.false_ne_true) | skip
  rcases kw with _ | _ <;> first | (exact absurd h Bool.false_ne_true) | skip
  rename_i y q1
  obtain ⟨h12, h3⟩ := and1 (show (decide (m = "reverse") && (ap.endLine == cp.line) && okV X.N X.env.scope i y) = true from h)
  obtain ⟨h1, h2⟩ := and1 h12
  obtain rfl := of_decide_eq_true h1
  refine weakS (ps_expr (pe_bm0 PySem.F.plainAttrs_list PySem.F.slot_list_reverse PySem.F.type_list_reverse mt_reverse (pe_slot h3) rfl h2) rfl) fun D σ H ⟨F, e, S, q⟩ => ?_
  have q1 : OutS n X.K X.mg p W D (owns σ e) F H (onOwn i e fun ds => some ds.reverse) := q
  have oi : ∃ k ds, e[i]? = some (.own k ds) := by
    unfold onOwn at q1
    split at q1
    · rename_i k ds hq
      exact ⟨k, ds, getD_get hq (fun z => nomatch z)⟩
    · exact q1.elim
  obtain ⟨k0, ds0, hi0⟩ := oi
  obtain ⟨b, vs0, c1, c2, c3, c4, c5, c6⟩ := S.own i k0 ds0 hi0
  obtain ⟨vs, ds, ds', g1, g2, g3, g4, g5⟩ := own_end Step.refl S c1 q1
  cases g4
  exact ⟨_, c1, .inl ⟨rfl, vs0, .inl (.inl c2)⟩, b, vs, rfl, rfl, g1, g5 _ (by rw [List.length_reverse]; exact g3) g2.rev⟩
theorem s_exp (B : Bd n T k X W) (h : isS n X.N (.exp a) X.env.scope st = true) : PS X st (tS n X.K X.mg p T W (.exp a)) := by
  cases st <;> first | (exact absurd h Bool.false_ne_true) | skip
  rename_i v ps
  obtain ⟨h1, h2⟩ := and1 (show (isCall v && isE n X.N a X.env.scope v) = true from h)
  have hs : swapsWith v none ps.line X.env = pure false := by
    cases v <;> first | rfl | exact absurd h1 Bool.false_ne_true
  refine weakS (ps_expr (gE (p := p) a X W v B.gd B.tk h2).d hs) fun D σ H ⟨F, e, S, q⟩ => ?_
  exact ⟨F, e, S, (OutS.fl (show OutS n X.K X.mg p W D (owns σ e) F H ((data (ev T n.gv a e)).fl fun _ e1 => .nx e1) from q)).mono fun F1 H1 e1 d ⟨s1, S1, q1⟩ v hv => q1 σ F1 H1 s1 S1⟩
end
end Z

/-! Z7d: control. -/
namespace Z
open PySem PySem.Spec L2
section
variable {n : Nm} {p : Addr} {T : Nat → Fn} {k : Nat} {X : Cx} {W : WX}
variable {K : PySem.W.Frag} {mg : Str → Option Value} {En : Ends} {F H : Hp} {σ : L2.St} {e : Env} {P : Addr → Prop}
variable {a b c : E} {x y z : Expr} {pos : Pos} {st : Stmt}
theorem s_iff {u v : Ss} (B : Bd n T k X W) (iu : GSs n p T k u) (iv : GSs n p T k v) (h : isS n X.N (.iff c u v) X.env.scope st = true) : PS X st (tS n X.K X.mg p T W (.iff c u v)) := by
  cases st <;> first | (exact absurd h Bool.false_ne_true) | skip
  rename_i x y z ps
  obtain ⟨h12, h3⟩ := and1 (show (isE n X.N c X.env.scope x && isSs n X.N u X.env.scope y && isSs n X.N v X.env.scope z) = true from h)
  obtain ⟨h1, h2⟩ := and1 h12
  refine weakS (ps_if (gE (p := p) c X W x B.gd B.tk h1).t (iu X W y B h2) (iv X W z B h3)) fun D σ H ⟨F, e, S, q⟩ => ?_
  refine ⟨F, e, S, (OutS.fl (show OutS n X.K X.mg p W D (owns σ e) F H ((truth (data (ev T n.gv c e))).fl fun k e1 => if k then xss T n.gv u e1 else xss T n.gv v e1) from q)).mono fun F1 H1 e1 kk ⟨s1, S1, q1⟩ => ?_⟩
  cases kk with
  | true =>
    rw [if_pos rfl] at q1 ⊢
    exact ⟨F1, e1, S1, OutS.from s1 q1⟩
  | false =>
    rw [if_neg (by decide)] at q1 ⊢
    exact ⟨F1, e1, S1, OutS.from s1 q1⟩
/-- an item handed on, at a state -/
theorem yld_stt {F0 F H H' : Hp} {σ : L2.St} {e : Env} {items : List Z.D} {J : L2.It} {i : Nat} {v : V} {d : Z.D} (S : Stt n K mg p F σ H e) (hJ : ItR n K mg F0 J items) (up : ∀ b o, F0 b = some o → F b = some o) (hy : J.yld i H v H') (hd : items[i]? = some d) :
    ∃ F', Step F H (owns σ e) F' H' (owns σ e) ∧ Stt n K mg p F' σ H' e ∧ Rp n K mg F' v d := by
  rcases hJ.yld i H v H' (fun b o h => S.sub b o (up b o h)) hy d hd with ⟨rfl, r⟩ | ⟨q, vs, ds, hq, rfl, rfl, rfl, hl, rs⟩
  · exact ⟨F, Step.refl, S, r.up up⟩
  · refine ⟨upd F q (.tup vs), Step.allocF S hq, S.allocF hq, .tup (.inl (.inl upd_same)) hl (rs.up fun b o h => ?_)⟩
    rw [upd_ne (ne_of_none (up b o h) (S.noF hq))]; exact up b o h
theorem s_for {t : Tg} {it : Z.It} {u : Ss} (B : Bd n T k X W) (iu : GSs n p T k u) (h : isS n X.N (.for_ t it u) X.env.scope st = true) : PS X st (tS n X.K X.mg p T W (.for_ t it u)) := by
  cases st <;> first | (exact absurd h Bool.false_ne_true) | skip
  rename_i x y z w ps
  cases w <;> first | (exact absurd h Bool.false_ne_true) | skip
  obtain ⟨h12, h3⟩ := and1 (show (isTg X.N X.env.scope allC t x && isIt n X.N it X.env.scope x y && isSs n X.N u X.env.scope z) = true from h)
  obtain ⟨h1, h2⟩ := and1 h12
  refine weakS (ps_for B.own B.gd.calm ((gIt (p := p) it).2 X W x y B.gd B.tk h2) (tpg B h1) (iu X W z B h3) ((gIt (p := p) (T := T) (k := k) it).1 _ _ _ _ h2 X.env)) fun D σ H ⟨F, e, S, q⟩ => ?_
  generalize hf : (fun (d : Z.D) (e2 : Env) => (match bindTg t d e2 with
    | some e3 => xss T n.gv u e3
    | none => .no : Fl)) = f
  have q0 : OutS n X.K X.mg p W D (owns σ e) F H ((evi T n.gv it e).fl fun items e1 => forL f items e1) := by rw [← hf]; exact q
  refine ⟨F, e, S, (OutS.fl q0).mono fun F1 H1 e1 items hh J hJ => ?_⟩
  obtain ⟨s1, S1, q1⟩ := hh
  have q2 := OutS.from s1 q1
  refine ⟨fun i m σ' H' => m = items.length - i ∧ i ≤ items.length ∧ ∃ F2 e2, (∀ b o, F1 b = some o → F2 b = some o) ∧ Stt n X.K X.mg p F2 σ' H' e2 ∧ OutS n X.K X.mg p W D (owns σ' e2) F2 H' (forL f (items.drop i) e2),
    ⟨items.length, rfl, Nat.zero_le _, F1, e1, fun _ _ h => h, S1, by rw [List.drop_zero]; exact q2⟩, ?_⟩
  rintro i m σ' H' ⟨rfl, hi, F2, e2, up, S2, q3⟩
  have sub2 : ∀ b o, F1 b = some o → H' b = some o := fun b o h => S2.sub b o (up b o h)
  by_cases hlt : i < items.length
  case neg =>
    have hi2 : i = items.length := by omega
    subst hi2
    rw [List.drop_length] at q3
    exact .inl ⟨hJ.stop _ H' sub2 (Nat.le_refl _), OutS.here S2 q3⟩
  refine .inr ⟨hJ.go i H' sub2 hlt, ?_⟩
  rw [List.drop_eq_getElem_cons hlt] at q3
  have q4 := OutS.seq (show OutS n X.K X.mg p W D (owns σ' e2) F2 H' ((f items[i] e2).then (forL f (items.drop (i + 1)))) from q3)
  refine ⟨fun σ3 H3 => ∃ F3 e3, (∀ b o, F2 b = some o → F3 b = some o) ∧ Stt n X.K X.mg p F3 σ3 H3 e3 ∧ OutS n X.K X.mg p W D (owns σ3 e3) F3 H3 (forL f (items.drop (i + 1)) e3), fun σ3 H3 ⟨F3, e3, u3, S3, q5⟩ => ?_, fun v H3 hy => ?_⟩
  · exact ⟨items.length - (i + 1), by omega, rfl, hlt, F3, e3, fun b o h => u3 b o (up b o h), S3, q5⟩
  obtain ⟨F3, s3, S3, rv⟩ := yld_stt S2 hJ up hy (List.getElem?_eq_getElem hlt)
  have q5 := OutS.from s3 q4
  rw [← hf] at q5
  cases hb : bindTg t items[i] e2 with
  | none =>
    have q6 : OutS n X.K X.mg p W _ _ _ _ (match bindTg t items[i] e2 with
      | some e3 => xss T n.gv u e3
      | none => .no) := q5
    rw [hb] at q6
    exact q6.elim
  | some e3 =>
    have q6 : OutS n X.K X.mg p W _ _ _ _ (match bindTg t items[i] e2 with
      | some e3 => xss T n.gv u e3
      | none => .no) := q5
    rw [hb] at q6
    refine gOf_ok t S3 rv hb fun σ4 S4 o w => ⟨F3, e3, S4, ?_⟩
    have q7 := OutS.from (F1 := F3) (H1 := H3) (P1 := owns σ4 e3) ⟨fun _ _ h => h, fun b o h => .inl ⟨o, h⟩, fun _ _ h _ => h, fun b hb => .inl (o b hb)⟩ q6
    refine q7.mono (fun σ5 H5 ⟨F5, e5, u5, S5, q8⟩ => ?_) fun _ _ h => h
    exact ⟨F5, e5, u5, S5, by rw [hf] at q8; exact q8⟩
theorem s_whl {u : Ss} (B : Bd n T k X W) (iu : GSs n p T k u) (h : isS n X.N (.whl c u) X.env.scope st = true) : PS X st (tS n X.K X.mg p T W (.whl c u)) := by
  cases st <;> first | (exact absurd h Bool.false_ne_true) | skip
  rename_i x y w ps
  cases w <;> first | (exact absurd h Bool.false_ne_true) | skip
  obtain ⟨h1, h2⟩ := and1 (show (isE n X.N c X.env.scope x && isSs n X.N u X.env.scope y) = true from h)
  refine weakS (ps_while B.own (gE (p := p) c X W x B.gd B.tk h1).t (iu X W y B h2)) fun D σ H ⟨F, e, S, q⟩ => ?_
  have q0 : OutS n X.K X.mg p W D (owns σ e) F H (whlL (fun e => truth (data (ev T n.gv c e))) (fun e => xss T n.gv u e) FUEL e) := q
  refine ⟨fun m σ' H' => ∃ F2 e2, Stt n X.K X.mg p F2 σ' H' e2 ∧ OutS n X.K X.mg p W D (owns σ' e2) F2 H' (whlL (fun e => truth (data (ev T n.gv c e))) (fun e => xss T n.gv u e) m e2), ⟨FUEL, F, e, S, q0⟩, ?_⟩
  rintro m σ' H' ⟨F2, e2, S2, q1⟩
  cases m with
  | zero => exact q1.elim
  | succ m =>
    refine ⟨F2, e2, S2, (OutS.fl (show OutS n X.K X.mg p W D (owns σ' e2) F2 H' ((truth (data (ev T n.gv c e2))).fl fun k e1 => if k then (xss T n.gv u e1).then (whlL (fun e => truth (data (ev T n.gv c e))) (fun e => xss T n.gv u e) m) else .nx e1) from q1)).mono fun F3 H3 e3 kk ⟨s3, S3, q3⟩ => ?_⟩
    cases kk with
    | true =>
      rw [if_pos rfl] at q3 ⊢
      refine ⟨fun σ4 H4 => ∃ F4 e4, Stt n X.K X.mg p F4 σ4 H4 e4 ∧ OutS n X.K X.mg p W D (owns σ4 e4) F4 H4 (whlL (fun e => truth (data (ev T n.gv c e))) (fun e => xss T n.gv u e) m e4), fun σ4 H4 hh => ⟨m, Nat.lt_succ_self m, hh⟩, F3, e3, S3, ?_⟩
      exact (OutS.seq (OutS.from s3 q3)).mono (fun σ5 H5 ⟨F5, e5, u5, S5, q5⟩ => ⟨F5, e5, S5, q5⟩) fun _ _ h => h
    | false =>
      rw [if_neg (by decide)] at q3 ⊢
      exact OutS.here S3 (OutS.from s3 q3)
theorem s_ret (B : Bd n T k X W) (h : isS n X.N (.ret a) X.env.scope st = true) : PS X st (tS n X.K X.mg p T W (.ret a)) := by
  cases st <;> first | (exact absurd h Bool.false_ne_true) | (cases a <;> exact absurd h Bool.false_ne_true) | skip
  rename_i v ps
  cases v with
  | some v =>
    have h' : isE n X.N a X.env.scope v = true := by cases a <;> first | exact h | (rename_i d; cases d <;> exact h)
    refine weakS (ps_ret (gE (p := p) a X W v B.gd B.tk h').e) fun D σ H ⟨F, e, S, q⟩ => ?_
    exact ⟨F, e, S, (OutS.fl (show OutS n X.K X.mg p W D (owns σ e) F H ((ev T n.gv a e).fl fun c e1 => .rt c e1) from q)).mono fun F1 H1 e1 c ⟨s1, S1, q1⟩ v hv => q1 σ F1 H1 v s1 S1 hv⟩
  | none =>
    cases a <;> first | (exact absurd h Bool.false_ne_true) | skip
    rename_i d
    cases d <;> first | (exact absurd h Bool.false_ne_true) | skip
    refine weakS ps_retN fun D σ H ⟨F, e, S, q⟩ => ?_
    have q0 : OutS n X.K X.mg p W D (owns σ e) F H (.rt (.dat .non) e) := q
    exact q0 σ F H .non Step.refl S .non
theorem s_rse {xi : Nat} (B : Bd n T k X W) (h : isS n X.N (.rse xi a) X.env.scope st = true) : PS X st (tS n X.K X.mg p T W (.rse xi a)) := by
  cases st <;> first | (exact absurd h Bool.false_ne_true) | skip
  rename_i v cs ps
  cases v <;> first | (exact absurd h Bool.false_ne_true) | skip
  rename_i v
  cases v <;> first | (exact absurd h Bool.false_ne_true) | skip
  rename_i f xs kw cp
  cases f <;> first | (exact absurd h Bool.false_ne_true) | skip
  rcases xs with _ | ⟨v, _ | _⟩ <;> first | (exact absurd h Bool.false_ne_true) | skip
  rcases kw with _ | _ <;> first | (exact absurd h Bool.false_ne_true) | skip
  cases cs <;> first | (exact absurd h Bool.false_ne_true) | skip
  rename_i y q1
  obtain ⟨h123, h4⟩ := and1 (show (decide (n.nx xi = y) && n.px xi && okG X.env.scope y && isE n X.N a X.env.scope v) = true from h)
  obtain ⟨h12, h3⟩ := and1 h123
  obtain ⟨h1, h2⟩ := and1 h12
  obtain rfl := of_decide_eq_true h1
  obtain ⟨a1, a2, a3⟩ := gl_of h3
  obtain ⟨C, c1, c2, c3, c4⟩ := B.exc xi h2
  refine weakS (ps_raise B.gd.calm B.tk (SkE.pmk_own1 PySem.F.excBase_ValueError c2 c1 c3 c4 a1 (gE (p := p) a X W v B.gd B.tk h4).d (good_star (isE_good a _ v h4) [] X.env) a2)) fun D σ H ⟨F, e, S, q⟩ => ?_
  exact ⟨F, e, S, (OutS.fl (show OutS n X.K X.mg p W D (owns σ e) F H ((data (ev T n.gv a e)).fl fun _ e1 => .ex xi e1) from q)).mono fun F1 H1 e1 d ⟨s1, S1, q1⟩ v hv => q1.2 σ F1 H1 s1 S1 C c1⟩
theorem s_try {xi : Nat} {u hd : Ss} (B : Bd n T k X W) (iu : GSs n p T k u) (h : isS n X.N (.try_ u xi hd) X.env.scope st = true) : PS X st (tS n X.K X.mg p T W (.try_ u xi hd)) := by
  cases st <;> first | (exact absurd h Bool.false_ne_true) | skip
  rename_i y hs orl fin ps
  rcases hs with _ | ⟨⟨ty, nm, su, hp⟩, hs⟩ <;> first | (exact absurd h Bool.false_ne_true) | skip
  cases ty <;> first | (exact absurd h Bool.false_ne_true) | skip
  rename_i ty
  cases ty <;> first | (exact absurd h Bool.false_ne_true) | skip
  cases nm <;> first | (exact absurd h Bool.false_ne_true) | skip
  rcases hs with _ | _ <;> first | (exact absurd h Bool.false_ne_true) | skip
  · cases orl <;> first | (exact absurd h Bool.false_ne_true) | skip
    cases fin <;> first | (exact absurd h Bool.false_ne_true) | skip
    rename_i z np
    obtain ⟨h1234, h5⟩ := and1 (show (isSs n X.N u X.env.scope y && decide (n.nx xi = z) && n.px xi && okG X.env.scope z && isH hd su) = true from h)
    obtain ⟨h123, h4⟩ := and1 h1234
    obtain ⟨h12, h3⟩ := and1 h123
    obtain ⟨h1, h2⟩ := and1 h12
    obtain rfl := of_decide_eq_true h2
    obtain ⟨a1, a2, a3⟩ := gl_of h4
    obtain ⟨C, c1, c2, c3, c4⟩ := B.exc xi h3
    -- the suite
    rcases hd with _ | ⟨hs1, hs2⟩
    · exact absurd h5 Bool.false_ne_true
    cases hs1 <;> first | (exact absurd h5 Bool.false_ne_true) | skip
    rename_i ha
    cases ha <;> first | (exact absurd h5 Bool.false_ne_true) | skip
    rename_i d
    cases hs2 <;> first | (exact absurd h5 Bool.false_ne_true) | skip
    rcases su with _ | ⟨s1, su⟩ <;> first | (exact absurd h5 Bool.false_ne_true) | skip
    cases s1 <;> first | (exact absurd h5 Bool.false_ne_true) | skip
    rename_i v rp
    cases v <;> first | (exact absurd h5 Bool.false_ne_true) | skip
    rename_i v
    cases v <;> first | (exact absurd h5 Bool.false_ne_true) | skip
    rename_i cc j cp
    rcases su with _ | _ <;> first | (exact absurd h5 Bool.false_ne_true) | skip
    · have h5 : isLit d cc = true := h5
      refine weakS (ps_try_only (tb := fun W' => tSs n X.K X.mg p T W' u) (ts := fun _ _ _ => tRet (tE n X.K X.mg p T W0 (.lit d))) (c := .ref C) (Wout := W) B.stk B.fr ⟨a1, a2, .inl c1⟩ B.tk
        (fun W' pn xe tk own => iu (X.tr pn xe) W' y (B.tr tk own) h1) (fun a oe cls dd pn _ _ => pss_one (ps_ret (e_lit (X := X.suite a ((a, oe) :: pn)) h5)))) fun D σ H ⟨F, e, S, q⟩ => ⟨F, e, S, ?_⟩
      have q0 : OutS n X.K X.mg p W D (owns σ e) F H (match xss T n.gv u e with
        | .ex y e1 => if y = xi then .rt (.dat d) e1 else .ex y e1
        | r => r) := q
      cases hr : xss T n.gv u e with
      | no => rw [hr] at q0; exact q0.elim
      | nx e1 => rw [hr] at q0; exact q0
      | rt c e1 => rw [hr] at q0; exact q0
      | ex y e1 =>
        rw [hr] at q0
        have q1 : OutS n X.K X.mg p W D (owns σ e) F H (if y = xi then .rt (.dat d) e1 else .ex y e1) := q0
        by_cases hy : y = xi
        · subst hy
          rw [if_pos rfl] at q1
          refine ⟨h3, fun σ2 F2 H2 s2 S2 Cy hC => ⟨true, ?_, fun _ a ha => ?_, fun z => nomatch z⟩⟩
          · have := B.exd y y h3 h3 Cy C hC c1
            simpa using this
          · exact ⟨F2, e1, S2, fun F3 H3 s3 S3 v hv => q1 σ2 F3 H3 v (s2.trans s3) S3 hv⟩
        · rw [if_neg hy] at q1
          refine ⟨q1.1, fun σ2 F2 H2 s2 S2 Cy hC => ⟨false, ?_, (fun z => nomatch z), fun _ => q1.2 σ2 F2 H2 s2 S2 Cy hC⟩⟩
          have := B.exd y xi q1.1 h3 Cy C hC c1
          simpa [hy] using this
theorem s_pas (B : Bd n T k X W) (h : isS n X.N .pas X.env.scope st = true) : PS X st (tS n X.K X.mg p T W .pas) := by
  cases st <;> first | (exact absurd h Bool.false_ne_true) | skip
  exact weakS ps_pass fun D σ H ⟨F, e, S, q⟩ => OutS.here S (show OutS n X.K X.mg p W D (owns σ e) F H (.nx e) from q)
mutual
theorem gS : ∀ c : S, GS n p T k c
  | .set i a => fun X W st B h => s_set B h
  | .asg t a => fun X W st B h => s_asg B h
  | .par vs es => fun X W st B h => absurd h Bool.false_ne_true
  | .tpar ts es => fun X W st B h => s_tpar B h
  | .sti i kx a => fun X W st B h => s_sti B h
  | .st2 i kx kx' a b => fun X W st B h => s_st2 B h
  | .aug i o a => fun X W st B h => s_aug B h
  | .apd i a => fun X W st B h => s_apd B h
  | .xtd i a => fun X W st B h => s_xtd B h
  | .rvs i => fun X W st B h => s_rvs B h
  | .exp a => fun X W st B h => s_exp B h
  | .iff c a b => fun X W st B h => s_iff B (gSs a) (gSs b) h
  | .for_ t it b => fun X W st B h => s_for B (gSs b) h
  | .whl c b => fun X W st B h => s_whl B (gSs b) h
  | .ret a => fun X W st B h => s_ret B h
  | .rse x a => fun X W st B h => s_rse B h
  | .try_ b x hd => fun X W st B h => s_try B (gSs b) h
  | .pas => fun X W st B h => s_pas B h
theorem gSs : ∀ c : Ss, GSs n p T k c
  | .nil => fun X W sts B h => by
    cases sts <;> first | (exact absurd h Bool.false_ne_true) | skip
    exact weakSs pss_nil fun D σ H ⟨F, e, S, q⟩ => OutS.here S (show OutS n X.K X.mg p W D (owns σ e) F H (.nx e) from q)
  | .cons s ss => fun X W sts B h => by
    cases sts <;> first | (exact absurd h Bool.false_ne_true) | skip
    rename_i st sts
    obtain ⟨h1, h2⟩ := and1 (show (isS n X.N s X.env.scope st && isSs n X.N ss X.env.scope sts) = true from h)
    refine weakSs (pss_cons (gS s X W st B h1) (gSs ss X W sts B h2)) fun D σ H ⟨F, e, S, q⟩ => ⟨F, e, S, ?_⟩
    exact (OutS.seq (show OutS n X.K X.mg p W D (owns σ e) F H ((xs T n.gv s e).then fun e1 => xss T n.gv ss e1) from q)).mono (fun σ5 H5 ⟨F5, e5, u5, S5, q5⟩ => ⟨F5, e5, S5, q5⟩) fun _ _ h => h
end
end
end Z

/-! Z8: a def keeps what the evaluator says; all defs of a text. -/
namespace Z
open PySem PySem.Spec L2
def fnScB (N ps : List Str) (sc : Scope) : Bool :=
  (match sc.kind with | .function => true | _ => false) && !sc.isCoroutine && !sc.isGenerator && decide N.Nodup && decide (N.take ps.length = ps) &&
    (ps.all fun x => decide (sc.names.lookup x = some .local) || decide (sc.names.lookup x = some .cell)) && (sc.names.all fun y => !(y.2 == .free))
theorem fnScB_ok {N ps : List Str} {sc : Scope} (h : fnScB N ps sc = true) : FnScope N ps sc := by
  unfold fnScB at h
  simp only [Bool.and_eq_true, List.all_eq_true, decide_eq_true_eq, Bool.or_eq_true, Bool.not_eq_true'] at h
  obtain ⟨⟨⟨⟨⟨⟨h1, h2⟩, h3⟩, h4⟩, h5⟩, h6⟩, h7⟩ := h
  refine ⟨?_, h2, h3, h4, h5, h6, fun y hy e => ?_⟩
  · split at h1
    · assumption
    · cases h1
  · have := h7 y hy
    rw [e] at this
    cases this
def defB (n : Nm) (N : List Str) (d : Fd) (sc : Scope) (ps : List Str) (body : List Stmt) : Bool :=
  fnScB N ps sc && decide (N.length = d.ns) && decide (ps.length = d.np + (if d.io then 1 else 0)) && isSs n N d.body sc body
/-- the module's facts, by a table T of the defs at level k -/
structure Md (n : Nm) (T : Nat → Fn) (k : Nat) (P : Program) (w : World) (K : PySem.W.Frag) (mg : Str → Option Value) (base : Heap) : Prop where
  blt : ∀ x ∈ bltNames, mg x = none
  glv : ∀ i d, n.gv i = some d → ∃ u v, mg (n.ng i) = some u ∧ RelV v u ∧ ∀ F, Rp n K mg F v d
  fns : ∀ f, n.pr f = true → ∃ a fd ps, mg (n.nf f) = some (.ref a) ∧ PySem.W.keepIn K (.ref a) = true ∧ Binds K fd ps [] ∧ FnOk P w K mg base (L2.CX P w) k a fd ps (spF n K mg (T f))
  exc : ∀ x, n.px x = true → ∃ C, mg (n.nx x) = some (.ref C) ∧ PySem.W.excIn K C He.veBase "ValueError.__new__" = true ∧ PySem.W.keepIn K (.ref C) = true ∧
    PySem.W.subIn K (.ref C) (.type "BaseException") = some true ∧ PySem.W.typeIn K (.ref C) = some (.type "type")
  exd : ∀ x y, n.px x = true → n.px y = true → ∀ C D, mg (n.nx x) = some (.ref C) → mg (n.nx y) = some (.ref D) → PySem.W.exmOne K (.ref C) (.ref D) = some (decide (x = y))
section
variable {n : Nm} {K : PySem.W.Frag} {mg : Str → Option Value} {T : Nat → Fn} {k : Nat} {P : Program} {w : World} {base : Heap}
theorem Step.wid {F H F' H' : Hp} {P P0 P' : Addr → Prop} (s : Step F H P F' H' P') (h : ∀ b, P b → P0 b) : Step F H P0 F' H' P' :=
  ⟨s.ext, fun b o z => (s.new b o z).imp id (Or.imp id (h b)), fun b o z hb => s.keep b o z fun y => hb (h b y), fun b z => (s.own b z).imp (h b) id⟩
theorem ent_get {ds : List Z.D} {m i : Nat} {c : Cl} (h : (ds.map Cl.dat ++ List.replicate m Cl.no)[i]? = some c) (hc : c ≠ .no) : ∃ d, ds[i]? = some d ∧ c = .dat d := by
  by_cases hi : i < ds.length
  · rw [List.getElem?_append_left (by rw [List.length_map]; exact hi), List.getElem?_map, List.getElem?_eq_getElem hi] at h
    exact ⟨ds[i], List.getElem?_eq_getElem hi, (Option.some.inj h).symm⟩
  · rw [List.getElem?_append_right (by rw [List.length_map]; omega)] at h
    have := List.mem_of_getElem? h
    exact absurd (List.mem_replicate.mp this).2 hc
theorem st_get {vs : List V} {m i : Nat} {v : V} (h : vs[i]? = some v) : (vs.map some ++ List.replicate m (none : Option V))[i]? = some (some v) := by
  have hi : i < vs.length := (List.getElem?_eq_some_iff.mp h).1
  rw [List.getElem?_append_left (by rw [List.length_map]; exact hi), List.getElem?_map, h]
  rfl
/-- the states at a def's entry -/
theorem ent_none {F H : Hp} {vs : List V} {ds : List Z.D} {N : List Str} {d : Fd} {p : Addr} (hN : N.length = d.ns) (hio : d.io = false) (hl : ds.length = d.np) (hns : d.np ≤ d.ns) (sub : ∀ b o, F b = some o → H b = some o) (rs : Rps n K mg F vs ds) :
    Stt n K mg p F (L2.start N vs) H (entryE d none ds) ∧ ∀ b, ¬ owns (L2.start N vs) (entryE d none ds) b := by
  have he : entryE d none ds = ds.map Cl.dat ++ List.replicate (d.ns - d.np) .no := by unfold entryE; rw [hio]; rfl
  have no : ∀ (i : Nat) k es, (entryE d none ds)[i]? = some (Cl.own k es) → False := fun i k es h => by
    rw [he] at h
    obtain ⟨x, _, z⟩ := ent_get h (fun z => nomatch z)
    cases z
  refine ⟨⟨sub, ?_, fun i x h => ?_, fun i k es h => (no i k es h).elim, fun i j k l es es' a h => (no i k es h).elim⟩, fun b ⟨i, k, es, h, _⟩ => no i k es h⟩
  · unfold L2.start
    rw [he, List.length_append, List.length_append, List.length_map, List.length_map, List.length_replicate, List.length_replicate, rs.length, hN, hl]
  · rw [he] at h
    obtain ⟨y, h1, z⟩ := ent_get h (fun z => nomatch z)
    cases z
    obtain ⟨v, h2, h3⟩ := rs.get h1
    exact ⟨v, st_get h2, h3⟩
theorem ent_some {F H : Hp} {vs ws : List V} {ds q : List Z.D} {N : List Str} {d : Fd} {p : Addr} (hN : N.length = d.ns) (hio : d.io = true) (hl : ds.length = d.np) (hns : d.np + 1 ≤ d.ns) (sub : ∀ b o, F b = some o → H b = some o) (rs : Rps n K mg F vs ds)
    (h1 : H p = some (.lst ws)) (h2 : F p = none) (h3 : ws.length ≤ sizeLine) (h4 : Rps n K mg F ws q) :
    Stt n K mg p F (L2.start N (.ref p :: vs)) H (entryE d (some q) ds) ∧ ∀ b, owns (L2.start N (.ref p :: vs)) (entryE d (some q) ds) b → b = p := by
  have he : entryE d (some q) ds = .own true q :: (ds.map Cl.dat ++ List.replicate (d.ns - (d.np + 1)) .no) := by unfold entryE; rw [hio]; rfl
  have hs : L2.start N (.ref p :: vs) = some (.ref p) :: (vs.map some ++ List.replicate (N.length - (vs.length + 1)) none) := rfl
  have no : ∀ (i : Nat) k es, (entryE d (some q) ds)[i]? = some (Cl.own k es) → i = 0 ∧ k = true ∧ es = q := fun i k es h => by
    rw [he] at h
    cases i with
    | zero =>
      have h' : some (Cl.own true q) = some (Cl.own k es) := h
      cases h'
      exact ⟨rfl, rfl, rfl⟩
    | succ i =>
      rw [List.getElem?_cons_succ] at h
      obtain ⟨x, _, z⟩ := ent_get h (fun z => nomatch z)
      cases z
  refine ⟨⟨sub, ?_, fun i x h => ?_, fun i k es h => ?_, fun i j k l es es' a y1 y2 _ _ => by rw [(no i _ _ y1).1, (no j _ _ y2).1]⟩, fun b ⟨i, k, es, h, g⟩ => ?_⟩
  · rw [hs, he, List.length_cons, List.length_cons, List.length_append, List.length_append, List.length_map, List.length_map, List.length_replicate, List.length_replicate, rs.length, hN, hl]
  · rw [he] at h
    cases i with
    | zero =>
      have h' : some (Cl.own true q) = some (Cl.dat x) := h
      cases h'
    | succ i =>
      rw [List.getElem?_cons_succ] at h
      obtain ⟨y, g1, z⟩ := ent_get h (fun z => nomatch z)
      cases z
      obtain ⟨v, g2, g3⟩ := rs.get g1
      exact ⟨v, by rw [hs, List.getElem?_cons_succ]; exact st_get g2, g3⟩
  · obtain ⟨rfl, rfl, rfl⟩ := no i k es h
    exact ⟨p, ws, rfl, h1, h2, h3, h4, fun _ => rfl⟩
  · obtain ⟨rfl, rfl, rfl⟩ := no i k es h
    rw [hs] at g
    have g' : some (some (V.ref p)) = some (some (V.ref b)) := g
    cases g'
    rfl
/-- behind the body -/
theorem fin_ok {F H : Hp} {pa : Option Addr} {p : Addr} {io : Bool} {P0 : Addr → Prop} {Q : VK} {E : XK} {r : Fl} (hpa : pa = if io then some p else none) (hP : ∀ b, P0 b → pa = some b) (h : spK n K mg F H pa Q E (finF io r)) :
    OutS n K mg p (fun cls d _ H => E cls d H) { nx := fun _ H' => Q .non H', rt := Q } P0 F H r := by
  have pool : ∀ {e' : Env} {q : List Z.D} {σ' : L2.St} {F' H' : Hp}, poolOf io e' = some q → Stt n K mg p F' σ' H' e' → PoolIs n K mg F' H' pa q ∧ ∀ b, pa = some b → owns σ' e' b := fun {e' q σ' F' H'} hq S => by
    cases io with
    | false =>
      have e0 : pa = none := hpa
      subst e0
      exact ⟨(fun a z => nomatch z), (fun b z => nomatch z)⟩
    | true =>
      have hq' : (match e'.getD 0 .no with
        | .own true q => some q
        | _ => none) = some q := hq
      split at hq'
      · rename_i q' hg
        cases hq'
        have hi := getD_get hg (fun z => nomatch z)
        obtain ⟨a, ws, g1, g2, g3, g4, g5, g6⟩ := S.own 0 true q hi
        have := g6 rfl
        subst this
        have e0 : pa = some a := hpa
        subst e0
        refine ⟨fun b hb => ?_, fun b hb => ?_⟩
        · cases hb
          exact ⟨ws, g2, g3, g4, g5⟩
        · cases hb
          exact ⟨0, true, q, hi, g1⟩
      · cases hq'
  have stp : ∀ {e' : Env} {q : List Z.D} {σ' : L2.St} {F' H' : Hp}, poolOf io e' = some q → Stt n K mg p F' σ' H' e' → Step F H P0 F' H' (owns σ' e') → Step F H (fun b => pa = some b) F' H' (fun b => pa = some b) := fun {e' q σ' F' H'} hq S s => (s.wid hP).less (pool hq S).2
  cases r with
  | no => exact h
  | nx e' =>
    have h' : spK n K mg F H pa Q E (match poolOf io e' with
      | some q => .ok (.dat .non) q
      | none => .no) := h
    cases hq : poolOf io e' with
    | none => rw [hq] at h'; exact h'.elim
    | some q =>
      rw [hq] at h'
      exact fun σ' F' H' s S => h' F' H' .non (stp hq S s) S.sub (pool hq S).1 .non
  | rt c e' =>
    have h' : spK n K mg F H pa Q E (match poolOf io e' with
      | some q => .ok c q
      | none => .no) := h
    cases hq : poolOf io e' with
    | none => rw [hq] at h'; exact h'.elim
    | some q =>
      rw [hq] at h'
      refine fun σ' F' H' v s S hv => h' F' H' v (stp hq S s) S.sub (pool hq S).1 ?_
      cases c with
      | no => exact hv
      | dat d => exact hv
      | own kk es =>
        obtain ⟨g1, a, us, g2, g3, g4, g5, g6, g7, g8⟩ := hv
        have na : pa ≠ some a := fun z => g7 ((pool hq S).2 a z)
        exact ⟨g1, a, us, g2, g3, g4, g5, g6, na, g8.elim id fun z => absurd (hP a z) na⟩
  | ex x e' =>
    have h' : spK n K mg F H pa Q E (match poolOf io e' with
      | some q => .ex x q
      | none => .no) := h
    cases hq : poolOf io e' with
    | none => rw [hq] at h'; exact h'.elim
    | some q =>
      rw [hq] at h'
      exact ⟨h'.1, fun σ' F' H' s S C hC => h'.2 F' H' (stp hq S s) S.sub (pool hq S).1 C hC⟩
theorem runFd_no {d : Fd} {o : Option (List Z.D)} {ds : List Z.D} (h : ¬ (o.isSome = d.io ∧ ds.length = d.np)) : runFd T n.gv d o ds = .no := if_neg h
theorem spF_len {d : Fd} {vs : List V} {H : Hp} {Q : VK} {E : XK} (h : spF n K mg (runFd T n.gv d) vs H Q E) : vs.length = d.np + (if d.io then 1 else 0) := by
  obtain ⟨F, dv, ds, _, rs, ⟨rfl, h⟩ | ⟨a, ws, q, rfl, _, _, _, _, h⟩⟩ := h
  · by_cases hc : (none : Option (List Z.D)).isSome = d.io ∧ ds.length = d.np
    · rw [rs.length, hc.2, ← hc.1]; rfl
    · rw [runFd_no hc] at h; exact h.elim
  · by_cases hc : (some q : Option (List Z.D)).isSome = d.io ∧ ds.length = d.np
    · rw [List.length_cons, rs.length, hc.2, ← hc.1]; rfl
    · rw [runFd_no hc] at h; exact h.elim
/-- THE RULE for a def -/
theorem fd_ok (M : Md n T k P w K mg base) {x qual : Str} {params : Arguments} {body : List Stmt} {scope : Scope} {f : Addr} {fd : FuncData} {N ps : List Str} {d : Fd} (F : FunD K x qual params body scope [] [] f fd) (hd : defB n N d scope ps body = true) :
    FnOk P w K mg base (L2.CX P w) (k + 1) f fd ps (spF n K mg (runFd T n.gv d)) := by
  obtain ⟨h123, h4⟩ := and1 (show (fnScB N ps scope && decide (N.length = d.ns) && decide (ps.length = d.np + (if d.io then 1 else 0)) && isSs n N d.body scope body) = true from hd)
  obtain ⟨h12, h3⟩ := and1 h123
  obtain ⟨h1, h2⟩ := and1 h12
  have sc := fnScB_ok h1
  have hN := of_decide_eq_true h2
  have hp := of_decide_eq_true h3
  have hle : ps.length ≤ N.length := by have := congrArg List.length sc.pre; rw [List.length_take] at this; omega
  refine F.ok sc (fun vs H Q E h => by rw [spF_len h, hp]) fun cdv A outer s H vs Q E hr hsp => ?_
  have bd : ∀ E, Bd n T k (cxOf (L2.CX P w) P w K mg base N qual scope f cdv A outer s H E) (fun cls d _ H => E cls d H) := fun E =>
    ⟨⟨rfl, sc.nd, hr, M.blt, M.glv, M.fns⟩, takes_of rfl rfl rfl (E₁ := fun e' s'' => L2.CX P w outer H s E e' s'') rfl, fun _ => rfl, sc.kind, passes_of (K := fun e s'' => L2.CX P w outer H s E e s'') (E₁ := fun e' s'' => L2.CX P w outer H s E e' s'') rfl, rfl, rfl,
      fun x hx => let ⟨C, c1, c2, c3, c4, c5⟩ := M.exc x hx; ⟨C, c1, c2, c3, raises_own c4 c5⟩, M.exd⟩
  obtain ⟨F0, dv, ds, sub, rs, hh⟩ := hsp
  rcases hh with ⟨rfl, hk⟩ | ⟨a, ws, q, rfl, g1, g2, g3, g4, hk⟩
  · by_cases hc : (none : Option (List Z.D)).isSome = d.io ∧ ds.length = d.np
    case neg => rw [runFd_no hc] at hk; exact hk.elim
    have hio : d.io = false := hc.1.symm
    obtain ⟨S, no⟩ := ent_none (p := 0) (d := d) hN hio hc.2 (by rw [hio] at hp; simp at hp; omega) sub rs
    refine ⟨_, gSs (p := 0) d.body _ _ body (bd E) h4, F0, _, S, fin_ok (pa := none) (io := d.io) (by rw [hio]; rfl) (fun b hb => absurd hb (no b)) ?_⟩
    have : runFd T n.gv d none ds = finF d.io (xss T n.gv d.body (entryE d none ds)) := if_pos hc
    rw [← this]
    exact hk
  · by_cases hc : (some q : Option (List Z.D)).isSome = d.io ∧ ds.length = d.np
    case neg => rw [runFd_no hc] at hk; exact hk.elim
    have hio : d.io = true := hc.1.symm
    obtain ⟨S, no⟩ := ent_some (p := a) (d := d) hN hio hc.2 (by rw [hio] at hp; simp at hp; omega) sub rs g1 g2 g3 g4
    refine ⟨_, gSs (p := a) d.body _ _ body (bd E) h4, F0, _, S, fin_ok (pa := some a) (io := d.io) (by rw [hio]; rfl) (fun b hb => by rw [no b hb]) ?_⟩
    have : runFd T n.gv d (some q) ds = finF d.io (xss T n.gv d.body (entryE d (some q) ds)) := if_pos hc
    rw [← this]
    exact hk
/-- a def that is never called -/
theorem no_ok {f : Addr} {fd : FuncData} {ps : List Str} : FnOk P w K mg base (L2.CX P w) k f fd ps (spF n K mg fun _ _ => .no) := by
  have no : ∀ vs H Q E, ¬ spF n K mg (fun _ _ => .no) vs H Q E := fun vs H Q E h => by
    obtain ⟨F, dv, ds, _, rs, ⟨_, h⟩ | ⟨a, ws, q, _, _, _, _, _, h⟩⟩ := h
    · exact h
    · exact h
  exact ⟨fun vs H Q E h => (no vs H Q E h).elim, fun A outer s H args us vs Q E _ _ _ _ h => (no vs H Q E h).elim⟩
/-- what is known of a def of the text -/
inductive Kn (n : Nm) (P : Program) (w : World) (K : PySem.W.Frag) (mg : Str → Option Value) (base : Heap) (a : Addr) (fd : FuncData) (ps : List Str) : Option Pf → Prop
  | ast {x qual : Str} {params : Arguments} {body : List Stmt} {scope : Scope} {N : List Str} {d : Fd} : FunD K x qual params body scope [] [] a fd → defB n N d scope ps body = true → Kn n P w K mg base a fd ps (some (.ast d))
  | prim {g : Fn} : (∀ k, Md n (fun _ _ _ => .no) k P w K mg base → FnOk P w K mg base (L2.CX P w) (k + 1) a fd ps (spF n K mg g)) → Kn n P w K mg base a fd ps (some (.prim g))
theorem md_all {Pt : Nat → Option Pf} (blt : ∀ x ∈ bltNames, mg x = none) (glv : ∀ i d, n.gv i = some d → ∃ u v, mg (n.ng i) = some u ∧ RelV v u ∧ ∀ F, Rp n K mg F v d)
    (exc : ∀ x, n.px x = true → ∃ C, mg (n.nx x) = some (.ref C) ∧ PySem.W.excIn K C He.veBase "ValueError.__new__" = true ∧ PySem.W.keepIn K (.ref C) = true ∧
      PySem.W.subIn K (.ref C) (.type "BaseException") = some true ∧ PySem.W.typeIn K (.ref C) = some (.type "type"))
    (exd : ∀ x y, n.px x = true → n.px y = true → ∀ C D, mg (n.nx x) = some (.ref C) → mg (n.nx y) = some (.ref D) → PySem.W.exmOne K (.ref C) (.ref D) = some (decide (x = y)))
    (hf : ∀ f, n.pr f = true → ∃ a fd ps, mg (n.nf f) = some (.ref a) ∧ PySem.W.keepIn K (.ref a) = true ∧ Binds K fd ps [] ∧ Kn n P w K mg base a fd ps (Pt f)) : ∀ k, Md n (run Pt n.gv k) k P w K mg base
  | 0 => ⟨blt, glv, fun f h => let ⟨a, fd, ps, h1, h2, h3, _⟩ := hf f h; ⟨a, fd, ps, h1, h2, h3, no_ok⟩, exc, exd⟩
  | k + 1 => by
    refine ⟨blt, glv, fun f h => ?_, exc, exd⟩
    obtain ⟨a, fd, ps, h1, h2, h3, h4⟩ := hf f h
    refine ⟨a, fd, ps, h1, h2, h3, ?_⟩
    have M := md_all blt glv exc exd hf k
    show FnOk P w K mg base (L2.CX P w) (k + 1) a fd ps (spF n K mg (match Pt f with
      | some (.ast d) => runFd (run Pt n.gv k) n.gv d
      | some (.prim g) => g
      | none => fun _ _ => .no))
    generalize Pt f = o at h4
    cases h4 with
    | ast F hd => exact fd_ok M F hd
    | prim g => exact g k ⟨blt, glv, fun f h => let ⟨a, fd, ps, h1, h2, h3, _⟩ := hf f h; ⟨a, fd, ps, h1, h2, h3, no_ok⟩, exc, exd⟩
end
end Z

/-! Z9: a law's end. -/
namespace Z
open PySem PySem.Spec L2
def CXw (P : Program) : CXT := fun outer H s E u s' => ∃ w, L2.CX P w outer H s E u s'
theorem fn_wide {P : Program} {w : World} {K : PySem.W.Frag} {mg : Str → Option Value} {base : Heap} {k : Nat} {f : Addr} {fd : FuncData} {ps : List Str} {sp : Sp} (F : FnOk P w K mg base (L2.CX P w) k f fd ps sp) : FnOk P w K mg base (CXw P) k f fd ps sp :=
  ⟨F.len, fun A outer s H args us vs Q E hr he hb hv hs => codeAny_mono (F.run A outer s H args us vs Q E hr he hb hv hs) fun r s' hq => by
    cases r with
    | error e => exact ⟨w, hq⟩
    | ok fl => cases fl <;> exact hq⟩
theorem cx_none {P : Program} (H : Hp) (s : Shared) (e : Value) (s' : Shared) (h : CXw P [] H s (fun _ _ _ => False) e s') : False := by
  obtain ⟨w, a, B, H', cls, d, _, _, _, _, _, _, _, z⟩ := h
  exact z
theorem rps_ints {n : Nm} {K : PySem.W.Frag} {mg : Str → Option Value} {F : Hp} : ∀ ns : List Int, Rps n K mg F (ns.map V.int) (ns.map Z.D.int)
  | [] => .nil
  | i :: ns => .cons (.int i) (rps_ints ns)
theorem sp_law {n : Nm} {K : PySem.W.Frag} {mg : Str → Option Value} {g : Fn} (hrun : ∀ ns : List Int, ns.length ≤ 63 → ∃ q, g none [.lst (ns.map Z.D.int)] = .ok (.dat (.bl true)) q) (H : Hp) (a : Addr) (ns : List Int) (hl : ns.length ≤ 63) (hS : SqL K H a (ns.map V.int)) :
    spF n K mg g [.ref a] H (fun v _ => v = .bl true) fun _ _ _ => False := by
  obtain ⟨q, hq⟩ := hrun ns hl
  refine ⟨H, [.ref a], [.lst (ns.map Z.D.int)], fun _ _ h => h, .cons (.lst hS (by rw [List.length_map, sizeLine_eq]; omega) (rps_ints ns)) .nil, .inl ⟨rfl, ?_⟩⟩
  rw [hq]
  exact fun F' H' v _ _ _ hv => by cases hv; rfl
end Z

/-! Z10a: a dict of lists that is filled: found.setdefault(names[point], []).append(point). -/
namespace Z
open PySem PySem.Spec L2
/-- the place i put to its name k -/
def grpAdd (k i : Int) : List (Int × List Int) → List (Int × List Int)
  | [] => [(k, [i])]
  | (k', l) :: r => if k' = k then (k', l ++ [i]) :: r else (k', l) :: grpAdd k i r
/-- the places of each name, names in the order of their first places -/
def grpFrom : Int → List Int → List (Int × List Int) → List (Int × List Int)
  | _, [], gs => gs
  | i, k :: ks, gs => grpFrom (i + 1) ks (grpAdd k i gs)
/-- how they lie -/
inductive GrL (H : Hp) : List Addr → List (Key × V) → List (Int × List Int) → Prop
  | nil : GrL H [] [] []
  | cons {q : Addr} {qs : List Addr} {kvs : List (Key × V)} {gs : List (Int × List Int)} {k : Int} {l : List Int} : H q = some (.lst (l.map V.int)) → GrL H qs kvs gs → GrL H (q :: qs) ((.inl k, .ref q) :: kvs) ((k, l) :: gs)
theorem GrL.other {H H' : Hp} : ∀ {qs : List Addr} {kvs : List (Key × V)} {gs : List (Int × List Int)}, GrL H qs kvs gs → (∀ q ∈ qs, H' q = H q) → GrL H' qs kvs gs
  | _, _, _, .nil, _ => .nil
  | _, _, _, .cons h t, e => .cons ((e _ List.mem_cons_self).trans h) (t.other fun q hq => e q (List.mem_cons_of_mem _ hq))
theorem GrL.len {H : Hp} : ∀ {qs : List Addr} {kvs : List (Key × V)} {gs : List (Int × List Int)}, GrL H qs kvs gs → kvs.length = gs.length ∧ qs.length = gs.length
  | _, _, _, .nil => ⟨rfl, rfl⟩
  | _, _, _, .cons _ t => ⟨by rw [List.length_cons, List.length_cons, t.len.1], by rw [List.length_cons, List.length_cons, t.len.2]⟩
/-- a name that is there -/
theorem GrL.old {H : Hp} {k i : Int} {v : V} : ∀ {qs : List Addr} {kvs : List (Key × V)} {gs : List (Int × List Int)}, GrL H qs kvs gs → qs.Nodup → valV kvs (.inl k) = some v →
    ∃ (q : Addr) (l : List Int), v = .ref q ∧ q ∈ qs ∧ H q = some (.lst (l.map V.int)) ∧ GrL (upd H q (.lst (l.map V.int ++ [.int i]))) qs kvs (grpAdd k i gs)
  | _, _, _, .nil, _, h => by cases h
  | _, _, _, @GrL.cons _ q qs kvs gs k' l hq t, nd, h => by
    obtain ⟨nq, nd'⟩ := List.nodup_cons.mp nd
    by_cases hk : k' = k
    · subst hk
      rw [valV_pos rfl] at h
      cases h
      refine ⟨q, l, rfl, List.mem_cons_self, hq, ?_⟩
      unfold grpAdd
      rw [if_pos rfl]
      refine .cons (by rw [upd_same, List.map_append]; rfl) (t.other fun b hb => upd_ne fun e => nq (e ▸ hb))
    · rw [valV_neg (by simpa using hk)] at h
      obtain ⟨q', l', e, m, h1, h2⟩ := GrL.old (i := i) t nd' h
      refine ⟨q', l', e, List.mem_cons_of_mem _ m, h1, ?_⟩
      unfold grpAdd
      rw [if_neg hk]
      have ne : q ≠ q' := fun e => nq (by rw [e]; exact m)
      exact .cons (by rw [upd_ne ne]; exact hq) h2
/-- a new name -/
theorem GrL.fresh {H : Hp} {k i : Int} {q : Addr} : ∀ {qs : List Addr} {kvs : List (Key × V)} {gs : List (Int × List Int)}, GrL H qs kvs gs → q ∉ qs → valV kvs (.inl k) = none →
    GrL (upd H q (.lst [.int i])) (qs ++ [q]) (kvs ++ [(.inl k, .ref q)]) (grpAdd k i gs)
  | _, _, _, .nil, _, _ => .cons upd_same .nil
  | _, _, _, @GrL.cons _ p ps kvs gs k' l hp t, nq, h => by
    have hk : ¬ k' = k := fun e => by
      subst e
      rw [valV_pos rfl] at h
      cases h
    rw [valV_neg (by simpa using hk)] at h
    unfold grpAdd
    rw [if_neg hk]
    have nq' : q ≠ p ∧ q ∉ ps := by simpa [not_or] using nq
    exact .cons (by rw [upd_ne (Ne.symm nq'.1)]; exact hp) (GrL.fresh t nq'.2 h)
/-- the whole of it, over the heap H0 of its start -/
structure Gr (H0 H : Hp) (d : Addr) (gs : List (Int × List Int)) : Prop where
  ex : ∃ qs kvs, H d = some (.dK kvs) ∧ GrL H qs kvs gs ∧ (d :: qs).Nodup ∧ ∀ q ∈ d :: qs, H0 q = none
  keep : ∀ b o, H0 b = some o → H b = some o
end Z

/-! Z10b: one turn of the filling. -/
namespace Z
open PySem PySem.Spec L2
def rIxL (K : PySem.W.Frag) : R2 := fun x y H Q => ∃ a xs k v, x = .ref a ∧ y = .int k ∧ SqL K H a xs ∧ atI xs k = some v ∧ Q v H
def tPut (K : PySem.W.Frag) : TE := tBM K "list" rAppend (tDSetd (tVar 5) (tOp (rIxL K) (tVar 2) (tVar 6)) (tLst tNil)) (tCons (tVar 6) tNil)
def Few (m : Nat) (gs : List (Int × List Int)) : Prop := gs.length ≤ m ∧ ∀ g ∈ gs, g.2.length ≤ m
theorem few_add {k i : Int} : ∀ {gs : List (Int × List Int)} {m : Nat}, Few m gs → Few (m + 1) (grpAdd k i gs) := by
  intro gs m h
  have len : ∀ gs : List (Int × List Int), (grpAdd k i gs).length ≤ gs.length + 1 := fun gs => by
    induction gs with
    | nil => exact Nat.le_refl _
    | cons g gs ih =>
      obtain ⟨k', l⟩ := g
      unfold grpAdd
      split
      · exact Nat.le_succ _
      · rw [List.length_cons, List.length_cons]; omega
  have mem : ∀ gs : List (Int × List Int), (∀ g ∈ gs, g.2.length ≤ m) → ∀ g ∈ grpAdd k i gs, g.2.length ≤ m + 1 := fun gs => by
    induction gs with
    | nil =>
      intro _ g hg
      have : g = (k, [i]) := by simpa [grpAdd] using hg
      rw [this]
      simp
    | cons x gs ih =>
      obtain ⟨k', l⟩ := x
      intro h g hg
      unfold grpAdd at hg
      split at hg
      · rcases List.mem_cons.mp hg with rfl | hg
        · have := h (k', l) List.mem_cons_self
          simp only [List.length_append, List.length_singleton] at *
          omega
        · have := h g (List.mem_cons_of_mem _ hg)
          omega
      · rcases List.mem_cons.mp hg with rfl | hg
        · have := h (k', l) List.mem_cons_self
          simp only at *
          omega
        · exact ih (fun g hg => h g (List.mem_cons_of_mem _ hg)) g hg
  exact ⟨Nat.le_trans (len gs) (by have := h.1; omega), mem gs h.2⟩
theorem put_turn {K : PySem.W.Frag} {H0 H : Hp} {σ : L2.St} {d a : Addr} {i k : Int} {ns : List Int} {gs : List (Int × List Int)} {m : Nat} {Q : VK} (h5 : σ[5]? = some (some (.ref d))) (h2 : σ[2]? = some (some (.ref a))) (h6 : σ[6]? = some (some (.int i)))
    (hs : SqL K H0 a (ns.map V.int)) (hk : atI (ns.map V.int) i = some (.int k)) (g : Gr H0 H d gs) (few : Few m gs) (hm : m < sizeLine) (q : ∀ v H', Gr H0 H' d (grpAdd k i gs) → Q v H') : tPut K σ H Q := by
  obtain ⟨⟨qs, kvs, e1, e2, e3, e4⟩, kp⟩ := g
  obtain ⟨nd, nd'⟩ := List.nodup_cons.mp e3
  have fresh : ∀ b, H b = none → b ∉ d :: qs := fun b hb hm => by
    rcases List.mem_cons.mp hm with rfl | hm
    · rw [e1] at hb; cases hb
    · -- a list of the dict
      have : ∀ {qs : List Addr} {kvs : List (Key × V)} {gs : List (Int × List Int)}, GrL H qs kvs gs → b ∈ qs → H b ≠ none := fun {qs kvs gs} t => by
        induction t with
        | nil => intro z; cases z
        | cons h _ ih =>
          intro z
          rcases List.mem_cons.mp z with rfl | z
          · rw [h]; simp
          · exact ih z
      exact this e2 hm hb
  refine ⟨_, h5, d, rfl, .inl ⟨kvs, .inl e1⟩, _, h2, _, h6, a, _, i, _, rfl, rfl, SqL.up hs kp, hk, ?_⟩
  refine ⟨by decide, fun q0 hq0 => ?_⟩
  have n0 := fresh q0 hq0
  have nd0 : q0 ≠ d ∧ q0 ∉ qs := by simpa [not_or] using n0
  have old0 : H0 q0 = none := by
    cases z : H0 q0 with
    | none => rfl
    | some o => rw [kp q0 o z] at hq0; cases hq0
  refine ⟨kvs, .inl k, by rw [upd_ne (Ne.symm nd0.1)]; exact e1, rfl, by rw [e2.len.1]; exact Nat.lt_of_le_of_lt few.1 hm, fun v hv => ?_, fun hn => ?_⟩
  · obtain ⟨p, l, rfl, hp, hl, hg⟩ := GrL.old (i := i) e2 nd' hv
    have hpq : p ≠ q0 := fun z => nd0.2 (z ▸ hp)
    have hpd : p ≠ d := fun z => nd (z ▸ hp)
    have hlm : l.length ≤ m := by
      have : ∀ {qs : List Addr} {kvs : List (Key × V)} {gs : List (Int × List Int)}, GrL H qs kvs gs → (∀ g ∈ gs, g.2.length ≤ m) → p ∈ qs → l.length ≤ m := fun {qs kvs gs} t => by
        induction t with
        | nil => intro _ z; cases z
        | @cons q' qs' kvs' gs' k' l' h _ ih =>
          intro hf z
          rcases List.mem_cons.mp z with rfl | z
          · rw [hl] at h
            have e0 : l.map V.int = l'.map V.int := HO.lst.inj (Option.some.inj h)
            have e1 := congrArg List.length e0
            rw [List.length_map, List.length_map] at e1
            have := hf _ List.mem_cons_self
            rw [e1]; exact this
          · exact ih (fun g hg => hf g (List.mem_cons_of_mem _ hg)) z
      exact this e2 few.2 hp
    have hpl : upd H q0 (.lst []) p = some (.lst (l.map V.int)) := by rw [upd_ne hpq]; exact hl
    refine ⟨.inl ⟨rfl, l.map V.int, .inl (.inl hpl)⟩, _, h6, p, l.map V.int, .int i, rfl, rfl, hpl, by rw [List.length_map]; omega, q _ _ ⟨⟨qs, kvs, ?_, hg.other fun b hb => ?_, e3, e4⟩, fun b o h => ?_⟩⟩
    · rw [upd_ne (Ne.symm hpd), upd_ne (Ne.symm nd0.1)]; exact e1
    · by_cases hbp : b = p
      · subst hbp; rw [upd_same, upd_same]
      · have hb0 : b ≠ q0 := fun z => nd0.2 (by rw [← z]; exact hb)
        rw [upd_ne hbp, upd_ne hbp, upd_ne hb0]
    · have h1 : b ≠ p := fun z => by subst z; rw [e4 b (List.mem_cons_of_mem _ hp)] at h; cases h
      have h2 : b ≠ q0 := fun z => by subst z; rw [old0] at h; cases h
      rw [upd_ne h1, upd_ne h2]; exact kp b o h
  · have hq0l : upd (upd H q0 (.lst [])) d (.dK (putK kvs (Sum.inl k) (.ref q0))) q0 = some (.lst []) := by rw [upd_ne nd0.1, upd_same]
    refine ⟨.inl ⟨rfl, [], .inl (.inl hq0l)⟩, _, h6, q0, [], .int i, rfl, rfl, hq0l, by decide, q _ _ ⟨⟨qs ++ [q0], kvs ++ [(.inl k, .ref q0)], ?_, (GrL.fresh (i := i) e2 nd0.2 hn).other fun b hb => ?_, ?_, fun b hb => ?_⟩, fun b o h => ?_⟩⟩
    · rw [upd_ne (Ne.symm nd0.1), upd_same, putK_new _ hn]
    · by_cases hbq : b = q0
      · subst hbq; rw [upd_same, upd_same]; rfl
      · have hbd : b ≠ d := fun z => by
          subst z
          rcases List.mem_append.mp hb with hb | hb
          · exact nd hb
          · exact hbq (by simpa using hb)
        rw [upd_ne hbq, upd_ne hbd, upd_ne hbq, upd_ne hbq]
    · refine List.nodup_cons.mpr ⟨fun z => ?_, ?_⟩
      · rcases List.mem_append.mp z with z | z
        · exact nd z
        · exact nd0.1 (by simpa using (by simpa using z : d = q0).symm)
      · exact List.nodup_append.mpr ⟨nd', by simp, fun x hx y hy => by
          have : y = q0 := by simpa using hy
          subst this
          exact fun z => nd0.2 (z ▸ hx)⟩
    · rcases List.mem_cons.mp hb with rfl | hb
      · exact e4 _ List.mem_cons_self
      · rcases List.mem_append.mp hb with hb | hb
        · exact e4 b (List.mem_cons_of_mem _ hb)
        · have : b = q0 := by simpa using hb
          rw [this]; exact old0
    · have h1 : b ≠ d := fun z => by subst z; rw [e4 b List.mem_cons_self] at h; cases h
      have h2 : b ≠ q0 := fun z => by subst z; rw [old0] at h; cases h
      rw [upd_ne h2, upd_ne h1, upd_ne h2]; exact kp b o h
end Z

/-! Z10c: the filling of the dict, all turns. -/
namespace Z
open PySem PySem.Spec L2
theorem grpFrom_snoc (k : Int) : ∀ (ks : List Int) (j : Int) (gs : List (Int × List Int)), grpFrom j (ks ++ [k]) gs = grpAdd k (j + ks.length) (grpFrom j ks gs)
  | [], j, gs => by
    show grpFrom (j + 1) [] (grpAdd k j gs) = grpAdd k (j + ((0 : Nat) : Int)) gs
    have : j + ((0 : Nat) : Int) = j := by omega
    rw [this]; rfl
  | x :: ks, j, gs => by
    show grpFrom (j + 1) (ks ++ [k]) (grpAdd x j gs) = _
    rw [grpFrom_snoc k ks (j + 1) (grpAdd x j gs)]
    have : j + 1 + (ks.length : Int) = j + ((x :: ks).length : Int) := by rw [List.length_cons]; omega
    rw [this]; rfl
theorem few_from : ∀ (ks : List Int) (j : Int) (gs : List (Int × List Int)) (m : Nat), Few m gs → Few (m + ks.length) (grpFrom j ks gs)
  | [], _, _, _, h => h
  | x :: ks, j, gs, m, h => by
    have := few_from ks (j + 1) (grpAdd x j gs) (m + 1) (few_add h)
    have e : m + 1 + ks.length = m + (x :: ks).length := by rw [List.length_cons]; omega
    rw [e] at this
    exact this
theorem at_nat {xs : List V} {i : Nat} (h : i < xs.length) : atI xs (i : Int) = xs[i]? := by
  unfold atI
  have : ixN xs.length (i : Int) = some i := by
    unfold ixN
    rw [if_pos (by omega), if_pos (by omega)]
    simp
  rw [this]
  rfl
theorem fill_ok {K : PySem.W.Frag} {H0 H : Hp} {σ : L2.St} {d a : Addr} {ns : List Int} {D : Ends} (h0 : σ[0]? = some (some (.int (ns.length : Nat)))) (h5 : σ[5]? = some (some (.ref d))) (h2 : σ[2]? = some (some (.ref a))) (hl : 6 < σ.length)
    (hs : SqL K H0 a (ns.map V.int)) (hn : ns.length ≤ LIM) (hd : H d = some (.dK [])) (hd0 : H0 d = none) (kp : ∀ b o, H0 b = some o → H b = some o)
    (q : ∀ σ' H', σ'.length = σ.length → (∀ s, s ≠ 6 → σ'[s]? = σ[s]?) → Gr H0 H' d (grpFrom 0 ns []) → D.nx σ' H') : tFor (iRng1 (tCons (tVar 0) tNil)) (gName 6) (tDrop (tPut K)) D σ H := by
  have hL : (LIM : Nat) = 16777216 := rfl
  refine ⟨_, h0, (ns.length : Nat), rfl, by omega, by omega, ?_⟩
  refine ⟨fun i m σ' H' => m = ns.length - i ∧ i ≤ ns.length ∧ σ'.length = σ.length ∧ (∀ s, s ≠ 6 → σ'[s]? = σ[s]?) ∧ Gr H0 H' d (grpFrom 0 (ns.take i) []),
    ⟨ns.length, by omega, Nat.zero_le _, rfl, fun _ _ => rfl, ⟨[], [], hd, .nil, by simp, fun b hb => by rw [show b = d by simpa using hb]; exact hd0⟩, kp⟩, ?_⟩
  rintro i m σ' H' ⟨rfl, hi, l', keep, g⟩
  have e0 : ((ns.length : Nat) : Int).toNat = ns.length := by omega
  by_cases hlt : i < ns.length
  · refine .inr ⟨by show i < ((ns.length : Nat) : Int).toNat; omega, fun σ3 H3 => σ3.length = σ.length ∧ (∀ s, s ≠ 6 → σ3[s]? = σ[s]?) ∧ Gr H0 H3 d (grpFrom 0 (ns.take (i + 1)) []), fun σ3 H3 ⟨l3, k3, g3⟩ => ⟨ns.length - (i + 1), by omega, rfl, hlt, l3, k3, g3⟩, fun x H3 hy => ?_⟩
    obtain ⟨rfl, rfl⟩ := hy
    have l6 : 6 < σ'.length := by rw [l']; exact hl
    have get : ∀ s, s ≠ 6 → (σ'.set 6 (some (V.int (0 + (i : Nat)))))[s]? = σ[s]? := fun s hs => by rw [List.getElem?_set_ne (Ne.symm hs)]; exact keep s hs
    have ei : (0 : Int) + (i : Nat) = (i : Nat) := by omega
    refine put_turn (i := (i : Nat)) (k := ns[i]) (by rw [get 5 (by decide)]; exact h5) (by rw [get 2 (by decide)]; exact h2) (by rw [List.getElem?_set_self l6, ei]) hs ?_ g (few_from (ns.take i) 0 [] 0 ⟨Nat.le_refl _, fun g hg => by cases hg⟩) ?_ fun v H4 g4 => ?_
    · rw [at_nat (by rw [List.length_map]; exact hlt), List.getElem?_map, List.getElem?_eq_getElem hlt]
      rfl
    · rw [List.length_take, sizeLine_eq]; omega
    · refine ⟨by rw [List.length_set]; exact l', get, ?_⟩
      have e1 : ns.take (i + 1) = ns.take i ++ [ns[i]] := by rw [List.take_succ, List.getElem?_eq_getElem hlt]; rfl
      rw [e1, grpFrom_snoc]
      have e2 : (0 : Int) + ((ns.take i).length : Nat) = (i : Nat) := by rw [List.length_take, Nat.min_eq_left hi]; omega
      rw [e2]
      exact g4
  · have e1 : i = ns.length := by omega
    subst e1
    refine .inl ⟨by show ((ns.length : Nat) : Int).toNat ≤ ns.length; omega, q σ' H' l' keep ?_⟩
    rw [List.take_length] at g
    exact g
end Z

/-! Z10d: the dict's lists walked; data without the dict. -/
namespace Z
open PySem PySem.Spec L2
section
variable {n : Nm} {K : PySem.W.Frag} {mg : Str → Option Value} {F : Hp} {d : Addr} {od : Obj} {kvs : List (Key × V)}
/-- F without the dict -/
def minus (F : Hp) (d : Addr) : Hp := fun b => if b = d then none else F b
theorem minus_ne {b : Addr} (h : b ≠ d) : minus F d b = F b := if_neg h
theorem rd_minus {a : Addr} {u : HO} (hd : F d = some (.frz od (.dK kvs))) (hu : ∀ k, u ≠ .dK k) (hf : ∀ o w, u ≠ .frz o w) (h : Rd F a u) : Rd (minus F d) a u := by
  have ne : a ≠ d := fun z => by
    subst z
    rcases h with h | ⟨o, h⟩
    · rw [hd] at h
      exact hf _ _ (Option.some.inj h).symm
    · rw [hd] at h
      have := HO.frz.inj (Option.some.inj h)
      exact hu _ this.2.symm
  rcases h with h | ⟨o, h⟩
  · exact .inl (by rw [minus_ne ne]; exact h)
  · exact .inr ⟨o, by rw [minus_ne ne]; exact h⟩
mutual
theorem Rp.minus (hd : F d = some (.frz od (.dK kvs))) : ∀ {v : V} {x : Z.D}, Rp n K mg F v x → Rp n K mg (Z.minus F d) v x
  | _, .non, h => by cases h; exact .non
  | _, .bl _, h => by cases h; exact .bl _
  | _, .int _, h => by cases h; exact .int _
  | _, .str _, h => by cases h; exact .str _
  | _, .tup ds, h => by
    cases h with
    | tup h1 h2 h3 =>
      refine .tup ?_ h2 (Rps.minus hd h3)
      rcases h1 with h1 | h1
      · exact .inl (rd_minus hd (fun _ z => nomatch z) (fun _ _ z => nomatch z) h1)
      · exact .inr h1
  | _, .lst ds, h => by
    cases h with
    | lst h1 h2 h3 =>
      refine .lst ?_ h2 (Rps.minus hd h3)
      rcases h1 with h1 | h1
      · exact .inl (rd_minus hd (fun _ z => nomatch z) (fun _ _ z => nomatch z) h1)
      · exact .inr h1
  | _, .fn _, h => by
    cases h with
    | fn h => exact .fn h
theorem Rps.minus (hd : F d = some (.frz od (.dK kvs))) : ∀ {vs : List V} {ds : List Z.D}, Rps n K mg F vs ds → Rps n K mg (Z.minus F d) vs ds
  | _, [], h => by cases h; exact .nil
  | _, d :: ds, h => by
    cases h with
    | cons h1 h2 => exact .cons (Rp.minus hd h1) (Rps.minus hd h2)
end
/-- a group's list, as data -/
def gLst' (g : Int × List Int) : Z.D := .lst (g.2.map Z.D.int)
theorem GrL.at {H : Hp} : ∀ {qs : List Addr} {kvs : List (Key × V)} {gs : List (Int × List Int)}, GrL H qs kvs gs → ∀ {i : Nat} {g : Int × List Int}, gs[i]? = some g → ∃ q, qs[i]? = some q ∧ kvs[i]? = some (.inl g.1, .ref q) ∧ H q = some (.lst (g.2.map V.int))
  | _, _, _, .nil, i, g, h => by cases h
  | _, _, _, @GrL.cons _ q qs kvs gs k l hq t, 0, g, h => by
    cases h
    exact ⟨q, rfl, rfl, hq⟩
  | _, _, _, @GrL.cons _ q qs kvs gs k l hq t, i + 1, g, h => by
    obtain ⟨p, h1, h2, h3⟩ := t.at (i := i) (g := g) (by simpa using h)
    exact ⟨p, by simpa using h1, by simpa using h2, h3⟩
theorem itr_vals {qs : List Addr} {gs : List (Int × List Int)} (hd : F d = some (.frz od (.dK kvs))) (hg : GrL F qs kvs gs) (few : Few 16777216 gs) : ItR n K mg F (Itd d od kvs) (gs.map gLst') := by
  have hl := hg.len.1
  refine ⟨fun i H sub hi => ⟨sub _ _ hd, by rw [List.length_map] at hi; omega⟩, fun i H sub hi => ⟨sub _ _ hd, by rw [List.length_map] at hi; omega⟩, fun i H v H' sub hy x hx => .inl ⟨hy.1, ?_⟩, by rw [List.length_map, sizeLine_eq]; exact few.1⟩
  rw [List.getElem?_map] at hx
  cases hgi : gs[i]? with
  | none => rw [hgi] at hx; cases hx
  | some g =>
    rw [hgi] at hx
    cases hx
    obtain ⟨q, h1, h2, h3⟩ := hg.at hgi
    obtain ⟨k, hk⟩ := hy.2
    rw [h2] at hk
    cases hk
    exact .lst (.inl (.inl h3)) (by rw [List.length_map, sizeLine_eq]; exact few.2 g (List.mem_of_getElem? hgi)) (rps_ints g.2)
end
end Z

/-! Z10e: [tuple(block) for block in found.values()], its turns. -/
namespace Z
open PySem PySem.Spec L2
section
variable {n : Nm} {T : Nat → Fn}
def gTup' (g : Int × List Int) : Z.D := .tup (g.2.map Z.D.int)
/-- an env of m empty slots, slot 10 as it may be -/
def emp (m : Nat) (c : Cl) : Env := (List.replicate m Cl.no).set 10 c
theorem emp_len (m : Nat) (c : Cl) : (emp m c).length = m := by unfold emp; rw [List.length_set, List.length_replicate]
theorem emp_set {m : Nat} {c c' : Cl} : (emp m c).set 10 c' = emp m c' := by unfold emp; rw [List.set_set]
theorem emp_wipe {m : Nat} {c : Cl} : wipeE (emp m c) [10] = emp m .no := emp_set
theorem emp_get {m : Nat} {c : Cl} (h : 10 < m) : (emp m c).getD 10 .no = c := by
  unfold emp List.getD
  rw [List.getElem?_set_self (by rw [List.length_replicate]; exact h)]
  rfl
theorem turn_tup {m : Nat} {c : Cl} (h : 10 < m) (g : Int × List Int) :
    ((R.lift (bindTg (.nm 10) (gLst' g) (wipeE (emp m c) [10])) (emp m c)).bind fun e3 _ => (evc T n.gv .non e3).bind fun k e4 => if k then (data (ev T n.gv (.bi .tuple (.var 10)) e4)).bind fun y e5 => R.ok [y] e5 else R.ok [] e4) = R.ok [gTup' g] (emp m (.dat (gLst' g))) := by
  rw [emp_wipe]
  have hb : bindTg (.nm 10) (gLst' g) (emp m .no) = some (emp m (.dat (gLst' g))) := by
    show (if 10 < (emp m .no).length then some ((emp m .no).set 10 (.dat (gLst' g))) else none) = _
    rw [emp_len, if_pos h, emp_set]
  rw [hb]
  have hv : ev T n.gv (.var 10) (emp m (.dat (gLst' g))) = .ok (.dat (gLst' g)) (emp m (.dat (gLst' g))) := by
    show readV 10 (emp m (.dat (gLst' g))) = _
    unfold readV
    rw [emp_get h]
  show (if true = true then (data ((data (ev T n.gv (.var 10) (emp m (.dat (gLst' g))))).bind fun x e1 => R.liftC (biD .tuple x) e1)).bind fun y e5 => R.ok [y] e5 else R.ok [] (emp m (.dat (gLst' g)))) = _
  rw [hv, if_pos rfl]
  rfl
theorem turns_tup {m : Nat} (h : 10 < m) : ∀ (gs : List (Int × List Int)) (c : Cl), ∃ c', turns (fun (d : Z.D) (e2 : Env) => (R.lift (bindTg (.nm 10) d (wipeE e2 [10])) e2).bind fun e3 _ => (evc T n.gv .non e3).bind fun k e4 => if k then (data (ev T n.gv (.bi .tuple (.var 10)) e4)).bind fun y e5 => R.ok [y] e5 else R.ok [] e4)
    (gs.map gLst') (emp m c) = .ok (gs.map gTup') (emp m c')
  | [], c => ⟨c, rfl⟩
  | g :: gs, c => by
    obtain ⟨c', hc⟩ := turns_tup h gs (.dat (gLst' g))
    refine ⟨c', ?_⟩
    rw [List.map_cons, List.map_cons]
    show (((R.lift (bindTg (.nm 10) (gLst' g) (wipeE (emp m c) [10])) (emp m c)).bind fun e3 _ => (evc T n.gv .non e3).bind fun k e4 => if k then (data (ev T n.gv (.bi .tuple (.var 10)) e4)).bind fun y e5 => R.ok [y] e5 else R.ok [] e4).bind fun ys e1 => (turns _ (gs.map gLst') e1).bind fun zs e2 => .ok (ys ++ zs) e2) = _
    rw [turn_tup h]
    show ((turns _ (gs.map gLst') (emp m (.dat (gLst' g)))).bind fun zs e2 => R.ok ([gTup' g] ++ zs) e2) = _
    rw [hc]
    rfl
end
end Z

/-! Z10f: merged's last statement. -/
namespace Z
open PySem PySem.Spec L2
section
variable {n : Nm} {X : Cx} {p : Addr} {T : Nat → Fn}
def tLast (n : Nm) (X : Cx) (p : Addr) (T : Nat → Fn) : TE :=
  tCB (rBi n X .tuple) (tCons (tCB (rBi n X .sorted) (tCons (tLc (iVals (tVar 5)) (gOf X.K (.nm 10)) tYes (tD n X.K X.mg p T W0 (.bi .tuple (.var 10))) [10]) tNil)) tNil)
theorem last_ok {F H0 Hm : Hp} {σ : L2.St} {d : Addr} {gs : List (Int × List Int)} {D : Ends} (hl : 10 < σ.length) (h5 : σ[5]? = some (some (.ref d))) (sub : ∀ b o, F b = some o → H0 b = some o) (g : Gr H0 Hm d gs) (few : Few 16777216 gs) (hs : sortable (gs.map gTup') = true)
    (q : ∀ F' H' v, Step F H0 (fun _ => False) F' H' (fun _ => False) → (∀ b o, F' b = some o → H' b = some o) → Rp n X.K X.mg F' v (.tup (sortD (gs.map gTup'))) → D.rt v H') : tLock (tRet (tLast n X p T)) D σ Hm := by
  obtain ⟨⟨qs, kvs, e1, e2, e3, e4⟩, kp⟩ := g
  obtain ⟨nd, nd'⟩ := List.nodup_cons.mp e3
  refine ⟨d, _, e1, trivial, fun od => ?_⟩
  -- what is fixed from here on
  have hFd : F d = none := by
    cases z : F d with
    | none => rfl
    | some o => have := sub d o z; rw [e4 d List.mem_cons_self] at this; cases this
  have hFq : ∀ b ∈ qs, F b = none := fun b hb => by
    cases z : F b with
    | none => rfl
    | some o => have := sub b o z; rw [e4 b (List.mem_cons_of_mem _ hb)] at this; cases this
  let FL : Hp := fun b => if b = d then some (.frz od (.dK kvs)) else if b ∈ qs then Hm b else F b
  let HL : Hp := upd Hm d (.frz od (.dK kvs))
  have fd : FL d = some (.frz od (.dK kvs)) := if_pos rfl
  have fq : ∀ b ∈ qs, FL b = Hm b := fun b hb => by
    have : b ≠ d := fun z => nd (z ▸ hb)
    show (if b = d then _ else if b ∈ qs then Hm b else F b) = _
    rw [if_neg this, if_pos hb]
  have fo : ∀ b, b ≠ d → b ∉ qs → FL b = F b := fun b h1 h2 => by
    show (if b = d then _ else if b ∈ qs then Hm b else F b) = _
    rw [if_neg h1, if_neg h2]
  have subL : ∀ b o, FL b = some o → HL b = some o := fun b o h => by
    by_cases hb : b = d
    · subst hb
      rw [fd] at h
      show upd Hm b _ b = _
      rw [upd_same]; exact h
    · show upd Hm d _ b = _
      rw [upd_ne hb]
      by_cases hq : b ∈ qs
      · rw [fq b hq] at h; exact h
      · rw [fo b hb hq] at h; exact kp b o (sub b o h)
  have S : Stt n X.K X.mg p FL σ HL (emp σ.length .no) := by
    have no : ∀ (i : Nat) c, (emp σ.length .no)[i]? = some c → c = .no := fun i c h => by
      have e : emp σ.length .no = List.replicate σ.length Cl.no := by
        unfold emp
        refine List.ext_getElem? fun j => ?_
        by_cases hj : j = 10
        · subst hj
          rw [List.getElem?_set_self (by rw [List.length_replicate]; exact hl), List.getElem?_replicate, if_pos hl]
        · rw [List.getElem?_set_ne (Ne.symm hj)]
      rw [e] at h
      exact (List.mem_replicate.mp (List.mem_of_getElem? h)).2
    exact ⟨subL, by rw [emp_len], fun i x h => (nomatch no i _ h), fun i k es h => (nomatch no i _ h), fun i j k l es es' a h => (nomatch no i _ h)⟩
  have noP : ∀ b, ¬ owns σ (emp σ.length .no) b := fun b ⟨i, k, ds, h, _⟩ => by
    have e : emp σ.length .no = List.replicate σ.length Cl.no := by
      unfold emp
      refine List.ext_getElem? fun j => ?_
      by_cases hj : j = 10
      · subst hj
        rw [List.getElem?_set_self (by rw [List.length_replicate]; exact hl), List.getElem?_replicate, if_pos hl]
      · rw [List.getElem?_set_ne (Ne.symm hj)]
    rw [e] at h
    exact nomatch (List.mem_replicate.mp (List.mem_of_getElem? h)).2
  have fin : ∀ {F3 H3 F5 H5 : Hp} {P' : Addr → Prop} {v : V}, Step FL HL (owns σ (emp σ.length .no)) F3 H3 P' → (∀ b o, F3 b = some o → F5 b = some o) → (∀ b o, F5 b = some o → (∃ u, F3 b = some u) ∨ H3 b = none) → (∀ b o, H3 b = some o → H5 b = some o) → (∀ b o, F5 b = some o → H5 b = some o) →
      Rp n X.K X.mg F5 v (.tup (sortD (gs.map gTup'))) → H5 d = some (.frz od (.dK kvs)) ∧ D.rt v (upd H5 d (.dK kvs)) := fun {F3 H3 F5 H5 P' v} s3 a1 a2 a3 a4 rp => by
    have f5 : F5 d = some (.frz od (.dK kvs)) := a1 _ _ (s3.ext _ _ fd)
    refine ⟨a4 _ _ f5, q (minus F5 d) _ v ⟨fun b o h => ?_, fun b o h => ?_, fun b o h _ => ?_, fun _ z => z.elim⟩ (fun b o h => ?_) (Rp.minus f5 rp)⟩
    · have h1 : b ≠ d := fun z => by subst z; rw [hFd] at h; cases h
      have h2 : b ∉ qs := fun z => by rw [hFq b z] at h; cases h
      rw [minus_ne h1]
      exact a1 _ _ (s3.ext _ _ (by rw [fo b h1 h2]; exact h))
    · by_cases h1 : b = d
      · subst h1; simp [minus] at h
      · rw [minus_ne h1] at h
        have un : HL b = none → H0 b = none := fun z => by
          cases y : H0 b with
          | none => rfl
          | some w =>
            have z' : Hm b = none := by
              have : upd Hm d (.frz od (.dK kvs)) b = none := z
              rw [upd_ne h1] at this; exact this
            rw [kp b w y] at z'; cases z'
        rcases a2 b o h with ⟨u, hu⟩ | hu
        · rcases s3.new b u hu with ⟨w, hw⟩ | hw | hw
          · by_cases h2 : b ∈ qs
            · exact .inr (.inl (e4 b (List.mem_cons_of_mem _ h2)))
            · rw [fo b h1 h2] at hw; exact .inl ⟨w, hw⟩
          · exact .inr (.inl (un hw))
          · exact absurd hw (noP b)
        · refine .inr (.inl (un ?_))
          cases y : HL b with
          | none => rfl
          | some w => rw [s3.keep b w y (noP b)] at hu; cases hu
    · have h1 : b ≠ d := fun z => by subst z; rw [e4 b List.mem_cons_self] at h; cases h
      rw [upd_ne h1]
      refine a3 _ _ (s3.keep b o ?_ (noP b))
      show upd Hm d _ b = _
      rw [upd_ne h1]
      exact kp b o h
    · by_cases h1 : b = d
      · subst h1; simp [minus] at h
      · rw [minus_ne h1] at h
        rw [upd_ne h1]
        exact a4 b o h
  obtain ⟨c', hc⟩ := turns_tup (n := n) (T := T) hl gs .no
  refine ⟨_, h5, d, od, kvs, rfl, upd_same, ?_⟩
  refine cm1_core (n := n) (X := X) (p := p) (T := T) (W := W0) (tt := tYes) (Q := fun x H1 => rBi n X .sorted [x] H1 fun x1 H2 => rBi n X .tuple [x1] H2 fun v H' => H' d = some (.frz od (.dK kvs)) ∧ D.rt v (upd H' d (.dK kvs))) (elt := .bi .tuple (.var 10)) (t := .nm 10) (cd := .non) (vs := [10]) (by decide) (fun σ H Q ⟨F, e, S, q⟩ => Out.here S q) Step.refl S (itr_vals fd (e2.other fq) few) ?_
  rw [hc]
  intro F3 H3 s3 S3 v hv
  obtain ⟨_, a, vs, rfl, h1, h2, h3, h4, _, _⟩ := hv
  refine ⟨F3, .ref a, .lst (gs.map gTup'), .own false (sortD (gs.map gTup')), S3.sub, rfl, ⟨a, vs, rfl, .inl (.inl h1), h3, h4⟩, ?_, fun q1 ws hq1 hl1 hr1 => ?_⟩
  · show (if sortable (gs.map gTup') then some (Cl.own false (sortD (gs.map gTup'))) else none) = _
    rw [if_pos hs]
  have nF : F3 q1 = none := S3.noF hq1
  have sub1 : ∀ b o, F3 b = some o → upd H3 q1 (.lst ws) b = some o := fun b o h => by rw [upd_ne (ne_of_none h nF)]; exact S3.sub b o h
  have keep1 : ∀ b o, H3 b = some o → upd H3 q1 (.lst ws) b = some o := fun b o h => by rw [upd_ne (ne_of_none h hq1)]; exact h
  refine ⟨F3, .ref q1, .lst (sortD (gs.map gTup')), .dat (.tup (sortD (gs.map gTup'))), sub1, rfl, ⟨q1, ws, rfl, .inl (.inl upd_same), hl1, hr1⟩, rfl, fun v hv => ?_, fun q2 ws2 ds2 hq2 he hl2 hr2 => ?_⟩
  · exact fin s3 (fun _ _ h => h) (fun b o h => .inl ⟨o, h⟩) keep1 sub1 hv
  · have he' := Z.D.tup.inj he
    subst he'
    have n2 : F3 q2 = none := by
      cases z : F3 q2 with
      | none => rfl
      | some o => exact absurd ((sub1 q2 o z).symm.trans hq2) (fun w => nomatch w)
    have h32 : H3 q2 = none := by
      cases z : H3 q2 with
      | none => rfl
      | some o => exact absurd ((keep1 q2 o z).symm.trans hq2) (fun w => nomatch w)
    refine fin s3 (F5 := upd F3 q2 (.tup ws2)) (fun b o h => by rw [upd_ne (ne_of_none h n2)]; exact h) (fun b o h => ?_) (fun b o h => by rw [upd_ne (ne_of_none h h32)]; exact keep1 b o h) (fun b o h => ?_) (.tup (.inl (.inl upd_same)) hl2 (hr2.up fun b o h => by rw [upd_ne (ne_of_none h n2)]; exact h))
    · by_cases hb : b = q2
      · subst hb; exact .inr h32
      · rw [upd_ne hb] at h; exact .inl ⟨o, h⟩
    · by_cases hb : b = q2
      · subst hb; rw [upd_same] at h ⊢; exact h
      · rw [upd_ne hb] at h ⊢; exact sub1 b o h
end
end Z

/-! Z10g: merged's statements 4 and 5 in the text. -/
namespace Z
open PySem PySem.Spec L2
section
variable {n : Nm} {X : Cx} {p : Addr} {T : Nat → Fn} {k : Nat} {W : WX}
theorem ps_fill {fn nn pn rn mn : Str} {q1 q2 q3 q4 q5 q6 q7 q8 q9 q10 q11 q12 q13 q14 q15 q16 : Pos} {pn2 pn3 : Str} (B : Bd n T k X W) (hf : okV X.N X.env.scope 5 fn = true) (hn : okV X.N X.env.scope 2 nn = true) (hp : okV X.N X.env.scope 6 pn2 = true) (hp3 : okV X.N X.env.scope 6 pn3 = true) (hpt : okT X.N X.env.scope allC 6 pn = true) (hm : okV X.N X.env.scope 0 mn = true)
    (hr : okG X.env.scope rn = true) (er : rn = "range") (l1 : (q1.endLine == q2.line) = true) (l2 : (q3.endLine == q4.line) = true) :
    PS X (.For (.Name pn q5) (.Call (.Name rn q6) [.Name mn q7] [] q8) [.Expr (.Call (.Attribute (.Call (.Attribute (.Name fn q9) "setdefault" q1) [.Subscript (.Name nn q10) (.Name pn2 q11) q12, .List [] q13] [] q2) "append" q3) [.Name pn3 q14] [] q4) q16] [] q15)
      (tFor (iRng1 (tCons (tVar 0) tNil)) (gName 6) (tDrop (tPut X.K))) := by
  subst er
  obtain ⟨a1, a2, a3⟩ := gl_of hr
  obtain ⟨i6, x6⟩ := okT_ix hpt
  refine ps_for B.own B.gd.calm (pi_range1 a1 (B.gd.blt _ (by decide)) (pa_cons (pe_slot hm) pa_nil)) (pg_name B.gd.nd i6 x6 (.inl (B.fn _))) (pss_one (ps_expr ?_))
  refine pe_bm PySem.F.plainAttrs_list PySem.F.slot_list_append PySem.F.type_list_append mt_append ?_ (pa_cons (pe_slot hp3) pa_nil) rfl rfl l2 rfl rfl
  exact pe_dsetd (pe_slot hf) (pe_ix ix_list (pe_slot hn) (pe_slot hp) (good_plain (x := .Name pn2 q11) rfl)) (pe_lst pa_nil) ⟨rfl, rfl, l1, rfl⟩
theorem ps_last {fn tn sn un bn : Str} {scope : Scope} {q1 q2 q3 q4 q5 q6 q7 q8 q9 q10 q11 q12 q13 : Pos} (B : Bd n T k X W) (hf : okV X.N X.env.scope 5 fn = true) (ht : okG X.env.scope tn = true) (et : tn = "tuple") (hs : okG X.env.scope sn = true) (es : sn = "sorted")
    (hu : okG (relS scope X.env.scope) un = true) (eu : un = "tuple") (hb : okV X.N (relS scope X.env.scope) 10 bn = true) (hbt : isTg X.N (relS scope X.env.scope) (fun x => scope.names.lookup x == some .cell) (.nm 10) (.Name bn q11) = true) (hc : blkC X.N X.env.scope scope (ownOf X.N [10]) = true) (l1 : (q1.endLine == q2.line) = true) :
    PS X (.Return (some (.Call (.Name tn q3) [.Call (.Name sn q4) [.ListComp (.Call (.Name un q5) [.Name bn q6] [] q7) [⟨.Name bn q11, .Call (.Attribute (.Name fn q8) "values" q1) [] [] q2, [], 0⟩] scope q9] [] q10] [] q12)) q13)
      (tLock (tRet (tLast n X p T))) := by
  subst et es eu
  obtain ⟨a1, a2, a3⟩ := gl_of ht
  obtain ⟨b1, b2, b3⟩ := gl_of hs
  refine ps_lock (ps_ret ?_)
  have lc : PE X (.ListComp (.Call (.Name "tuple" q5) [.Name bn q6] [] q7) [⟨.Name bn q11, .Call (.Attribute (.Name fn q8) "values" q1) [] [] q2, [], 0⟩] scope q9) (tLc (iVals (tVar 5)) (gOf X.K (.nm 10)) tYes (tD n X.K X.mg p T W0 (.bi .tuple (.var 10))) [10]) :=
    pe_lc (own := ownOf X.N [10]) B.gd.calm B.gd.nd (pi_values (pe_slot hf) rfl l1) (blkOk_by hc) (fun s H C cl fp => isTg_pg (X := X.blk s H scope (compEnvC scope cl C X.env) fp) B.gd.nd (fun _ z => z) B.gd.calm (.nm 10) _ hbt) (fun s H C cl fp => pts_nil)
      (fun s H C cl fp => toD (e_bi (X := X.blk s H scope (compEnvC scope cl C X.env) fp) (f := .tuple) B.gd.blk rfl hu (toD (e_var hb)) rfl ⟨(fun z => nomatch z), (fun z => nomatch z), (fun z => nomatch z)⟩)) (fun _ => rfl)
  have so : PE X (.Call (.Name "sorted" q4) [.ListComp (.Call (.Name "tuple" q5) [.Name bn q6] [] q7) [⟨.Name bn q11, .Call (.Attribute (.Name fn q8) "values" q1) [] [] q2, [], 0⟩] scope q9] [] q10) (tCB (rBi n X .sorted) (tCons (tLc (iVals (tVar 5)) (gOf X.K (.nm 10)) tYes (tD n X.K X.mg p T W0 (.bi .tuple (.var 10))) [10]) tNil)) :=
    pe_callB (cl_sorted B.gd.hu) b1 (B.gd.blt _ (by decide)) (by decide +kernel) (pa_cons lc pa_nil) b3 b2 rfl rfl
  exact pe_callTy cl_tuple a1 (B.gd.blt _ (by decide)) (by decide +kernel) (pa_cons so pa_nil) a3 a2 rfl rfl
end
end Z

/-! Z10h: merged as a function of data. -/
namespace Z
open PySem PySem.Spec L2
/-- the first two statements of merged -/
def mrgPre : Ss := (.cons (.set 2 (.rgl (.cons (.var 0) .nil))) <|
  .cons (.for_ (.tp (.cons (.nm 3) (.cons (.nm 4) .nil))) (.seq (.var 1)) (.cons (.tpar (.cons (.nm 7) (.cons (.nm 8) .nil)) (.cons (.idx (.var 2) (.var 3)) (.cons (.idx (.var 2) (.var 4)) .nil))) <|
    .cons (.set 2 (.cm1 (.ite (.cmp .Eq (.var 9) (.var 7)) (.var 8) (.var 9)) (.nm 9) (.seq (.var 2)) .non [9])) <|
    .nil)) <| .nil)
def mrgEnd (m : Int) (e : Env) : FR := match e.getD 0 .no, peek 2 e with
  | .dat (.int j), some (.lst ds) => (match intsOf ds with
    | some ns => if j = m ∧ (ns.length : Int) = m ∧ 10 < e.length ∧ ns.length ≤ LIM ∧ sortable ((grpFrom 0 ns []).map gTup') = true then .ok (.dat (.tup (sortD ((grpFrom 0 ns []).map gTup')))) [] else .no
    | none => .no)
  | _, _ => .no
/-- merged(many, links) -/
def mrgFn (G : Nat → Option Z.D) : Fn := fun p ds => match p, ds with
  | none, [.int m, links] => (match xss (fun _ _ _ => .no) G mrgPre (entryE ⟨false, 2, 11, .nil⟩ none [.int m, links]) with
    | .nx e => mrgEnd m e
    | _ => .no)
  | _, _ => .no
end Z

/-! Z10i: merged keeps what mrgFn says. -/
namespace Z
open PySem PySem.Spec L2
/-- merged's text -/
def mrgB (n : Nm) (N : List Str) (sc : Scope) : List Stmt → Bool
  | s1 :: s2 :: .Assign [.Name f1 fp] (.Dict [] [] _) _ :: .For (.Name pn _) (.Call (.Name rn _) [.Name mn _] [] _) [.Expr (.Call (.Attribute (.Call (.Attribute (.Name fn _) sd q1) [.Subscript (.Name nn _) (.Name pn2 _) _, .List [] _] [] q2) ap q3) [.Name pn3 _] [] q4) _] [] _ ::
      [.Return (some (.Call (.Name tn _) [.Call (.Name sn _) [.ListComp (.Call (.Name un _) [.Name bn _] [] _) [⟨.Name bt btp, .Call (.Attribute (.Name fn2 _) vl q5) [] [] q6, [], z⟩] scope _] [] _] [] _)) _] =>
    isSs n N mrgPre sc [s1, s2] && okT N sc allC 5 f1 && okT N sc allC 6 pn && okV N sc 6 pn2 && okV N sc 6 pn3 && okV N sc 5 fn && okV N sc 5 fn2 && okV N sc 2 nn && okV N sc 0 mn && okG sc rn && decide (rn = "range") && decide (sd = "setdefault") && decide (ap = "append") && (q1.endLine == q2.line) && (q3.endLine == q4.line) &&
      okG sc tn && decide (tn = "tuple") && okG sc sn && decide (sn = "sorted") && okG (relS scope sc) un && decide (un = "tuple") && okV N (relS scope sc) 10 bn && decide (bn = bt) && isTg N (relS scope sc) (fun x => scope.names.lookup x == some .cell) (.nm 10) (.Name bt btp) && blkC N sc scope (ownOf N [10]) && (q5.endLine == q6.line) && decide (vl = "values") && decide (z = 0) && decide (N.length = 11)
  | _ => false
end Z

/-! Z10j: merged keeps what mrgFn says. -/
namespace Z
open PySem PySem.Spec L2
section
variable {n : Nm} {K : PySem.W.Frag} {mg : Str → Option Value} {k : Nat} {P : Program} {w : World} {base : Heap}
def mS1 : S := .set 2 (.rgl (.cons (.var 0) .nil))
def mS2 : S := .for_ (.tp (.cons (.nm 3) (.cons (.nm 4) .nil))) (.seq (.var 1)) (.cons (.tpar (.cons (.nm 7) (.cons (.nm 8) .nil)) (.cons (.idx (.var 2) (.var 3)) (.cons (.idx (.var 2) (.var 4)) .nil))) <|
    .cons (.set 2 (.cm1 (.ite (.cmp .Eq (.var 9) (.var 7)) (.var 8) (.var 9)) (.nm 9) (.seq (.var 2)) .non [9])) <|
    .nil)
def mEndB (n : Nm) (N : List Str) (sc : Scope) (f1 pn rn mn fn sd nn pn2 ap pn3 tn sn un bn bt fn2 vl : Str) (scope : Scope) (btp q1 q2 q3 q4 q5 q6 : Pos) (z : Nat) : Bool :=
    okT N sc allC 5 f1 && okT N sc allC 6 pn && okV N sc 6 pn2 && okV N sc 6 pn3 && okV N sc 5 fn && okV N sc 5 fn2 && okV N sc 2 nn && okV N sc 0 mn && okG sc rn && decide (rn = "range") && decide (sd = "setdefault") && decide (ap = "append") && (q1.endLine == q2.line) && (q3.endLine == q4.line) &&
      okG sc tn && decide (tn = "tuple") && okG sc sn && decide (sn = "sorted") && okG (relS scope sc) un && decide (un = "tuple") && okV N (relS scope sc) 10 bn && decide (bn = bt) && isTg N (relS scope sc) (fun x => scope.names.lookup x == some .cell) (.nm 10) (.Name bt btp) && blkC N sc scope (ownOf N [10]) && (q5.endLine == q6.line) && decide (vl = "values") && decide (z = 0) && decide (N.length = 11)
def tMrg (n : Nm) (X : Cx) (p : Addr) (T : Nat → Fn) (W : WX) : TS :=
  tSeq (tS n X.K X.mg p T W mS1) (tSeq (tS n X.K X.mg p T W mS2) (tSeq (tAsg tDNewK (gName 5)) (tSeq (tFor (iRng1 (tCons (tVar 0) tNil)) (gName 6) (tDrop (tPut X.K))) (tLock (tRet (tLast n X p T))))))
theorem pss_mrg {X : Cx} {W : WX} {p : Addr} {T : Nat → Fn} {body : List Stmt} (B : Bd n T k X W) (h : mrgB n X.N X.env.scope body = true) : PSs X body (tMrg n X p T W) := by
  unfold mrgB at h
  split at h
  case h_2 => cases h
  rename_i s1 s2 f1 fp dp ap0 pn pnp rn rnp mn mnp cp fn fnp sd q1 nn nnp pn2 pn2p sp lp q2 ap q3 pn3 pn3p q4 ep fop tn tnp sn snp un unp bn bnp up bt btp fn2 fn2p vl q5 q6 z scope lcp sop tup rp
  have e0 : X.N.length = 11 ∧ z = 0 ∧ vl = "values" ∧ (q5.endLine == q6.line) = true := by
    simp only [Bool.and_eq_true, decide_eq_true_eq] at h
    exact ⟨h.2, h.1.2, h.1.1.2, h.1.1.1.2⟩
  simp only [Bool.and_eq_true, decide_eq_true_eq] at h
  obtain ⟨⟨⟨⟨⟨⟨⟨⟨⟨⟨⟨⟨⟨⟨⟨⟨⟨⟨⟨⟨⟨⟨⟨⟨⟨⟨⟨⟨hss, h5⟩, h6⟩, h62⟩, h63⟩, hf⟩, hf2⟩, h2⟩, h0⟩, hr⟩, er⟩, esd⟩, eap⟩, l1⟩, l2⟩, ht⟩, et⟩, hs⟩, es⟩, hu⟩, eu⟩, hb⟩, ebt⟩, hbt⟩, hc⟩, l3⟩, evl⟩, ez⟩, hN⟩ := h
  subst esd eap ebt evl ez
  obtain ⟨hm1, hm2⟩ := and1 (show (isS n X.N mS1 X.env.scope s1 && isSs n X.N (.cons mS2 .nil) X.env.scope [s2]) = true from hss)
  obtain ⟨hm2, _⟩ := and1 (show (isS n X.N mS2 X.env.scope s2 && isSs n X.N .nil X.env.scope []) = true from hm2)
  obtain ⟨i5, x5⟩ := okT_ix h5
  refine pss_cons (gS mS1 X W s1 B hm1) (pss_cons (gS mS2 X W s2 B hm2) (pss_cons (ps_set B.gd.nd i5 x5 pe_dnewK ?_ (.inl (B.fn _))) (pss_cons (ps_fill B hf h2 h62 h63 h6 h0 hr er l1 l2) (pss_one (ps_last B hf2 ht et hs es hu eu hb hbt hc l3)))))
  rfl
theorem mrgFn_some {G : Nat → Option Z.D} {q ds : List Z.D} : mrgFn G (some q) ds = .no := rfl
/-- THE RULE for merged -/
theorem mrg_ok (M : Md n (fun _ _ _ => .no) k P w K mg base) {x qual : Str} {params : Arguments} {body : List Stmt} {scope : Scope} {f : Addr} {fd : FuncData} {N ps : List Str} (F : FunD K x qual params body scope [] [] f fd) (hd : (fnScB N ps scope && decide (ps.length = 2) && mrgB n N scope body) = true) :
    FnOk P w K mg base (L2.CX P w) (k + 1) f fd ps (spF n K mg (mrgFn n.gv)) := by
  obtain ⟨h12, h3⟩ := and1 hd
  obtain ⟨h1, h2⟩ := and1 h12
  have sc := fnScB_ok h1
  have hp := of_decide_eq_true h2
  have hN : N.length = 11 := by
    unfold mrgB at h3
    split at h3
    · simp only [Bool.and_eq_true, decide_eq_true_eq] at h3; exact h3.2
    · cases h3
  -- what a call must be
  have inv : ∀ vs H Q E, spF n K mg (mrgFn n.gv) vs H Q E → ∃ (F0 : Hp) (m : Int) (links : Z.D) (e5 : Z.Env), (∀ b o, F0 b = some o → H b = some o) ∧ Rps n K mg F0 vs [.int m, links] ∧
      xss (fun _ _ _ => .no) n.gv mrgPre (entryE ⟨false, 2, 11, .nil⟩ none [.int m, links]) = .nx e5 ∧ spK n K mg F0 H none Q E (mrgEnd m e5) := fun vs H Q E h => by
    obtain ⟨F0, dv, ds, sub, rs, ⟨rfl, hk⟩ | ⟨a, ws, q, rfl, _, _, _, _, hk⟩⟩ := h
    · unfold mrgFn at hk
      split at hk
      · rename_i m links _
        split at hk
        · rename_i e5 he
          exact ⟨F0, m, links, e5, sub, rs, he, hk⟩
        · exact hk.elim
      · exact hk.elim
    · exact hk.elim
  refine F.ok sc (fun vs H Q E h => ?_) fun cdv A outer s H vs Q E hr hsp => ?_
  · obtain ⟨F0, m, links, e5, _, rs, _, _⟩ := inv vs H Q E h
    rw [rs.length, hp]; rfl
  have B : Bd n (fun _ _ _ => .no) k (cxOf (L2.CX P w) P w K mg base N qual scope f cdv A outer s H E) (fun cls d _ H => E cls d H) :=
    ⟨⟨rfl, sc.nd, hr, M.blt, M.glv, M.fns⟩, takes_of rfl rfl rfl (E₁ := fun e' s'' => L2.CX P w outer H s E e' s'') rfl, fun _ => rfl, sc.kind, passes_of (K := fun e s'' => L2.CX P w outer H s E e s'') (E₁ := fun e' s'' => L2.CX P w outer H s E e' s'') rfl, rfl, rfl,
      fun x hx => let ⟨C, c1, c2, c3, c4, c5⟩ := M.exc x hx; ⟨C, c1, c2, c3, raises_own c4 c5⟩, M.exd⟩
  obtain ⟨F0, m, links, e5, sub, rs, he5, hk⟩ := inv vs H Q E hsp
  refine ⟨_, pss_mrg (p := 0) B h3, ?_⟩
  obtain ⟨S0, no0⟩ := ent_none (p := 0) (d := ⟨false, 2, 11, .nil⟩) hN rfl rfl (show 2 ≤ 11 by decide) sub rs
  -- the end
  unfold mrgEnd at hk
  split at hk
  case h_2 => exact hk.elim
  rename_i j ds g0 g2
  split at hk
  case h_2 => exact hk.elim
  rename_i ns hns
  split at hk
  case isFalse => exact hk.elim
  rename_i hc
  obtain ⟨rfl, c2, c3, c4, c5⟩ := hc
  have fin : ∀ σ5 F5 H5, Step F0 H (owns (L2.start N vs) (entryE ⟨false, 2, 11, .nil⟩ none [.int j, links])) F5 H5 (owns σ5 e5) → Stt n K mg 0 F5 σ5 H5 e5 →
      tSeq (tAsg tDNewK (gName 5)) (tSeq (tFor (iRng1 (tCons (tVar 0) tNil)) (gName 6) (tDrop (tPut K))) (tLock (tRet (tLast n (cxOf (L2.CX P w) P w K mg base N qual scope f cdv A outer s H E) 0 (fun _ _ _ => .no))))) { nx := fun _ H' => Q .non H', rt := Q } σ5 H5 := fun σ5 F5 H5 s5 S5 => by
    obtain ⟨v0, w0, r0⟩ := S5.dat 0 (.int j) (getD_get g0 (fun z => nomatch z))
    cases r0
    obtain ⟨v2, w2, a2, vs2, rfl, q2, l2, r2⟩ := peek_sh (X := cxOf (L2.CX P w) P w K mg base N qual scope f cdv A outer s H E) S5 g2
    have evs2 : vs2 = ns.map V.int := r2.ints hns
    subst evs2
    intro d hd
    have hl : σ5.length = e5.length := S5.len
    have get : ∀ i, i ≠ 5 → (σ5.set 5 (some (V.ref d)))[i]? = σ5[i]? := fun i hi => by rw [List.getElem?_set_ne (Ne.symm hi)]
    refine fill_ok (H0 := H5) (ns := ns) (a := a2) (d := d) ?_ ?_ ?_ ?_ q2 c4 upd_same hd (fun b o h => by rw [upd_ne (ne_of_none h hd)]; exact h) fun σ7 H7 l7 k7 g7 => ?_
    · rw [get 0 (by decide), w0, c2]
    · rw [List.getElem?_set_self (by omega)]
    · rw [get 2 (by decide), w2]
    · rw [List.length_set]; omega
    refine last_ok (F := F5) (H0 := H5) (d := d) (by rw [l7, List.length_set]; omega) (by rw [k7 5 (by decide), List.getElem?_set_self (by omega)]) S5.sub g7 ?_ c5 fun F' H' v s' sub' rv => ?_
    · have := few_from ns 0 [] 0 ⟨Nat.le_refl _, fun g hg => by cases hg⟩
      have hL : (LIM : Nat) = 16777216 := rfl
      exact ⟨by have := this.1; omega, fun g hg => by have := this.2 g hg; omega⟩
    · refine hk F' H' v ?_ sub' (fun a z => nomatch z) rv
      have t := s5.trans (s'.wid (P0 := owns σ5 e5) fun b z => z.elim)
      exact ⟨t.ext, fun b o z => (t.new b o z).imp id (Or.imp id fun y => absurd y (no0 b)), fun b o z hb => t.keep b o z (no0 b), fun b z => nomatch z⟩
  have start : OutS n K mg 0 (fun cls d _ H => E cls d H) { nx := fun σ5 H5 => tSeq (tAsg tDNewK (gName 5)) (tSeq (tFor (iRng1 (tCons (tVar 0) tNil)) (gName 6) (tDrop (tPut K))) (tLock (tRet (tLast n (cxOf (L2.CX P w) P w K mg base N qual scope f cdv A outer s H E) 0 (fun _ _ _ => .no))))) { nx := fun _ H' => Q .non H', rt := Q } σ5 H5, rt := Q } (owns (L2.start N vs) (entryE ⟨false, 2, 11, .nil⟩ none [.int j, links])) F0 H
      (xss (fun _ _ _ => .no) n.gv mrgPre (entryE ⟨false, 2, 11, .nil⟩ none [.int j, links])) := by
    rw [he5]
    exact fun σ5 F5 H5 s5 S5 => fin σ5 F5 H5 s5 S5
  refine ⟨F0, _, S0, (OutS.seq (show OutS n K mg 0 _ _ _ F0 H ((xs (fun _ _ _ => .no) n.gv mS1 (entryE ⟨false, 2, 11, .nil⟩ none [.int j, links])).then fun e1 => xss (fun _ _ _ => .no) n.gv (.cons mS2 .nil) e1) from start)).mono (fun σ6 H6 ⟨F6, e6, u6, S6, q6⟩ => ⟨F6, e6, S6, ?_⟩) fun _ _ h => h⟩
  exact (OutS.seq (show OutS n K mg 0 _ _ _ F6 H6 ((xs (fun _ _ _ => .no) n.gv mS2 e6).then fun e1 => xss (fun _ _ _ => .no) n.gv .nil e1) from q6)).mono (fun σ8 H8 ⟨F8, e8, u8, S8, q8⟩ => OutS.here S8 q8) fun _ _ h => h
end
end Z

/-! M1: plain mathematics: points, relations, blocks. -/
namespace M
open Classical
abbrev Rel := Int → Int → Prop

/-! ### ascending lists -/
def seqI : Nat → Int → List Int
  | 0, _ => []
  | n + 1, lo => lo :: seqI n (lo + 1)
def rng (n : Int) : List Int := seqI n.toNat 0
theorem mem_seqI {x : Int} : ∀ {c : Nat} {lo : Int}, x ∈ seqI c lo ↔ lo ≤ x ∧ x < lo + c
  | 0, lo => by simp [seqI]
  | c + 1, lo => by
    rw [seqI, List.mem_cons, mem_seqI]
    omega
theorem asc_seqI : ∀ {c : Nat} {lo : Int}, (seqI c lo).Pairwise (· < ·)
  | 0, _ => .nil
  | c + 1, lo => by
    rw [seqI]
    refine .cons (fun y hy => ?_) asc_seqI
    have := mem_seqI.mp hy
    omega
theorem len_seqI : ∀ {c : Nat} {lo : Int}, (seqI c lo).length = c
  | 0, _ => rfl
  | c + 1, lo => by rw [seqI, List.length_cons, len_seqI]
theorem seqI_app : ∀ (a b : Nat) (lo : Int), seqI (a + b) lo = seqI a lo ++ seqI b (lo + a)
  | 0, b, lo => by simp [seqI]
  | a + 1, b, lo => by
    rw [Nat.add_right_comm, seqI, seqI, seqI_app a b (lo + 1), List.cons_append]
    congr 3
    omega
theorem get_seqI : ∀ {c i : Nat} {lo : Int}, i < c → (seqI c lo)[i]? = some (lo + i)
  | 0, _, _, h => absurd h (Nat.not_lt_zero _)
  | c + 1, 0, lo, _ => by simp [seqI]
  | c + 1, i + 1, lo, h => by
    rw [seqI, List.getElem?_cons_succ, get_seqI (by omega)]
    congr 1
    omega
theorem mem_rng {x n : Int} : x ∈ rng n ↔ 0 ≤ x ∧ x < n := by
  unfold rng
  rw [mem_seqI]
  omega
theorem asc_rng {n : Int} : (rng n).Pairwise (· < ·) := asc_seqI
theorem len_rng {n : Int} : (rng n).length = n.toNat := len_seqI
theorem nodup_of_asc {l : List Int} (h : l.Pairwise (· < ·)) : l.Nodup := h.imp fun h => by omega

/-- two lists that rise by one order and have the same members -/
theorem asc_ext {α : Type} {lt : α → α → Prop} (irr : ∀ a, ¬ lt a a) (asy : ∀ a b, lt a b → ¬ lt b a) : ∀ {l m : List α}, l.Pairwise lt → m.Pairwise lt → (∀ x, x ∈ l ↔ x ∈ m) → l = m
  | [], [], _, _, _ => rfl
  | [], y :: m, _, _, h => absurd ((h y).mpr List.mem_cons_self) (by simp)
  | x :: l, [], _, _, h => absurd ((h x).mp List.mem_cons_self) (by simp)
  | x :: l, y :: m, h1, h2, h => by
    obtain ⟨a1, a2⟩ := List.pairwise_cons.mp h1
    obtain ⟨b1, b2⟩ := List.pairwise_cons.mp h2
    have e : x = y := by
      rcases List.mem_cons.mp ((h x).mp List.mem_cons_self) with e | hx
      · exact e
      rcases List.mem_cons.mp ((h y).mpr List.mem_cons_self) with e | hy
      · exact e.symm
      · exact absurd (a1 y hy) (asy _ _ (b1 x hx))
    subst e
    congr 1
    refine asc_ext irr asy a2 b2 fun z => ⟨fun hz => ?_, fun hz => ?_⟩
    · rcases List.mem_cons.mp ((h z).mp (List.mem_cons_of_mem _ hz)) with e | q
      · subst e; exact absurd (a1 z hz) (irr z)
      · exact q
    · rcases List.mem_cons.mp ((h z).mpr (List.mem_cons_of_mem _ hz)) with e | q
      · subst e; exact absurd (b1 z hz) (irr z)
      · exact q
theorem asc_eq {l m : List Int} (h1 : l.Pairwise (· < ·)) (h2 : m.Pairwise (· < ·)) (h : ∀ x, x ∈ l ↔ x ∈ m) : l = m :=
  asc_ext (fun a h => by omega) (fun a b h h' => by omega) h1 h2 h

/-! ### equivalences of the points below n -/
structure Eqv (n : Int) (R : Rel) : Prop where
  dom : ∀ {x y}, R x y → 0 ≤ x ∧ x < n
  rfl : ∀ {x}, 0 ≤ x → x < n → R x x
  sym : ∀ {x y}, R x y → R y x
  trn : ∀ {x y z}, R x y → R y z → R x z
theorem Eqv.dom2 {n : Int} {R : Rel} (e : Eqv n R) {x y : Int} (h : R x y) : 0 ≤ y ∧ y < n := e.dom (e.sym h)
/-- the least equivalence that joins what B joins -/
inductive Gen (n : Int) (B : Rel) : Rel
  | rfl {x} : 0 ≤ x → x < n → Gen n B x x
  | base {x y} : B x y → 0 ≤ x → x < n → 0 ≤ y → y < n → Gen n B x y
  | sym {x y} : Gen n B x y → Gen n B y x
  | trn {x y z} : Gen n B x y → Gen n B y z → Gen n B x z
theorem Gen.dom12 {n : Int} {B : Rel} {x y : Int} (h : Gen n B x y) : (0 ≤ x ∧ x < n) ∧ 0 ≤ y ∧ y < n := by
  induction h with
  | rfl a b => exact ⟨⟨a, b⟩, a, b⟩
  | base _ a b c d => exact ⟨⟨a, b⟩, c, d⟩
  | sym _ ih => exact ⟨ih.2, ih.1⟩
  | trn _ _ i j => exact ⟨i.1, j.2⟩
theorem gen_eqv (n : Int) (B : Rel) : Eqv n (Gen n B) := ⟨fun h => h.dom12.1, .rfl, .sym, .trn⟩
theorem Gen.least {n : Int} {B S : Rel} (e : Eqv n S) (h : ∀ x y, B x y → 0 ≤ x → x < n → 0 ≤ y → y < n → S x y) {x y : Int} (g : Gen n B x y) : S x y := by
  induction g with
  | rfl a b => exact e.rfl a b
  | base h' a b c d => exact h _ _ h' a b c d
  | sym _ ih => exact e.sym ih
  | trn _ _ i j => exact e.trn i j
theorem Gen.mono {n : Int} {B C : Rel} (h : ∀ x y, B x y → 0 ≤ x → x < n → 0 ≤ y → y < n → Gen n C x y) {x y : Int} (g : Gen n B x y) : Gen n C x y := g.least (gen_eqv n C) h
theorem rel_ext {R S : Rel} (h : ∀ x y, R x y ↔ S x y) : R = S := funext fun x => funext fun y => propext (h x y)
theorem gen_eq {n : Int} {B C : Rel} (h1 : ∀ x y, B x y → 0 ≤ x → x < n → 0 ≤ y → y < n → Gen n C x y) (h2 : ∀ x y, C x y → 0 ≤ x → x < n → 0 ≤ y → y < n → Gen n B x y) : Gen n B = Gen n C :=
  rel_ext fun x y => ⟨Gen.mono h1, Gen.mono h2⟩
theorem gen_self {n : Int} {R : Rel} (e : Eqv n R) : Gen n R = R := rel_ext fun x y => ⟨Gen.least e fun _ _ h _ _ _ _ => h, fun h => .base h (e.dom h).1 (e.dom h).2 (e.dom2 h).1 (e.dom2 h).2⟩

/-! ### blocks -/
noncomputable def cls (n : Int) (R : Rel) (x : Int) : List Int := (rng n).filter fun y => decide (R x y)
def Rep (R : Rel) (x : Int) : Prop := ∀ y, R x y → x ≤ y
noncomputable def blocks (n : Int) (R : Rel) : List (List Int) := ((rng n).filter fun x => decide (Rep R x)).map (cls n R)
abbrev Asc (b : List Int) : Prop := b.Pairwise (· < ·)
variable {n : Int} {R S : Rel}
theorem asc_cls {x : Int} : Asc (cls n R x) := asc_rng.filter _
theorem mem_cls (e : Eqv n R) {x y : Int} : y ∈ cls n R x ↔ R x y := by
  unfold cls
  rw [List.mem_filter, mem_rng, decide_eq_true_eq]
  exact ⟨fun h => h.2, fun h => ⟨e.dom2 h, h⟩⟩
theorem cls_eq (e : Eqv n R) {x y : Int} (h : R x y) : cls n R x = cls n R y :=
  asc_eq asc_cls asc_cls fun z => by rw [mem_cls e, mem_cls e]; exact ⟨fun g => e.trn (e.sym h) g, fun g => e.trn h g⟩
theorem rep_ex (e : Eqv n R) {x : Int} (h0 : 0 ≤ x) (h1 : x < n) : ∃ r, R x r ∧ Rep R r := by
  cases hc : cls n R x with
  | nil => have := (mem_cls e).mpr (e.rfl h0 h1); rw [hc] at this; cases this
  | cons r t =>
    have hr : R x r := (mem_cls e).mp (by rw [hc]; exact List.mem_cons_self)
    refine ⟨r, hr, fun y hy => ?_⟩
    have hm : y ∈ cls n R x := (mem_cls e).mpr (e.trn hr hy)
    have ha : Asc (r :: t) := hc ▸ asc_cls
    rw [hc] at hm
    rcases List.mem_cons.mp hm with q | q
    · omega
    · have := (List.pairwise_cons.mp ha).1 y q; omega
theorem rep_cls (e : Eqv n R) {r : Int} (h0 : 0 ≤ r) (h1 : r < n) (h : Rep R r) : ∃ t, cls n R r = r :: t := by
  cases hc : cls n R r with
  | nil => have := (mem_cls e).mpr (e.rfl h0 h1); rw [hc] at this; cases this
  | cons s t =>
    have hs : R r s := (mem_cls e).mp (by rw [hc]; exact List.mem_cons_self)
    have ha : Asc (s :: t) := hc ▸ asc_cls
    have hm : r ∈ s :: t := hc ▸ (mem_cls e).mpr (e.rfl h0 h1)
    have h2 := h s hs
    rcases List.mem_cons.mp hm with q | q
    · exact ⟨t, by rw [q]⟩
    · have := (List.pairwise_cons.mp ha).1 r q; omega
theorem mem_blocks (e : Eqv n R) {b : List Int} : b ∈ blocks n R ↔ ∃ x, 0 ≤ x ∧ x < n ∧ b = cls n R x := by
  unfold blocks
  rw [List.mem_map]
  constructor
  · rintro ⟨r, h, rfl⟩
    have := List.mem_filter.mp h
    exact ⟨r, (mem_rng.mp this.1).1, (mem_rng.mp this.1).2, rfl⟩
  · rintro ⟨x, h0, h1, rfl⟩
    obtain ⟨r, hr, hp⟩ := rep_ex e h0 h1
    exact ⟨r, List.mem_filter.mpr ⟨mem_rng.mpr (e.dom2 hr), by simpa using hp⟩, (cls_eq e hr).symm⟩
theorem lt_heads {a b : Int} {s t : List Int} (h : a < b) : a :: s < b :: t := List.Lex.rel h
theorem asc_blocks (e : Eqv n R) : (blocks n R).Pairwise (· < ·) := by
  unfold blocks
  rw [List.pairwise_map]
  refine (asc_rng.filter _).imp_of_mem fun {a b} ha hb h => ?_
  obtain ⟨ha, pa⟩ := List.mem_filter.mp ha
  obtain ⟨hb, pb⟩ := List.mem_filter.mp hb
  obtain ⟨s, es⟩ := rep_cls e (mem_rng.mp ha).1 (mem_rng.mp ha).2 (by simpa using pa)
  obtain ⟨t, et⟩ := rep_cls e (mem_rng.mp hb).1 (mem_rng.mp hb).2 (by simpa using pb)
  rw [es, et]
  exact lt_heads h
theorem nodup_blocks (e : Eqv n R) : (blocks n R).Nodup := (asc_blocks e).imp fun {a b} h q => by subst q; exact List.lt_irrefl _ h
/-- a list of blocks, in any order -/
structure Part (n : Int) (R : Rel) (l : List (List Int)) : Prop where
  nd : l.Nodup
  asc : ∀ b ∈ l, Asc b
  rel : ∀ b ∈ l, ∃ x, 0 ≤ x ∧ x < n ∧ ∀ y, y ∈ b ↔ R x y
  all : ∀ x, 0 ≤ x → x < n → ∃ b ∈ l, x ∈ b
theorem part_blocks (e : Eqv n R) : Part n R (blocks n R) := by
  refine ⟨nodup_blocks e, fun b hb => ?_, fun b hb => ?_, fun x h0 h1 => ?_⟩
  · obtain ⟨x, h0, h1, rfl⟩ := (mem_blocks e).mp hb
    exact asc_cls
  · obtain ⟨x, h0, h1, rfl⟩ := (mem_blocks e).mp hb
    exact ⟨x, h0, h1, fun y => mem_cls e⟩
  · exact ⟨cls n R x, (mem_blocks e).mpr ⟨x, h0, h1, rfl⟩, (mem_cls e).mpr (e.rfl h0 h1)⟩
theorem Part.mem (e : Eqv n R) {l : List (List Int)} (p : Part n R l) {b : List Int} : b ∈ l ↔ ∃ x, 0 ≤ x ∧ x < n ∧ b = cls n R x := by
  have eqc : ∀ b ∈ l, ∀ x, x ∈ b → b = cls n R x := fun b hb x hx => by
    obtain ⟨z, h0, h1, hz⟩ := p.rel b hb
    refine asc_eq (p.asc b hb) asc_cls fun y => ?_
    rw [hz y, mem_cls e]
    have := (hz x).mp hx
    exact ⟨fun g => e.trn (e.sym this) g, fun g => e.trn this g⟩
  constructor
  · intro hb
    obtain ⟨x, h0, h1, hx⟩ := p.rel b hb
    exact ⟨x, h0, h1, eqc b hb x ((hx x).mpr (e.rfl h0 h1))⟩
  · rintro ⟨x, h0, h1, rfl⟩
    obtain ⟨b, hb, hx⟩ := p.all x h0 h1
    rw [← eqc b hb x hx]
    exact hb
theorem Part.perm (e : Eqv n R) {l : List (List Int)} (p : Part n R l) : l.Perm (blocks n R) :=
  (List.perm_ext_iff_of_nodup p.nd (nodup_blocks e)).mpr fun b => by rw [p.mem e, mem_blocks e]
theorem lex_asy {a b : List Int} (h : a < b) : ¬ b < a := fun h' => List.lt_irrefl _ (List.lt_trans h h')
theorem Part.sorted (e : Eqv n R) {l : List (List Int)} (p : Part n R l) (h : l.Pairwise (· < ·)) : l = blocks n R :=
  asc_ext (fun a => List.lt_irrefl a) (fun a b h => lex_asy h) h (asc_blocks e) fun b => by rw [p.mem e, mem_blocks e]
/-- the relation of a list of blocks -/
def relB (l : List (List Int)) : Rel := fun x y => ∃ b ∈ l, x ∈ b ∧ y ∈ b
theorem relB_blocks (e : Eqv n R) : relB (blocks n R) = R := rel_ext fun x y => by
  constructor
  · rintro ⟨b, hb, hx, hy⟩
    obtain ⟨z, h0, h1, rfl⟩ := (mem_blocks e).mp hb
    exact e.trn (e.sym ((mem_cls e).mp hx)) ((mem_cls e).mp hy)
  · intro h
    exact ⟨cls n R x, (mem_blocks e).mpr ⟨x, (e.dom h).1, (e.dom h).2, rfl⟩, (mem_cls e).mpr (e.rfl (e.dom h).1 (e.dom h).2), (mem_cls e).mpr h⟩
theorem blocks_inj (e : Eqv n R) (f : Eqv n S) (h : blocks n R = blocks n S) : R = S := by
  rw [← relB_blocks e, h, relB_blocks f]
end M

/-! M2: data that stand for points, blocks, diagrams. -/
namespace M
open Classical Z PySem
abbrev DD := Z.D
/-! ### order of data -/
def dlt (a b : DD) : Bool := PySem.W.dataLt a.py b.py
theorem dlt_irr (a : DD) : dlt a a = false := PyProof.Rows.lex_irrefl _
theorem dlt_asy {a b : DD} (h : dlt a b = true) : dlt b a = false := by
  cases h' : dlt b a with
  | false => rfl
  | true =>
    have := PyProof.Rows.lex_trans _ _ _ h h'
    have e := dlt_irr a
    unfold dlt PySem.W.dataLt at e
    rw [this] at e; cases e
theorem sort_le (l : List DD) : sortD l = l.mergeSort fun a b => !dlt b a := rfl
theorem pw_sort (l : List DD) : (sortD l).Pairwise fun a b => (!dlt b a) = true := by
  rw [sort_le]
  refine List.pairwise_mergeSort (fun a b c h1 h2 => ?_) (fun a b => ?_) l
  · simp only [Bool.not_eq_true'] at h1 h2 ⊢
    cases h : dlt c a with
    | false => rfl
    | true =>
      rcases PyProof.Rows.lex_negTrans _ (PySem.W.keyToks b.py) _ h with q | q
      · have : dlt c b = true := q
        rw [h2] at this; cases this
      · have : dlt b a = true := q
        rw [h1] at this; cases this
  · cases h : dlt b a with
    | false => simp
    | true => simp [dlt_asy h]
theorem pw_mem {α : Type} {r : α → α → Prop} : ∀ {l : List α}, l.Pairwise r → ∀ {a b}, a ∈ l → b ∈ l → a = b ∨ r a b ∨ r b a
  | [], _, _, _, h, _ => by cases h
  | x :: l, h, a, b, ha, hb => by
    obtain ⟨h1, h2⟩ := List.pairwise_cons.mp h
    rcases List.mem_cons.mp ha with rfl | ha
    · rcases List.mem_cons.mp hb with e | hb
      · exact .inl e.symm
      · exact .inr (.inl (h1 b hb))
    · rcases List.mem_cons.mp hb with e | hb
      · exact .inr (.inr (e ▸ h1 a ha))
      · exact pw_mem h2 ha hb
theorem sort_of {l s : List DD} (p : l.Perm s) (h : s.Pairwise fun a b => dlt a b = true) : sortD l = s := by
  have ps : (sortD l).Perm s := (List.mergeSort_perm l _).trans p
  refine List.Perm.eq_of_pairwise (le := fun a b => (!dlt b a) = true) (fun a b ha hb h1 h2 => ?_) (pw_sort l) (h.imp fun {a b} q => by simp [dlt_asy q]) ps
  rcases pw_mem h (ps.subset ha) hb with q | q | q
  · exact q
  · rw [q] at h2; cases h2
  · rw [q] at h1; cases h1
theorem sort_same {s : List DD} (h : s.Pairwise fun a b => dlt b a = false) : sortD s = s := by
  rw [sort_le]
  exact List.mergeSort_of_pairwise (h.imp fun {a b} q => by simp [q])
theorem sort_asc {s : List DD} (h : s.Pairwise fun a b => dlt a b = true) : sortD s = s := sort_of (List.Perm.refl _) h
theorem dlt_int (a b : Int) : dlt (.int a) (.int b) = decide (a < b) := PySem.W.dataLt_int a b

/-! ### encodings -/
def dn (i : Int) : DD := .int i
abbrev dI (b : List Int) : DD := .tup (b.map .int)
abbrev dB (bs : List (List Int)) : DD := .tup (bs.map dI)
theorem pys_map {α : Type} (f : α → DD) : ∀ l : List α, D.pys (l.map f) = l.map fun x => (f x).py
  | [] => rfl
  | x :: l => by
    show _ :: _ = _ :: _
    rw [← pys_map f l]
theorem py_dI (b : List Int) : (dI b).py = .tuple (b.map .int) := by
  show PyData.tuple (D.pys (b.map .int)) = _
  rw [pys_map]; rfl
theorem dlt_dI (a b : List Int) : dlt (dI a) (dI b) = decide (a < b) := by
  unfold dlt
  rw [py_dI, py_dI, PySem.W.dataLt_tuple]
  exact PySem.W.dataLt_ints a b
theorem shs_map {α : Type} {f : α → DD} {n : Nat} : ∀ {l : List α}, (∀ x ∈ l, (f x).sh n = true) → D.shs n (l.map f) = true
  | [], _ => rfl
  | x :: l, h => by
    show (D.sh n (f x) && D.shs n (l.map f)) = true
    rw [h x List.mem_cons_self, shs_map fun y hy => h y (List.mem_cons_of_mem _ hy)]
    rfl
theorem sh_int (n : Nat) (i : Int) : D.sh n (.int i) = true := by cases n <;> rfl
theorem sh_bl (n : Nat) (i : Bool) : D.sh n (.bl i) = true := by cases n <;> rfl
theorem sh_non (n : Nat) : D.sh n .non = true := by cases n <;> rfl
theorem sh_dI (n : Nat) (b : List Int) : D.sh (n + 1) (dI b) = true := shs_map fun x _ => sh_int n x
theorem sh_dB (n : Nat) (b : List (List Int)) : D.sh (n + 2) (dB b) = true := shs_map fun x _ => sh_dI n x
theorem eqs_map {α : Type} [DecidableEq α] {f : α → DD} (h : ∀ x y, D.eq (f x) (f y) = decide (x = y)) : ∀ l m : List α, D.eqs (l.map f) (m.map f) = decide (l = m)
  | [], [] => rfl
  | [], _ :: _ => rfl
  | _ :: _, [] => rfl
  | x :: l, y :: m => by
    show (D.eq (f x) (f y) && D.eqs (l.map f) (m.map f)) = _
    rw [h, eqs_map h l m]
    by_cases h1 : x = y <;> by_cases h2 : l = m <;> simp [h1, h2]
theorem eq_int (a b : Int) : D.eq (.int a) (.int b) = decide (a = b) := rfl
theorem eq_dI (a b : List Int) : D.eq (dI a) (dI b) = decide (a = b) := eqs_map eq_int a b
theorem eq_dB (a b : List (List Int)) : D.eq (dB a) (dB b) = decide (a = b) := eqs_map eq_dI a b
theorem mem_map {α : Type} [DecidableEq α] {f : α → DD} (h : ∀ x y, D.eq (f x) (f y) = decide (x = y)) (x : α) (l : List α) : memD (f x) (l.map f) = decide (x ∈ l) := by
  unfold memD
  rw [List.any_map]
  by_cases hx : x ∈ l
  · simp only [hx, decide_true, List.any_eq_true, Function.comp]
    exact ⟨x, hx, by rw [h]; simp⟩
  · simp only [hx, decide_false, List.any_eq_false, Function.comp]
    intro y hy
    rw [h]
    simp only [decide_eq_true_eq]
    intro e
    subst e
    exact hx hy
theorem mem_ints (x : Int) (l : List Int) : memD (.int x) (l.map .int) = decide (x ∈ l) := mem_map eq_int x l
theorem ints_of (l : List Int) : intsOf (l.map .int) = some l := by
  induction l with
  | nil => rfl
  | cons x l ih =>
    show (intsOf (l.map .int)).map (x :: ·) = _
    rw [ih]; rfl
/-- rows of whole numbers may be sorted -/
theorem all_map {α : Type} {f : α → DD} {p : DD → Bool} {l : List α} (h : ∀ x ∈ l, p (f x) = true) : (l.map f).all p = true := by
  rw [List.all_map, List.all_eq_true]
  exact h
theorem sortable_ints {l : List Int} (h : l.length ≤ 16777216) : sortable (l.map .int) = true := by
  unfold sortable
  have e1 : ((l.map Z.D.int).all fun x => (l.map Z.D.int).all fun y => PySem.W.alike x.py y.py) = true := all_map fun x _ => all_map fun y _ => rfl
  have e2 : (l.map Z.D.int).all plainD = true := all_map fun x _ => rfl
  have e3 : D.shs 60 (l.map Z.D.int) = true := shs_map fun x _ => sh_int _ x
  have e4 : (l.length ≤ LIM) := h
  rw [e1, e2, e3]
  simp [e4]
theorem sortable_dI {l : List (List Int)} (h : l.length ≤ 16777216) (hn : ∀ b ∈ l, b ≠ []) : sortable (l.map dI) = true := by
  unfold sortable
  have e1 : ((l.map dI).all fun x => (l.map dI).all fun y => PySem.W.alike x.py y.py) = true := all_map fun x _ => all_map fun y _ => by
    rw [py_dI, py_dI, PySem.W.alike]
    exact PySem.W.alike_ints x y
  have e2 : (l.map dI).all tupNe = true := all_map fun x hx => by
    cases x with
    | nil => exact absurd rfl (hn _ hx)
    | cons => rfl
  have e3 : D.shs 60 (l.map dI) = true := shs_map fun x _ => sh_dI _ x
  have e4 : (l.length ≤ LIM) := h
  rw [e1, e2, e3]
  simp [e4]
/-- sorted, of whole numbers that do not come twice -/
theorem sort_ints {l s : List Int} (nd : l.Nodup) (h : Asc s) (hm : ∀ x, x ∈ l ↔ x ∈ s) : sortD (l.map .int) = s.map .int := by
  refine sort_of (((List.perm_ext_iff_of_nodup nd (nodup_of_asc h)).mpr hm).map _) ?_
  rw [List.pairwise_map]
  exact h.imp fun {a b} q => by rw [dlt_int]; simpa using q
/-! ### diagrams -/
noncomputable def dg (m k : Int) (R : Rel) : DD := .tup [.int m, .int k, dB (blocks (m + k) R)]
variable {n : Int} {R S : Rel} {l : List (List Int)}
theorem asc_dB (e : Eqv n R) : ((blocks n R).map dI).Pairwise fun a b => dlt a b = true := by
  rw [List.pairwise_map]
  exact (asc_blocks e).imp fun {a b} q => by rw [dlt_dI]; simpa using q
theorem Part.sort (e : Eqv n R) (p : Part n R l) : sortD (l.map dI) = (blocks n R).map dI := sort_of ((p.perm e).map _) (asc_dB e)
theorem Part.ne (e : Eqv n R) (p : Part n R l) : ∀ b ∈ l, b ≠ [] := fun b hb h => by
  obtain ⟨x, h0, h1, hx⟩ := p.rel b hb
  have := (hx x).mpr (e.rfl h0 h1)
  rw [h] at this; cases this
theorem Part.len (e : Eqv n R) (p : Part n R l) : l.length ≤ n.toNat := by
  rw [(p.perm e).length_eq]
  unfold blocks
  rw [List.length_map]
  exact Nat.le_trans (List.length_filter_le _ _) (by rw [len_rng]; exact Nat.le_refl _)
theorem Part.sortable (e : Eqv n R) (p : Part n R l) (h : n ≤ 16777216) : Z.sortable (l.map dI) = true := sortable_dI (by have := p.len e; omega) (p.ne e)
theorem sh_dg (n : Nat) (m k : Int) (R : Rel) : D.sh (n + 3) (dg m k R) = true := by
  show (D.sh (n + 2) (.int m) && (D.sh (n + 2) (.int k) && (D.sh (n + 2) (dB (blocks (m + k) R)) && true))) = true
  rw [sh_int, sh_int, sh_dB]; rfl
theorem eq_dg {m k m' k' : Int} (e : Eqv (m + k) R) (f : Eqv (m' + k') S) : D.eq (dg m k R) (dg m' k' S) = decide (m = m' ∧ k = k' ∧ R = S) := by
  show (decide (m = m') && (decide (k = k') && (D.eq (dB (blocks (m + k) R)) (dB (blocks (m' + k') S)) && true))) = _
  rw [eq_dB]
  by_cases h1 : m = m'
  · by_cases h2 : k = k'
    · subst h1 h2
      by_cases h3 : R = S
      · simp [h3]
      · have : blocks (m + k) R ≠ blocks (m + k) S := fun q => h3 (blocks_inj e f q)
        simp [h3, this]
    · simp [h2]
  · simp [h1]
end M

/-! E1: how a term is run by hand. -/
namespace M
open Classical Z
section
variable {T : Nat → Fn} {G : Nat → Option DD}
theorem runFd_eq {d : Fd} {p : Option (List DD)} {ds : List DD} (h1 : p.isSome = d.io) (h2 : ds.length = d.np) : runFd T G d p ds = finF d.io (xss T G d.body (entryE d p ds)) := if_pos ⟨h1, h2⟩
/-! ### slots -/
theorem wipe_get {e : Env} : ∀ {vs : List Nat} {j : Nat}, (wipeE e vs)[j]? = if j ∈ vs ∧ j < e.length then some .no else e[j]?
  | [], j => by simp [wipeE]
  | v :: vs, j => by
    have hl : ∀ vs : List Nat, (wipeE e vs).length = e.length := fun vs => by
      induction vs with
      | nil => rfl
      | cons v vs ih => show ((wipeE e vs).set v .no).length = _; rw [List.length_set, ih]
    show ((wipeE e vs).set v .no)[j]? = _
    rw [List.getElem?_set]
    by_cases h : v = j
    · subst h
      by_cases hj : v < e.length
      · simp [hl, hj]
      · simp [hl, hj]
    · rw [if_neg h, wipe_get]
      have : (j ∈ v :: vs ∧ j < e.length) ↔ (j ∈ vs ∧ j < e.length) := by
        constructor
        · rintro ⟨h1, h2⟩
          rcases List.mem_cons.mp h1 with q | q
          · exact absurd q.symm h
          · exact ⟨q, h2⟩
        · exact fun ⟨a, b⟩ => ⟨List.mem_cons_of_mem _ a, b⟩
      simp only [this]
theorem back_get {e f : Env} (hl : f.length = e.length) : ∀ {vs : List Nat} {j : Nat}, (backE e vs f)[j]? = if j ∈ vs then e[j]? else f[j]?
  | [], j => by simp [backE]
  | v :: vs, j => by
    have hl' : ∀ vs : List Nat, (backE e vs f).length = e.length := fun vs => by
      induction vs with
      | nil => exact hl
      | cons v vs ih => show ((backE e vs f).set v _).length = _; rw [List.length_set, ih]
    show ((backE e vs f).set v (e.getD v .no))[j]? = _
    rw [List.getElem?_set]
    by_cases h : v = j
    · subst h
      by_cases hj : v < e.length
      · simp [hl', hj]
      · simp [hl', hj]
    · rw [if_neg h, back_get hl]
      have : (j ∈ v :: vs) ↔ (j ∈ vs) := by
        constructor
        · intro h1
          rcases List.mem_cons.mp h1 with q | q
          · exact absurd q.symm h
          · exact q
        · exact fun a => List.mem_cons_of_mem _ a
      simp only [this]
theorem back_wipe {e f : Env} {vs : List Nat} (h : wipeE f vs = wipeE e vs) : backE e vs f = e := by
  have hl : ∀ (e : Env) (vs : List Nat), (wipeE e vs).length = e.length := fun e vs => by
    induction vs with
    | nil => rfl
    | cons v vs ih => show ((wipeE e vs).set v .no).length = _; rw [List.length_set, ih]
  have hfe : f.length = e.length := by rw [← hl f vs, h, hl e vs]
  refine List.ext_getElem? fun j => ?_
  rw [back_get hfe]
  by_cases hj : j ∈ vs
  · rw [if_pos hj]
  · rw [if_neg hj]
    have := congrArg (·[j]?) h
    simp only [wipe_get] at this
    simpa [hj] using this
/-! ### comprehensions -/
def body1 (T : Nat → Fn) (G : Nat → Option DD) (elt : E) (tg : Tg) (c : Oe) (d : DD) (W : Env) : R (List DD) :=
  (R.lift (bindTg tg d W) W).bind fun e3 _ => (evc T G c e3).bind fun k e4 => if k then (data (ev T G elt e4)).bind fun y e5 => .ok [y] e5 else .ok [] e4
theorem turns_ok {α : Type} {f : DD → Env → R (List DD)} {enc : α → DD} {g : α → List DD} {I : Env → Prop} : ∀ {xs : List α} {e : Env}, I e → (∀ x ∈ xs, ∀ e, I e → ∃ e', f (enc x) e = .ok (g x) e' ∧ I e') → ∃ e', turns f (xs.map enc) e = .ok (xs.flatMap g) e' ∧ I e'
  | [], e, h, _ => ⟨e, rfl, h⟩
  | x :: xs, e, h, hs => by
    obtain ⟨e1, h1, i1⟩ := hs x List.mem_cons_self e h
    obtain ⟨e2, h2, i2⟩ := turns_ok (xs := xs) i1 fun y hy => hs y (List.mem_cons_of_mem _ hy)
    refine ⟨e2, ?_, i2⟩
    show (f (enc x) e).bind (fun ys e1 => (turns f (xs.map enc) e1).bind fun zs e2 => .ok (ys ++ zs) e2) = _
    rw [h1]
    show (turns f (xs.map enc) e1).bind (fun zs e2 => .ok (g x ++ zs) e2) = _
    rw [h2]
    rfl
theorem ev_cm1 {e e1 : Env} {elt : E} {tg : Tg} {it : It} {c : Oe} {vs : List Nat} {α : Type} (xs : List α) (enc : α → DD) (g : α → List DD) (hit : evi T G it e = .ok (xs.map enc) e1)
    (hb : ∀ x ∈ xs, ∃ e4, body1 T G elt tg c (enc x) (wipeE e1 vs) = .ok (g x) e4 ∧ wipeE e4 vs = wipeE e1 vs) :
    ev T G (.cm1 elt tg it c vs) e = .ok (.own false (xs.flatMap g)) e1 := by
  rw [ev, hit]
  show R.bind (shut (turns _ (xs.map enc) e1)) _ = _
  obtain ⟨e6, h1, h2⟩ := turns_ok (f := fun d e2 => (R.lift (bindTg tg d (wipeE e2 vs)) e2).bind fun e3 _ => (evc T G c e3).bind fun k e4 => if k then (data (ev T G elt e4)).bind fun y e5 => .ok [y] e5 else .ok [] e4)
    (enc := enc) (g := g) (I := fun e => wipeE e vs = wipeE e1 vs) (xs := xs) (e := e1) rfl fun x hx e he => by
      obtain ⟨e4, b1, b2⟩ := hb x hx
      refine ⟨e4, ?_, b2⟩
      rw [he]
      unfold body1 at b1
      cases hq : bindTg tg (enc x) (wipeE e1 vs) with
      | none => rw [hq] at b1; cases b1
      | some e3 =>
        rw [hq] at b1
        exact b1
  rw [h1]
  show R.ok _ (backE e1 vs e6) = _
  rw [back_wipe h2]
theorem flatMap_one {α β : Type} (h : α → β) (xs : List α) : (xs.flatMap fun x => [h x]) = xs.map h := by
  induction xs with
  | nil => rfl
  | cons x xs ih => rw [List.flatMap_cons, ih]; rfl
theorem flatMap_if {α β : Type} (p : α → Prop) [DecidablePred p] (h : α → β) (xs : List α) : (xs.flatMap fun x => if p x then [h x] else []) = (xs.filter fun x => decide (p x)).map h := by
  induction xs with
  | nil => rfl
  | cons x xs ih =>
    rw [List.flatMap_cons, ih]
    by_cases q : p x <;> simp [q]
/-- a term behind a binding -/
def evO (T : Nat → Fn) (G : Nat → Option DD) (o : Option Env) (a : E) : R Cl := match o with
  | some e => ev T G a e
  | none => .no
theorem evO_some {e : Env} {a : E} : evO T G (some e) a = ev T G a e := rfl
/-- [elt for x in it] -/
theorem ev_map {e e1 : Env} {elt : E} {tg : Tg} {it : It} {vs : List Nat} {α : Type} (xs : List α) (enc : α → DD) (h : α → DD) (hit : evi T G it e = .ok (xs.map enc) e1)
    (hb : ∀ x ∈ xs, ∃ e4, data (evO T G (bindTg tg (enc x) (wipeE e1 vs)) elt) = .ok (h x) e4 ∧ wipeE e4 vs = wipeE e1 vs) :
    ev T G (.cm1 elt tg it .non vs) e = .ok (.own false (xs.map h)) e1 := by
  rw [ev_cm1 xs enc (fun x => [h x]) hit fun x hx => ?_, flatMap_one]
  obtain ⟨e4, h2, h3⟩ := hb x hx
  refine ⟨e4, ?_, h3⟩
  unfold body1
  cases h1 : bindTg tg (enc x) (wipeE e1 vs) with
  | none => rw [h1] at h2; cases h2
  | some e3 =>
    rw [h1] at h2
    show (data (ev T G elt e3)).bind _ = _
    rw [show data (ev T G elt e3) = .ok (h x) e4 from h2]
    rfl
/-- [elt for x in it if c] -/
theorem ev_filter {e e1 : Env} {elt : E} {tg : Tg} {it : It} {c : E} {vs : List Nat} {α : Type} (xs : List α) (enc : α → DD) (p : α → Prop) [DecidablePred p] (h : α → DD) (hit : evi T G it e = .ok (xs.map enc) e1)
    (hb : ∀ x ∈ xs, ∃ e4, truth (data (evO T G (bindTg tg (enc x) (wipeE e1 vs)) c)) = .ok (decide (p x)) e4 ∧ wipeE e4 vs = wipeE e1 vs ∧ (p x → ∃ e5, data (ev T G elt e4) = .ok (h x) e5 ∧ wipeE e5 vs = wipeE e1 vs)) :
    ev T G (.cm1 elt tg it (.som c) vs) e = .ok (.own false ((xs.filter fun x => decide (p x)).map h)) e1 := by
  rw [ev_cm1 xs enc (fun x => if p x then [h x] else []) hit fun x hx => ?_, flatMap_if]
  obtain ⟨e4, h2, h3, h4⟩ := hb x hx
  cases h1 : bindTg tg (enc x) (wipeE e1 vs) with
  | none => rw [h1] at h2; cases h2
  | some e3 =>
  rw [h1] at h2
  by_cases q : p x
  · obtain ⟨e5, h5, h6⟩ := h4 q
    refine ⟨e5, ?_, h6⟩
    unfold body1
    rw [h1]
    show (evc T G (.som c) e3).bind _ = _
    rw [evc, show truth (data (ev T G c e3)) = _ from h2]
    show (if decide (p x) = true then (data (ev T G elt e4)).bind (fun y e5 => .ok [y] e5) else .ok [] e4) = _
    rw [if_pos (by simpa using q), h5, if_pos q]
    rfl
  · refine ⟨e4, ?_, h3⟩
    unfold body1
    rw [h1]
    show (evc T G (.som c) e3).bind _ = _
    rw [evc, show truth (data (ev T G c e3)) = _ from h2]
    simp [R.bind, q]
/-- the same, where the rows come without a change -/
theorem ev_mapS {e : Env} {elt : E} {tg : Tg} {it : It} {vs : List Nat} {α : Type} (xs : List α) (enc : α → DD) (h : α → DD) (hit : evi T G it e = .ok (xs.map enc) e)
    (hb : ∀ x ∈ xs, ∃ e4, data (evO T G (bindTg tg (enc x) (wipeE e vs)) elt) = .ok (h x) e4 ∧ wipeE e4 vs = wipeE e vs) :
    ev T G (.cm1 elt tg it .non vs) e = .ok (.own false (xs.map h)) e := ev_map xs enc h hit hb
theorem ev_filterS {e : Env} {elt : E} {tg : Tg} {it : It} {c : E} {vs : List Nat} {α : Type} (xs : List α) (enc : α → DD) (p : α → Prop) [DecidablePred p] (h : α → DD) (hit : evi T G it e = .ok (xs.map enc) e)
    (hb : ∀ x ∈ xs, ∃ e4, truth (data (evO T G (bindTg tg (enc x) (wipeE e vs)) c)) = .ok (decide (p x)) e4 ∧ wipeE e4 vs = wipeE e vs ∧ (p x → ∃ e5, data (ev T G elt e4) = .ok (h x) e5 ∧ wipeE e5 vs = wipeE e vs)) :
    ev T G (.cm1 elt tg it (.som c) vs) e = .ok (.own false ((xs.filter fun x => decide (p x)).map h)) e := ev_filter xs enc p h hit hb
theorem wipe_len (e : Env) : ∀ vs : List Nat, (wipeE e vs).length = e.length
  | [] => rfl
  | v :: vs => by show ((wipeE e vs).set v .no).length = _; rw [List.length_set, wipe_len e vs]
theorem back_of {e f W : Env} {vs : List Nat} (h : wipeE f vs = W) (hl : W.length = e.length) : backE e vs f = backE e vs W := by
  have hf : f.length = e.length := by rw [← wipe_len f vs, h, hl]
  refine List.ext_getElem? fun j => ?_
  rw [back_get hf, back_get hl]
  by_cases hj : j ∈ vs
  · rw [if_pos hj, if_pos hj]
  · rw [if_neg hj, if_neg hj, ← h, wipe_get, if_neg fun q => hj q.1]
/-- a comprehension that draws -/
theorem ev_cm1X {e e1 : Env} {elt : E} {tg : Tg} {it : It} {c : Oe} {vs : List Nat} {α : Type} (xs : List α) (enc : α → DD) (I : Env → Prop) (P : DD → Prop) (hit : evi T G it e = .ok (xs.map enc) e1) (hI : I (wipeE e1 vs))
    (hb : ∀ x ∈ xs, ∀ W, I W → ∃ zs e4, body1 T G elt tg c (enc x) W = .ok zs e4 ∧ (∀ z ∈ zs, P z) ∧ I (wipeE e4 vs) ∧ zs.length ≤ 1) :
    ∃ ys e6, ev T G (.cm1 elt tg it c vs) e = .ok (.own false ys) (backE e1 vs e6) ∧ (∀ y ∈ ys, P y) ∧ I (wipeE e6 vs) ∧ ys.length ≤ xs.length := by
  have go : ∀ (zs : List α) (e : Env), (∀ z ∈ zs, z ∈ xs) → I (wipeE e vs) → ∃ ys e6, turns (fun d e2 => (R.lift (bindTg tg d (wipeE e2 vs)) e2).bind fun e3 _ => (evc T G c e3).bind fun k e4 => if k then (data (ev T G elt e4)).bind fun y e5 => .ok [y] e5 else .ok [] e4) (zs.map enc) e = .ok ys e6 ∧ (∀ y ∈ ys, P y) ∧ I (wipeE e6 vs) ∧ ys.length ≤ zs.length := by
    intro zs
    induction zs with
    | nil => exact fun e _ h => ⟨[], e, rfl, (fun y hy => nomatch hy), h, Nat.le_refl _⟩
    | cons z zs ih =>
      intro e hz h
      obtain ⟨ws, e4, b1, b2, b3, b4⟩ := hb z (hz z List.mem_cons_self) _ h
      obtain ⟨ys, e6, t1, t2, t3, t4⟩ := ih e4 (fun y hy => hz y (List.mem_cons_of_mem _ hy)) b3
      refine ⟨ws ++ ys, e6, ?_, fun y hy => (List.mem_append.mp hy).elim (b2 y) (t2 y), t3, by rw [List.length_append, List.length_cons]; omega⟩
      rw [List.map_cons]
      unfold body1 at b1
      cases hq : bindTg tg (enc z) (wipeE e vs) with
      | none => rw [hq] at b1; cases b1
      | some e3 =>
        rw [hq] at b1
        show R.bind ((R.lift (bindTg tg (enc z) (wipeE e vs)) e).bind _) _ = _
        rw [hq]
        have b1' : (R.lift (some e3) e).bind (fun e3 _ => (evc T G c e3).bind fun k e4 => if k then (data (ev T G elt e4)).bind fun y e5 => .ok [y] e5 else .ok [] e4) = .ok ws e4 := b1
        rw [b1']
        show R.bind (turns _ (zs.map enc) e4) _ = _
        rw [t1]
        rfl
  obtain ⟨ys, e6, t1, t2, t3, t4⟩ := go xs e1 (fun z hz => hz) hI
  refine ⟨ys, e6, ?_, t2, t3, t4⟩
  rw [ev, hit]
  show R.bind (shut (turns _ (xs.map enc) e1)) _ = _
  rw [t1]
  rfl
/-! ### while -/
theorem whl_ok {c : Env → R Bool} {b : Env → Fl} (I : Nat → Env → Prop) (Dn : Env → Prop) (hs : ∀ n e, I n e → (∃ e1, c e = .ok false e1 ∧ Dn e1) ∨ ∃ e1 e2 m, c e = .ok true e1 ∧ b e1 = .nx e2 ∧ m < n ∧ I m e2) : ∀ (F n : Nat) (e : Env), I n e → n < F → ∃ e', whlL c b F e = .nx e' ∧ Dn e'
  | 0, n, e, _, h => absurd h (Nat.not_lt_zero _)
  | F + 1, n, e, h, hF => by
    rcases hs n e h with ⟨e1, h1, h2⟩ | ⟨e1, e2, m, h1, h2, h3, h4⟩
    · refine ⟨e1, ?_, h2⟩
      show (c e).fl _ = _
      rw [h1]
      rfl
    · obtain ⟨e', g1, g2⟩ := whl_ok I Dn hs F m e2 h4 (by omega)
      refine ⟨e', ?_, g2⟩
      show (c e).fl _ = _
      rw [h1]
      show (b e1).then _ = _
      rw [h2]
      exact g1
/-! ### loops -/
theorem forL_ok {α : Type} {f : DD → Env → Fl} {enc : α → DD} {I : List α → Env → Prop} {xs : List α} {e : Env} (h : I [] e) (hs : ∀ pre x post, xs = pre ++ x :: post → ∀ e, I pre e → ∃ e', f (enc x) e = .nx e' ∧ I (pre ++ [x]) e') : ∃ e', forL f (xs.map enc) e = .nx e' ∧ I xs e' := by
  have go : ∀ (post pre : List α) (e : Env), xs = pre ++ post → I pre e → ∃ e', forL f (post.map enc) e = .nx e' ∧ I xs e' := by
    intro post
    induction post with
    | nil => intro pre e hx hi; rw [List.append_nil] at hx; subst hx; exact ⟨e, rfl, hi⟩
    | cons x post ih =>
      intro pre e hx hi
      obtain ⟨e1, h1, i1⟩ := hs pre x post hx e hi
      obtain ⟨e2, h2, i2⟩ := ih (pre ++ [x]) e1 (by rw [hx, List.append_assoc]; rfl) i1
      refine ⟨e2, ?_, i2⟩
      show (f (enc x) e).then (forL f (post.map enc)) = _
      rw [h1]
      exact h2
  exact go xs [] e rfl h
/-- a loop ahead of what follows -/
theorem for_fin {α : Type} {f : DD → Env → Fl} {enc : α → DD} {xs : List α} {e : Env} {io : Bool} {g : Env → Fl} {r : FR} (I : List α → Env → Prop) (h : I [] e) (hs : ∀ pre x post, xs = pre ++ x :: post → ∀ e, I pre e → ∃ e', f (enc x) e = .nx e' ∧ I (pre ++ [x]) e')
    (hd : ∀ e', I xs e' → finF io (g e') = r) : finF io ((forL f (xs.map enc) e).then g) = r := by
  obtain ⟨e', h1, h2⟩ := forL_ok h hs
  rw [h1]
  exact hd e' h2
/-- .. within another loop -/
theorem for_nx {α : Type} {f : DD → Env → Fl} {enc : α → DD} {xs : List α} {e : Env} {g : Env → Fl} {J : Env → Prop} (I : List α → Env → Prop) (h : I [] e) (hs : ∀ pre x post, xs = pre ++ x :: post → ∀ e, I pre e → ∃ e', f (enc x) e = .nx e' ∧ I (pre ++ [x]) e')
    (hd : ∀ e', I xs e' → ∃ e2, g e' = .nx e2 ∧ J e2) : ∃ e2, (forL f (xs.map enc) e).then g = .nx e2 ∧ J e2 := by
  obtain ⟨e', h1, h2⟩ := forL_ok h hs
  rw [h1]
  exact hd e' h2
/-- what a call gives -/
def Rets (r : FR) (Φ : Cl → List DD → Prop) : Prop := ∃ c q, r = .ok c q ∧ Φ c q
theorem for_rets {α : Type} {f : DD → Env → Fl} {enc : α → DD} {xs : List α} {e : Env} {io : Bool} {g : Env → Fl} {Φ : Cl → List DD → Prop} (I : List α → Env → Prop) (h : I [] e) (hs : ∀ pre x post, xs = pre ++ x :: post → ∀ e, I pre e → ∃ e', f (enc x) e = .nx e' ∧ I (pre ++ [x]) e')
    (hd : ∀ e', I xs e' → Rets (finF io (g e')) Φ) : Rets (finF io ((forL f (xs.map enc) e).then g)) Φ := by
  obtain ⟨e', h1, h2⟩ := forL_ok h hs
  rw [h1]
  exact hd e' h2
/-- a loop whose body may end the def: it gives what it should either way -/
theorem forL_app {f : DD → Env → Fl} : ∀ {xs ys : List DD} {e : Env}, forL f (xs ++ ys) e = (forL f xs e).then (forL f ys)
  | [], ys, e => rfl
  | x :: xs, ys, e => by
    show (f x e).then (forL f (xs ++ ys)) = ((f x e).then (forL f xs)).then (forL f ys)
    cases f x e with
    | nx e' => exact forL_app
    | rt c e' => rfl
    | ex y e' => rfl
    | no => rfl
/-- an exception within -/
theorem for_ex {α : Type} {f : DD → Env → Fl} {enc : α → DD} {xs zs : List α} {y : α} {e : Env} {x : Nat} {g : Env → Fl} (I : List α → Env → Prop) (h : I [] e) (hs : ∀ pre x post, xs = pre ++ x :: post → ∀ e, I pre e → ∃ e', f (enc x) e = .nx e' ∧ I (pre ++ [x]) e')
    (hx : ∀ e', I xs e' → ∃ e2, f (enc y) e' = .ex x e2) : finF false ((forL f ((xs ++ y :: zs).map enc) e).then g) = .ex x [] := by
  obtain ⟨e', h1, h2⟩ := forL_ok h hs
  obtain ⟨e2, h3⟩ := hx e' h2
  rw [List.map_append, forL_app, h1]
  show finF false (((f (enc y) e').then (forL f (zs.map enc))).then g) = _
  rw [h3]
  rfl
/-! ### ranges, places -/
theorem upto_seq : ∀ (c : Nat) (lo : Int), upto c lo 1 = (seqI c lo).map .int
  | 0, _ => rfl
  | c + 1, lo => by
    show _ :: _ = _ :: _
    rw [upto_seq c (lo + 1)]
theorem rngD_one {n : Int} (h1 : -1000000 ≤ n) (h2 : n ≤ 16777216) : rngD [.int n] = some ((rng n).map .int) := by
  show (if small62 n && decide (n ≤ (LIM : Nat)) then some (upto n.toNat 0 1) else none) = _
  have e1 : small62 n = true := by
    unfold small62
    simp only [Bool.and_eq_true, decide_eq_true_eq]
    omega
  have e2 : n ≤ ((LIM : Nat) : Int) := by unfold LIM; omega
  rw [e1, if_pos (by simp [e2]), upto_seq]
  rfl
theorem rngD_two {a n : Int} (h0 : -1000000 ≤ a) (h3 : a ≤ 16777216) (h1 : -1000000 ≤ n) (h2 : n ≤ 8000000) : rngD [.int a, .int n] = some ((seqI (n - a).toNat a).map .int) := by
  show (if small62 a && small62 n && decide (n - a ≤ (LIM : Nat)) then some (upto (n - a).toNat a 1) else none) = _
  have e1 : small62 n = true := by
    unfold small62
    simp only [Bool.and_eq_true, decide_eq_true_eq]
    omega
  have e0 : small62 a = true := by
    unfold small62
    simp only [Bool.and_eq_true, decide_eq_true_eq]
    omega
  have e2 : n - a ≤ ((LIM : Nat) : Int) := by unfold LIM; omega
  rw [e1, e0, if_pos (by simp [e2]), upto_seq]
theorem at_tup {ds : List DD} {i : Int} {d : DD} (h0 : 0 ≤ i) (h : ds[i.toNat]? = some d) : atD (.tup ds) (.int i) = some d := by
  have hl : i.toNat < ds.length := (List.getElem?_eq_some_iff.mp h).1
  show (ixD ds.length i).bind (fun j => ds[j]?) = _
  have : ixD ds.length i = some i.toNat := by
    unfold ixD
    rw [if_pos h0, if_pos (by omega)]
  rw [this]
  exact h
theorem at_lst {ds : List DD} {i : Int} {d : DD} (h0 : 0 ≤ i) (h : ds[i.toNat]? = some d) : atD (.lst ds) (.int i) = some d := by
  have hl : i.toNat < ds.length := (List.getElem?_eq_some_iff.mp h).1
  show (ixD ds.length i).bind (fun j => ds[j]?) = _
  have : ixD ds.length i = some i.toNat := by
    unfold ixD
    rw [if_pos h0, if_pos (by omega)]
  rw [this]
  exact h
theorem at_last_tup {ds : List DD} {d : DD} (h : ds.getLast? = some d) : atD (.tup ds) (.int (-1)) = some d := by
  cases ds with
  | nil => cases h
  | cons x l =>
    show (ixD (x :: l).length (-1)).bind (fun j => (x :: l)[j]?) = _
    have : ixD (x :: l).length (-1) = some ((x :: l).length - 1) := by
      unfold ixD
      rw [if_neg (by decide), if_pos (by rw [List.length_cons]; omega)]
      congr 1
      rw [List.length_cons]
      omega
    rw [this]
    rw [List.getLast?_eq_getElem?] at h
    exact h
theorem at0 {a : DD} {r : List DD} : atD (.tup (a :: r)) (.int 0) = some a := at_tup (by decide) rfl
theorem at1 {a b : DD} {r : List DD} : atD (.tup (a :: b :: r)) (.int 1) = some b := at_tup (by decide) rfl
theorem at2 {a b c : DD} {r : List DD} : atD (.tup (a :: b :: c :: r)) (.int 2) = some c := at_tup (by decide) rfl
theorem al0 {a : DD} {r : List DD} : atD (.lst (a :: r)) (.int 0) = some a := at_lst (by decide) rfl
theorem al1 {a b : DD} {r : List DD} : atD (.lst (a :: b :: r)) (.int 1) = some b := at_lst (by decide) rfl
theorem at_ints {b : List Int} {i : Int} (h0 : 0 ≤ i) (h : i < b.length) : atD (dI b) (.int i) = some (.int (b.getD i.toNat 0)) := by
  refine at_tup h0 ?_
  rw [List.getElem?_map, List.getElem?_eq_getElem (by omega), List.getD_eq_getElem?_getD, List.getElem?_eq_getElem (by omega)]
  rfl
end
end M

/-! E2: the evaluator's rows, one by one. -/
namespace M
open Classical Z
section
variable {T : Nat → Fn} {G : Nat → Option DD} {α β : Type}
theorem bnd_ok {a : α} {e : Env} {f : α → Env → R β} : (R.ok a e).bind f = f a e := rfl
theorem bnd_ex {x : Nat} {e : Env} {f : α → Env → R β} : (R.ex x e).bind f = .ex x e := rfl
theorem lift_some {a : α} {e : Env} : R.lift (some a) e = .ok a e := rfl
theorem liftC_dat {d : DD} {e : Env} : R.liftC (some (.dat d)) e = .ok (.dat d) e := rfl
theorem liftC_own {d : List DD} {e : Env} : R.liftC (some (.own false d)) e = .ok (.own false d) e := rfl
theorem fl_ok {a : α} {e : Env} {f : α → Env → Fl} : (R.ok a e).fl f = f a e := rfl
theorem fl_ex {x : Nat} {e : Env} {f : α → Env → Fl} : (R.ex x e).fl f = .ex x e := rfl
theorem then_nx {e : Env} {f : Env → Fl} : (Fl.nx e).then f = f e := rfl
theorem then_rt {c : Cl} {e : Env} {f : Env → Fl} : (Fl.rt c e).then f = .rt c e := rfl
theorem then_ex {x : Nat} {e : Env} {f : Env → Fl} : (Fl.ex x e).then f = .ex x e := rfl
theorem data_dat {d : DD} {e : Env} : data (.ok (.dat d) e) = .ok d e := rfl
theorem data_own {k : Bool} {d : List DD} {e : Env} : data (.ok (.own k d) e) = .ok (.lst d) e := rfl
theorem data_ex {x : Nat} {e : Env} : data (.ex x e) = .ex x e := rfl
theorem truth_ok {b : Bool} {e : Env} : truth (.ok (.bl b) e) = .ok b e := rfl
theorem truth_ex {x : Nat} {e : Env} : truth (.ex x e) = .ex x e := rfl
def readC (c : Cl) (i : Nat) (e : Env) : R Cl := match c with
  | .no => .no
  | .dat d => .ok (.dat d) e
  | .own true _ => .no
  | .own false ds => .ok (.dat (.lst ds)) (e.set i (.dat (.lst ds)))
theorem readC_dat {d : DD} {i : Nat} {e : Env} : readC (.dat d) i e = .ok (.dat d) e := rfl
theorem readC_own {d : List DD} {i : Nat} {e : Env} : readC (.own false d) i e = .ok (.dat (.lst d)) (e.set i (.dat (.lst d))) := rfl
def peekC : Cl → Option DD
  | .no => none
  | .dat d => some d
  | .own _ ds => some (.lst ds)
theorem peekC_dat {d : DD} : peekC (.dat d) = some d := rfl
theorem peekC_own {k : Bool} {d : List DD} : peekC (.own k d) = some (.lst d) := rfl
theorem peek_eq {i : Nat} {e : Env} : peek i e = peekC (e.getD i .no) := by unfold peek peekC; split <;> simp_all
/-! expressions -/
variable {e : Env} {a b c i : E} {es : Es} {n : Nat}
theorem ev_var : ev T G (.var n) e = readC (e.getD n .no) n e := by rw [ev]; rfl
theorem ev_lit {d : DD} : ev T G (.lit d) e = .ok (.dat d) e := by rw [ev]
theorem ev_gc : ev T G (.gc n) e = R.lift ((G n).map .dat) e := by rw [ev]
theorem ev_fnm : ev T G (.fnm n) e = .ok (.dat (.fn n)) e := by rw [ev]
theorem ev_bin {o : PySem.Operator} : ev T G (.bin o a b) e = (data (ev T G a e)).bind fun x e1 => (data (ev T G b e1)).bind fun y e2 => R.liftC (opD o x y) e2 := by rw [ev]
theorem ev_not : ev T G (.not a) e = (truth (data (ev T G a e))).bind fun b e1 => .ok (.dat (.bl (!b))) e1 := by rw [ev]
theorem ev_and : ev T G (.and a b) e = (truth (data (ev T G a e))).bind fun x e1 => if x then (data (ev T G b e1)).bind fun y e2 => .ok (.dat y) e2 else .ok (.dat (.bl false)) e1 := by rw [ev]
theorem ev_or : ev T G (.or a b) e = (truth (data (ev T G a e))).bind fun x e1 => if x then .ok (.dat (.bl true)) e1 else (data (ev T G b e1)).bind fun y e2 => .ok (.dat y) e2 := by rw [ev]
theorem ev_cmp {o : PySem.CmpOp} : ev T G (.cmp o a b) e = (data (ev T G a e)).bind fun x e1 => (data (ev T G b e1)).bind fun y e2 => R.lift ((cmpD o x y).map fun c => .dat (.bl c)) e2 := by rw [ev]
theorem ev_chn {o o' : PySem.CmpOp} : ev T G (.chn o o' a b c) e = (data (ev T G a e)).bind fun x e1 => (data (ev T G b e1)).bind fun y e2 => (R.lift (cmpD o x y) e2).bind fun k e3 =>
      if k then (data (ev T G c e3)).bind fun z e4 => R.lift ((cmpD o' y z).map fun c => .dat (.bl c)) e4 else .ok (.dat (.bl false)) e3 := by rw [ev]
theorem ev_ite : ev T G (.ite c a b) e = (truth (data (ev T G c e))).bind fun k e1 => if k then (data (ev T G a e1)).bind fun y e2 => .ok (.dat y) e2 else (data (ev T G b e1)).bind fun y e2 => .ok (.dat y) e2 := by rw [ev]
theorem ev_tup : ev T G (.tup es) e = (evs T G es e).bind fun ds e1 => .ok (.dat (.tup ds)) e1 := by rw [ev]
theorem ev_lst : ev T G (.lst es) e = (evs T G es e).bind fun ds e1 => .ok (.own false ds) e1 := by rw [ev]
theorem ev_idx : ev T G (.idx a i) e = (data (ev T G a e)).bind fun x e1 => (data (ev T G i e1)).bind fun y e2 => R.lift ((atD x y).map .dat) e2 := by rw [ev]
theorem ev_vix : ev T G (.vix n b) e = (R.lift (peekC (e.getD n .no)) e).bind fun _ _ => (data (ev T G b e)).bind fun y e1 => R.lift ((peekC (e1.getD n .no)).bind fun x => (atD x y).map .dat) e1 := by rw [ev]; simp only [peek_eq]
theorem ev_vln : ev T G (.vln n) e = R.liftC ((peekC (e.getD n .no)).bind fun x => biD .len x) e := by rw [ev]; simp only [peek_eq]
theorem ev_vcl {o : PySem.CmpOp} : ev T G (.vcl o n b) e = (R.lift (peekC (e.getD n .no)) e).bind fun _ _ => (data (ev T G b e)).bind fun y e1 => R.lift ((peekC (e1.getD n .no)).bind fun x => (cmpD o x y).map fun c => .dat (.bl c)) e1 := by rw [ev]; simp only [peek_eq]
theorem ev_vcr {o : PySem.CmpOp} : ev T G (.vcr o a n) e = (data (ev T G a e)).bind fun x e1 => R.lift ((peekC (e1.getD n .no)).bind fun y => (cmpD o x y).map fun c => .dat (.bl c)) e1 := by rw [ev]; simp only [peek_eq]
theorem ev_slc {lo hi : Oe} : ev T G (.slc a lo hi) e = (data (ev T G a e)).bind fun x e1 => (evo T G lo e1).bind fun l e2 => (evo T G hi e2).bind fun h e3 => R.liftC (cutD x l h) e3 := by rw [ev]
theorem ev_rev : ev T G (.rev a) e = (data (ev T G a e)).bind fun x e1 => R.liftC (revD x) e1 := by rw [ev]
theorem ev_app : ev T G (.app n none es) e = (evs T G es e).bind fun ds e1 => callR (T n none ds) none e1 := by rw [ev]
theorem ev_appP {p : Nat} : ev T G (.app n (some p) es) e = (R.lift (peekC (e.getD p .no)) e).bind fun _ _ => (evs T G es e).bind fun ds e1 => callA T n (some p) ds e1 := by rw [ev]; simp only [peek_eq]
theorem ev_bi {f : Bi} : ev T G (.bi f a) e = (data (ev T G a e)).bind fun x e1 => R.liftC (biD f x) e1 := by rw [ev]
theorem ev_mn : ev T G (.mn a b) e = (data (ev T G a e)).bind fun x e1 => (data (ev T G b e1)).bind fun y e2 => R.liftC (minD x y) e2 := by rw [ev]
theorem ev_rgl : ev T G (.rgl es) e = (evs T G es e).bind fun ds e1 => R.liftC ((rngD ds).map (.own false)) e1 := by rw [ev]
theorem ev_rgt : ev T G (.rgt es) e = (evs T G es e).bind fun ds e1 => R.liftC ((rngD ds).map fun l => .dat (.tup l)) e1 := by rw [ev]
theorem ev_isi {t : Ty} : ev T G (.isi a t) e = (data (ev T G a e)).bind fun x e1 => R.lift ((isD t x).map fun c => .dat (.bl c)) e1 := by rw [ev]
theorem ev_mth {m : Mt} : ev T G (.mth m a b) e = (data (ev T G a e)).bind fun x e1 => (R.lift (mtR m x) e1).bind fun _ _ => (data (ev T G b e1)).bind fun y e2 => R.liftC (mtD m x y) e2 := by rw [ev]
theorem ev_neg : ev T G (.neg a) e = (data (ev T G a e)).bind fun x e1 => match x with
    | .int i => .ok (.dat (.int (-i))) e1
    | _ => .no := by rw [ev] <;> rfl
theorem evs_nil : evs T G .nil e = .ok [] e := by rw [evs]
theorem evs_cons : evs T G (.cons a es) e = (data (ev T G a e)).bind fun x e1 => (evs T G es e1).bind fun xs e2 => .ok (x :: xs) e2 := by rw [evs]
theorem evo_non : evo T G .non e = .ok none e := by rw [evo]
theorem evo_som : evo T G (.som a) e = (data (ev T G a e)).bind fun x e1 => match x with
    | .int i => .ok (some i) e1
    | _ => .no := by rw [evo] <;> rfl
theorem evc_non : evc T G .non e = .ok true e := by rw [evc]
theorem evc_som : evc T G (.som a) e = truth (data (ev T G a e)) := by rw [evc]
theorem evi_seq : evi T G (.seq a) e = (data (ev T G a e)).bind fun x e1 => R.lift (itemsOf x) e1 := by rw [evi]
theorem evi_rng : evi T G (.rng es) e = (evs T G es e).bind fun ds e1 => R.lift (rngD ds) e1 := by rw [evi]
theorem evi_enu : evi T G (.enu a) e = (data (ev T G a e)).bind fun x e1 => R.lift ((itemsOf x).map (enumL 0)) e1 := by rw [evi]
theorem evi_zip : evi T G (.zip a b) e = (data (ev T G a e)).bind fun x e1 => (data (ev T G b e1)).bind fun y e2 => R.lift ((itemsOf x).bind fun xs => (itemsOf y).map fun ys => zipL xs ys) e2 := by rw [evi]
/-! calls -/
theorem callR_dat {d : DD} {q : List DD} : callR (.ok (.dat d) q) none e = .ok (.dat d) e := rfl
theorem callR_own {d q : List DD} : callR (.ok (.own false d) q) none e = .ok (.own false d) e := rfl
theorem callR_ex {x : Nat} {q : List DD} : callR (.ex x q) none e = .ex x e := rfl
def callP (T : Nat → Fn) (c : Cl) (f i : Nat) (ds : List DD) (e : Env) : R Cl := match c with
  | .own _ q => callR (T f (some q) ds) (some i) e
  | _ => .no
theorem callA_eq {f p : Nat} {ds : List DD} : callA T f (some p) ds e = callP T (e.getD p .no) f p ds e := by
  unfold callA callP; split <;> split <;> simp_all
theorem callP_own {k : Bool} {q : List DD} {f p : Nat} {ds : List DD} : callP T (.own k q) f p ds e = callR (T f (some q) ds) (some p) e := rfl
def putP (r : R Cl) (c : Cl) (i : Nat) (q : List DD) (f : Env → R Cl) (e : Env) : R Cl := match c with
  | .own k _ => f (e.set i (.own k q))
  | _ => .no
theorem callRp_ok {c : Cl} {q : List DD} {p : Nat} : callR (.ok c q) (some p) e = putP .no (e.getD p .no) p q (R.liftC (some c)) e := by
  unfold callR putP; split <;> split <;> simp_all
theorem callRp_ex {x : Nat} {q : List DD} {p : Nat} : callR (.ex x q) (some p) e = putP .no (e.getD p .no) p q (R.ex x) e := by
  unfold callR putP; split <;> split <;> simp_all
theorem putP_own {r : R Cl} {k : Bool} {q q' : List DD} {p : Nat} {f : Env → R Cl} : putP r (.own k q') p q f e = f (e.set p (.own k q)) := rfl
/-! statements -/
variable {s : S} {ss u v : Ss} {t : Tg}
theorem xss_nil : xss T G .nil e = .nx e := by rw [xss]
theorem xss_cons : xss T G (.cons s ss) e = (xs T G s e).then fun e1 => xss T G ss e1 := by rw [xss]
theorem xs_set : xs T G (.set n a) e = (ev T G a e).fl fun c e1 => stC n c e1 := by rw [xs]
theorem stC_ok {c : Cl} (h : n < e.length) : stC n c e = .nx (e.set n c) := if_pos h
def bindS (o : Option Env) : Fl := match o with
  | some e => .nx e
  | none => .no
theorem bindS_some : bindS (some e) = .nx e := rfl
theorem xs_asg : xs T G (.asg t a) e = (data (ev T G a e)).fl fun d e1 => bindS (bindTg t d e1) := by rw [xs]; rfl
theorem xs_tpar {ts : Tgs} : xs T G (.tpar ts es) e = (evs T G es e).fl fun ds e1 => bindS (bindTgs ts ds e1) := by rw [xs]; rfl
theorem bind_nm {d : DD} (h : n < e.length) : bindTg (.nm n) d e = some (e.set n (.dat d)) := if_pos h
theorem bind_tp {ts : Tgs} {ds : List DD} : bindTg (.tp ts) (.tup ds) e = bindTgs ts ds e := rfl
theorem binds_nil : bindTgs .nil [] e = some e := rfl
theorem binds_cons {ts : Tgs} {d : DD} {ds : List DD} : bindTgs (.cons t ts) (d :: ds) e = (bindTg t d e).bind fun e1 => bindTgs ts ds e1 := rfl
def ownC (c : Cl) (i : Nat) (e : Env) (f : List DD → Option (List DD)) : Fl := match c with
  | .own k ds => (match f ds with
    | some ds' => .nx (e.set i (.own k ds'))
    | none => .no)
  | _ => .no
theorem onOwn_eq {f : List DD → Option (List DD)} : onOwn n e f = ownC (e.getD n .no) n e f := by unfold onOwn; generalize e.getD n .no = c; cases c <;> rfl
theorem ownC_some {k : Bool} {ds ds' : List DD} {f : List DD → Option (List DD)} (h : f ds = some ds') : ownC (.own k ds) n e f = .nx (e.set n (.own k ds')) := by
  show (match f ds with
    | some ds' => Fl.nx (e.set n (.own k ds'))
    | none => .no) = _
  rw [h]
def ownD (o : Option (List DD)) (k : Bool) (i : Nat) (e : Env) : Fl := match o with
  | some ds' => .nx (e.set i (.own k ds'))
  | none => .no
theorem ownC_own {k : Bool} {ds : List DD} {f : List DD → Option (List DD)} : ownC (.own k ds) n e f = ownD (f ds) k n e := rfl
theorem ownD_some {k : Bool} {ds : List DD} : ownD (some ds) k n e = .nx (e.set n (.own k ds)) := rfl
theorem set5_1 {a b c d f v : DD} : setAt [a, b, c, d, f] 1 v = some [a, v, c, d, f] := rfl
theorem set5_2 {a b c d f v : DD} : setAt [a, b, c, d, f] 2 v = some [a, b, v, d, f] := rfl
theorem set5_3 {a b c d f v : DD} : setAt [a, b, c, d, f] 3 v = some [a, b, c, v, f] := rfl
theorem at5_0 {a b c d f : DD} : atD (.lst [a, b, c, d, f]) (.int 0) = some a := rfl
theorem at5_1 {a b c d f : DD} : atD (.lst [a, b, c, d, f]) (.int 1) = some b := rfl
theorem at5_2 {a b c d f : DD} : atD (.lst [a, b, c, d, f]) (.int 2) = some c := rfl
theorem at5_3 {a b c d f : DD} : atD (.lst [a, b, c, d, f]) (.int 3) = some d := rfl
theorem at5_4 {a b c d f : DD} : atD (.lst [a, b, c, d, f]) (.int 4) = some f := rfl
def ownQ : Cl → Option Unit
  | .own _ _ => some ()
  | _ => none
theorem ownQ_own {k : Bool} {ds : List DD} : ownQ (.own k ds) = some () := rfl
theorem ownAt_eq : ownAt n e = ownQ (e.getD n .no) := by unfold ownAt ownQ; split <;> simp_all
theorem xs_sti : xs T G (.sti n b a) e = (data (ev T G a e)).fl fun d e1 => (R.lift (peekC (e1.getD n .no)) e1).fl fun _ _ => (data (ev T G b e1)).fl fun j e2 => ownC (e2.getD n .no) n e2 fun ds => (ixOf j).bind fun j => setAt ds j d := by rw [xs]; simp only [peek_eq, onOwn_eq]
theorem xs_aug {o : PySem.Operator} : xs T G (.aug n o a) e = (R.lift ((peekC (e.getD n .no)).bind ixOf) e).fl fun x _ => (data (ev T G a e)).fl fun y e1 => (R.lift (augD o x y) e1).fl fun z e2 => stC n (.dat (.int z)) e2 := by rw [xs]; simp only [peek_eq]
theorem xs_apd : xs T G (.apd n a) e = (R.lift (ownQ (e.getD n .no)) e).fl fun _ _ => (data (ev T G a e)).fl fun d e1 => ownC (e1.getD n .no) n e1 fun ds => if ds.length < LIM then some (ds ++ [d]) else none := by rw [xs]; simp only [ownAt_eq, onOwn_eq]
theorem xs_xtd : xs T G (.xtd n a) e = (R.lift (ownQ (e.getD n .no)) e).fl fun _ _ => (data (ev T G a e)).fl fun d e1 => ownC (e1.getD n .no) n e1 fun ds => (itemsOf d).bind fun zs => if ds.length + zs.length ≤ LIM then some (ds ++ zs) else none := by rw [xs]; simp only [ownAt_eq, onOwn_eq]
theorem xs_exp : xs T G (.exp a) e = (data (ev T G a e)).fl fun _ e1 => .nx e1 := by rw [xs]
theorem xs_iff : xs T G (.iff c u v) e = (truth (data (ev T G c e))).fl fun k e1 => if k then xss T G u e1 else xss T G v e1 := by rw [xs]
def forB (T : Nat → Fn) (G : Nat → Option DD) (t : Tg) (u : Ss) (d : DD) (e : Env) : Fl := match bindTg t d e with
  | some e3 => xss T G u e3
  | none => .no
theorem xs_for {it : It} : xs T G (.for_ t it u) e = (evi T G it e).fl fun items e1 => forL (forB T G t u) items e1 := by rw [xs]; rfl
theorem forB_some {d : DD} {e3 : Env} (h : bindTg t d e = some e3) : forB T G t u d e = xss T G u e3 := by unfold forB; rw [h]
def whlE (T : Nat → Fn) (G : Nat → Option DD) (c : E) (u : Ss) (e : Env) : Fl := whlL (fun e => truth (data (ev T G c e))) (fun e => xss T G u e) FUEL e
theorem xs_whl : xs T G (.whl c u) e = whlE T G c u e := by rw [xs]; rfl
theorem whlE_ok {c : E} {u : Ss} {n : Nat} {e : Env} (I : Nat → Env → Prop) (Dn : Env → Prop) (hs : ∀ n e, I n e → (∃ e1, truth (data (ev T G c e)) = .ok false e1 ∧ Dn e1) ∨ ∃ e1 e2 m, truth (data (ev T G c e)) = .ok true e1 ∧ xss T G u e1 = .nx e2 ∧ m < n ∧ I m e2) (h : I n e) (hn : n < 100000) : ∃ e', whlE T G c u e = .nx e' ∧ Dn e' :=
  whl_ok (c := fun e => truth (data (ev T G c e))) (b := fun e => xss T G u e) I Dn hs FUEL n e h hn
theorem xs_ret : xs T G (.ret a) e = (ev T G a e).fl fun c e1 => .rt c e1 := by rw [xs]
theorem xs_rse : xs T G (.rse n a) e = (data (ev T G a e)).fl fun _ e1 => .ex n e1 := by rw [xs]
theorem xs_pas : xs T G .pas e = .nx e := by rw [xs]
def tryE (r : Fl) (x : Nat) (h : Env → Fl) : Fl := match r with
  | .ex y e1 => if y = x then h e1 else .ex y e1
  | r => r
theorem xs_try {x : Nat} : xs T G (.try_ u x v) e = tryE (xss T G u e) x (xss T G v) := by rw [xs]; rfl
theorem tryE_rt {cc : Cl} {x : Nat} {h : Env → Fl} : tryE (.rt cc e) x h = .rt cc e := rfl
theorem tryE_nx {x : Nat} {h : Env → Fl} : tryE (.nx e) x h = .nx e := rfl
theorem tryE_ex {x : Nat} {h : Env → Fl} : tryE (.ex x e) x h = h e := if_pos rfl
/-! ends -/
theorem fin_rt {cc : Cl} : finF false (.rt cc e) = .ok cc [] := rfl
theorem fin_nx : finF false (.nx e) = .ok (.dat .non) [] := rfl
theorem fin_ex {x : Nat} : finF false (.ex x e) = .ex x [] := rfl
theorem finP_rt {cc : Cl} {q : List DD} {r : Env} : finF true (.rt cc (.own true q :: r)) = .ok cc q := rfl
theorem finP_nx {q : List DD} {r : Env} : finF true (.nx (.own true q :: r)) = .ok (.dat .non) q := rfl
/-! operations -/
theorem op_addI {x y : Int} : opD .Add (.int x) (.int y) = some (.dat (.int (x + y))) := rfl
theorem op_subI {x y : Int} : opD .Sub (.int x) (.int y) = some (.dat (.int (x - y))) := rfl
theorem op_mulI {x y : Int} (h : -18446744073709551616 < y ∧ y < 18446744073709551616) : opD .Mult (.int x) (.int y) = some (.dat (.int (x * y))) := by
  show (if cMul x y then _ else _) = _
  have : cMul x y = true := by
    unfold cMul
    have h1 : decide (-(2 ^ 64) < y) = true := by simpa using h.1
    have h2 : decide (y < 2 ^ 64) = true := by simpa using h.2
    rw [h1, h2]; simp
  rw [if_pos this]
theorem op_mulIl {x y : Int} (h : -18446744073709551616 < x ∧ x < 18446744073709551616) : opD .Mult (.int x) (.int y) = some (.dat (.int (x * y))) := by
  show (if cMul x y then _ else _) = _
  have : cMul x y = true := by
    unfold cMul
    have h1 : decide (-(2 ^ 64) < x) = true := by simpa using h.1
    have h2 : decide (x < 2 ^ 64) = true := by simpa using h.2
    rw [h1, h2]; simp
  rw [if_pos this]
theorem op_mod {x y : Int} (h : 0 < y) : opD .Mod (.int x) (.int y) = some (.dat (.int (x % y))) := if_pos h
theorem op_div {x y : Int} (h : 0 < y) (h' : y < 1073741824) : opD .FloorDiv (.int x) (.int y) = some (.dat (.int (x / y))) := by
  show (if 0 < y && y < 1073741824 then _ else _) = _
  rw [if_pos (by simp [h, h'])]
theorem op_addT {x y : List DD} (h : x.length + y.length ≤ 16777216) : opD .Add (.tup x) (.tup y) = some (.dat (.tup (x ++ y))) := if_pos h
theorem op_addL {x y : List DD} (h : x.length + y.length ≤ 16777216) : opD .Add (.lst x) (.lst y) = some (.own false (x ++ y)) := if_pos h
theorem cmp_lt {x y : Int} : cmpD .Lt (.int x) (.int y) = some (decide (x < y)) := rfl
theorem cmp_le {x y : Int} : cmpD .LtE (.int x) (.int y) = some (decide (x ≤ y)) := rfl
theorem cmp_gt {x y : Int} : cmpD .Gt (.int x) (.int y) = some (decide (y < x)) := rfl
theorem cmp_ge {x y : Int} : cmpD .GtE (.int x) (.int y) = some (decide (y ≤ x)) := rfl
theorem cmp_eqI {x y : Int} : cmpD .Eq (.int x) (.int y) = some (decide (x = y)) := rfl
theorem cmp_neI {x y : Int} : cmpD .NotEq (.int x) (.int y) = some (!decide (x = y)) := rfl
theorem cmp_isN {d : DD} : cmpD .Is d .non = some (isNon d) := rfl
theorem cmp_isNotN {d : DD} : cmpD .IsNot d .non = some (!isNon d) := rfl
theorem cmp_eq {x y : DD} (h1 : x.sh 60 = true) (h2 : y.sh 60 = true) : cmpD .Eq x y = some (D.eq x y) := by
  show (if x.sh 60 && y.sh 60 then some (D.eq x y) else none) = _
  rw [h1, h2]; rfl
theorem cmp_ne {x y : DD} (h1 : x.sh 60 = true) (h2 : y.sh 60 = true) : cmpD .NotEq x y = some (!D.eq x y) := by
  show (if x.sh 60 && y.sh 60 then some (!D.eq x y) else none) = _
  rw [h1, h2]; rfl
theorem cmp_inT {x : DD} {ys : List DD} (h1 : x.sh 60 = true) (h2 : D.shs 60 ys = true) : cmpD .In x (.tup ys) = some (memD x ys) := by
  have : cmpD .In x (.tup ys) = (if x.sh 60 && D.shs 60 ys then some (memD x ys) else none) := by cases x <;> rfl
  rw [this, h1, h2]; rfl
theorem cmp_inL {x : DD} {ys : List DD} (h1 : x.sh 60 = true) (h2 : D.shs 60 ys = true) : cmpD .In x (.lst ys) = some (memD x ys) := by
  have : cmpD .In x (.lst ys) = (if x.sh 60 && D.shs 60 ys then some (memD x ys) else none) := by cases x <;> rfl
  rw [this, h1, h2]; rfl
theorem cmp_niT {x : DD} {ys : List DD} (h1 : x.sh 60 = true) (h2 : D.shs 60 ys = true) : cmpD .NotIn x (.tup ys) = some (!memD x ys) := by
  have : cmpD .NotIn x (.tup ys) = (if x.sh 60 && D.shs 60 ys then some (!memD x ys) else none) := by cases x <;> rfl
  rw [this, h1, h2]; rfl
theorem cmp_niL {x : DD} {ys : List DD} (h1 : x.sh 60 = true) (h2 : D.shs 60 ys = true) : cmpD .NotIn x (.lst ys) = some (!memD x ys) := by
  have : cmpD .NotIn x (.lst ys) = (if x.sh 60 && D.shs 60 ys then some (!memD x ys) else none) := by cases x <;> rfl
  rw [this, h1, h2]; rfl
theorem bi_lenL {x : List DD} : biD .len (.lst x) = some (.dat (.int x.length)) := rfl
theorem bi_lenT {x : List DD} : biD .len (.tup x) = some (.dat (.int x.length)) := rfl
theorem bi_listL {x : List DD} : biD .list (.lst x) = some (.own false x) := rfl
theorem bi_listT {x : List DD} : biD .list (.tup x) = some (.own false x) := rfl
theorem bi_tupL {x : List DD} : biD .tuple (.lst x) = some (.dat (.tup x)) := rfl
theorem bi_tupT {x : List DD} : biD .tuple (.tup x) = some (.dat (.tup x)) := rfl
theorem bi_sortL {x y : List DD} (h : sortable x = true) (h' : sortD x = y) : biD .sorted (.lst x) = some (.own false y) := by
  show (if sortable x then some (Cl.own false (sortD x)) else none) = _
  rw [if_pos h, h']
theorem bi_sortT {x y : List DD} (h : sortable x = true) (h' : sortD x = y) : biD .sorted (.tup x) = some (.own false y) := by
  show (if sortable x then some (Cl.own false (sortD x)) else none) = _
  rw [if_pos h, h']
theorem bi_sum {x : List Int} : biD .sum (.lst (x.map .int)) = some (.dat (.int x.sum)) := by
  show (intsOf (x.map Z.D.int)).map _ = _
  rw [ints_of]; rfl
theorem bi_int {x : Int} : biD .int (.int x) = some (.dat (.int x)) := rfl
theorem bi_intB {x : Bool} : biD .int (.bl x) = some (.dat (.int (if x then 1 else 0))) := rfl
theorem bls_of (l : List Bool) : blsOf (l.map .bl) = some l := by
  induction l with
  | nil => rfl
  | cons x l ih =>
    show (blsOf (l.map Z.D.bl)).map (x :: ·) = _
    rw [ih]; rfl
theorem bi_all {x : List Bool} : biD .all (.lst (x.map .bl)) = some (.dat (.bl (x.all id))) := by
  show (blsOf (x.map Z.D.bl)).map _ = _
  rw [bls_of]; rfl
theorem bi_any {x : List Bool} : biD .any (.lst (x.map .bl)) = some (.dat (.bl (x.any id))) := by
  show (blsOf (x.map Z.D.bl)).map _ = _
  rw [bls_of]; rfl
theorem items_L {x : List DD} : itemsOf (.lst x) = some x := rfl
theorem items_T {x : List DD} : itemsOf (.tup x) = some x := rfl
theorem dat_d {d : DD} : (Cl.dat d).d = d := rfl
theorem own_d {k : Bool} {d : List DD} : (Cl.own k d).d = .lst d := rfl
theorem aug_add {x y : Int} : augD .Add x (.int y) = some (x + y) := rfl
theorem ix_of {x : Int} : ixOf (.int x) = some x := rfl
theorem cmp_eqB {x y : Bool} : cmpD .Eq (.bl x) (.bl y) = some (x == y) := rfl
theorem cmp_neB {x y : Bool} : cmpD .NotEq (.bl x) (.bl y) = some (!(x == y)) := rfl
theorem sti_set {ds : List DD} {i : Int} {d : DD} (h0 : 0 ≤ i) (h : i < ds.length) : setAt ds i d = some (ds.set i.toNat d) := by
  unfold setAt
  have : ixD ds.length i = some i.toNat := by
    unfold ixD
    rw [if_pos h0, if_pos (by omega)]
  rw [this]
  rfl
theorem cutL_take {α : Type} {ds : List α} {i : Int} (h : 0 ≤ i) : cutL ds none (some i) = ds.take i.toNat := by
  unfold cutL sIx
  simp only [List.drop_zero, Nat.sub_zero]
  rw [if_neg (by omega)]
  rcases Nat.le_total i.toNat ds.length with g | g
  · rw [Nat.min_eq_left g]
  · rw [Nat.min_eq_right g, List.take_of_length_le (Nat.le_refl _), List.take_of_length_le g]
theorem cutL_drop {α : Type} {ds : List α} {i : Int} (h : 0 ≤ i) : cutL ds (some i) none = ds.drop i.toNat := by
  unfold cutL sIx
  simp only
  rw [if_neg (by omega)]
  rcases Nat.le_total i.toNat ds.length with g | g
  · rw [Nat.min_eq_left g, List.take_of_length_le (by rw [List.length_drop]; exact Nat.le_refl _)]
  · rw [Nat.min_eq_right g, List.drop_of_length_le (Nat.le_refl _), List.drop_of_length_le g]; simp
theorem cut_takeL {ds : List DD} {i : Int} (h : 0 ≤ i) : cutD (.lst ds) none (some i) = some (.own false (ds.take i.toNat)) := by
  show some (Cl.own false (cutL ds none (some i))) = _
  rw [cutL_take h]
theorem cut_dropL {ds : List DD} {i : Int} (h : 0 ≤ i) : cutD (.lst ds) (some i) none = some (.own false (ds.drop i.toNat)) := by
  show some (Cl.own false (cutL ds (some i) none)) = _
  rw [cutL_drop h]
theorem cut_takeT {ds : List DD} {i : Int} (h : 0 ≤ i) : cutD (.tup ds) none (some i) = some (.dat (.tup (ds.take i.toNat))) := by
  show some (Cl.dat (.tup (cutL ds none (some i)))) = _
  rw [cutL_take h]
theorem cut_dropT {ds : List DD} {i : Int} (h : 0 ≤ i) : cutD (.tup ds) (some i) none = some (.dat (.tup (ds.drop i.toNat))) := by
  show some (Cl.dat (.tup (cutL ds (some i) none))) = _
  rw [cutL_drop h]
theorem min_int {x y : Int} : minD (.int x) (.int y) = some (.dat (.int (if y < x then y else x))) := rfl
theorem ite_int {p : Prop} [Decidable p] {x y : Int} {e : Env} : (if decide p = true then R.ok (Cl.dat (.int x)) e else R.ok (.dat (.int y)) e) = .ok (.dat (.int (if p then x else y))) e := by by_cases h : p <;> simp [h]
theorem ite_and {p q : Bool} {e : Env} : (if p = true then R.ok (Cl.dat (.bl q)) e else R.ok (.dat (.bl false)) e) = .ok (.dat (.bl (p && q))) e := by cases p <;> rfl
theorem ite_or {p q : Bool} {e : Env} : (if p = true then R.ok (Cl.dat (.bl true)) e else R.ok (.dat (.bl q)) e) = .ok (.dat (.bl (p || q))) e := by cases p <;> rfl
end
end M

/-! M3: links, diagrams behind one another. -/
namespace M
open Classical
variable {n N : Int} {R S : Rel}
abbrev Ln := List (Int × Int)
def rl (L : Ln) : Rel := fun x y => (x, y) ∈ L
theorem Gen.lift {B C : Rel} (f : Int → Int) (hr : ∀ x, 0 ≤ x → x < n → 0 ≤ f x ∧ f x < N) (hB : ∀ x y, B x y → 0 ≤ x → x < n → 0 ≤ y → y < n → Gen N C (f x) (f y)) {x y : Int} (g : Gen n B x y) : Gen N C (f x) (f y) := by
  induction g with
  | rfl a b => exact .rfl (hr _ a b).1 (hr _ a b).2
  | base h a b c d => exact hB _ _ h a b c d
  | sym _ ih => exact ih.sym
  | trn _ _ i j => exact i.trn j
/-! ### links of blocks -/
def conseq : List Int → Ln
  | x :: y :: r => (x, y) :: conseq (y :: r)
  | _ => []
theorem conseq_at : ∀ b : List Int, (seqI (b.length - 1) 0).map (fun i => (b.getD i.toNat 0, b.getD (i + 1).toNat 0)) = conseq b := by
  have go : ∀ (b : List Int) (p : List Int), (seqI (b.length - 1) p.length).map (fun i => ((p ++ b).getD i.toNat 0, (p ++ b).getD (i + 1).toNat 0)) = conseq b := by
    intro b
    induction b with
    | nil => intro p; rfl
    | cons x r ih =>
      intro p
      cases r with
      | nil => rfl
      | cons y r =>
        have e1 : (x :: y :: r).length - 1 = ((y :: r).length - 1) + 1 := rfl
        have e2 : ((p.length : Int) + 1) = ((p ++ [x]).length : Int) := by rw [List.length_append]; rfl
        rw [e1, seqI, List.map_cons, conseq]
        congr 1
        · have h1 : (p.length : Int).toNat = p.length := by omega
          have h2 : ((p.length : Int) + 1).toNat = p.length + 1 := by omega
          rw [h1, h2]
          simp [List.getD_eq_getElem?_getD]
        · have := ih (p ++ [x])
          rw [e2]
          simpa [List.append_assoc] using this
  intro b
  have := go b []
  simpa using this
theorem conseq_mem : ∀ {b : List Int} {x y : Int}, (x, y) ∈ conseq b → x ∈ b ∧ y ∈ b
  | [], _, _, h => by cases h
  | [_], _, _, h => by cases h
  | a :: c :: r, x, y, h => by
    rcases List.mem_cons.mp (show (x, y) ∈ (a, c) :: conseq (c :: r) from h) with e | h
    · cases e; simp
    · have := conseq_mem h
      exact ⟨List.mem_cons_of_mem _ this.1, List.mem_cons_of_mem _ this.2⟩
theorem conseq_gen {B : Rel} : ∀ {b : List Int} {a : Int}, (∀ x y, (x, y) ∈ conseq (a :: b) → B x y) → (∀ x ∈ a :: b, 0 ≤ x ∧ x < n) → ∀ y ∈ a :: b, Gen n B a y
  | [], a, _, hr, y, hy => by
    have : y = a := by simpa using hy
    subst this
    exact .rfl (hr y List.mem_cons_self).1 (hr y List.mem_cons_self).2
  | c :: r, a, h, hr, y, hy => by
    have ha := hr a List.mem_cons_self
    have hc := hr c (List.mem_cons_of_mem _ List.mem_cons_self)
    rcases List.mem_cons.mp hy with rfl | hy
    · exact .rfl ha.1 ha.2
    · have := conseq_gen (B := B) (a := c) (b := r) (fun x y z => h x y (List.mem_cons_of_mem _ z)) (fun x hx => hr x (List.mem_cons_of_mem _ hx)) y hy
      exact (Gen.base (h a c List.mem_cons_self) ha.1 ha.2 hc.1 hc.2).trn this
/-- what links each head with its block, and nothing else -/
theorem gen_blocks (e : Eqv n R) {B : Rel} (h1 : ∀ x y, B x y → 0 ≤ x → x < n → 0 ≤ y → y < n → R x y) (h2 : ∀ a t, a :: t ∈ blocks n R → ∀ y ∈ a :: t, Gen n B a y) : Gen n B = R := rel_ext fun x y => by
  refine ⟨Gen.least e h1, fun h => ?_⟩
  have hm : cls n R x ∈ blocks n R := (mem_blocks e).mpr ⟨x, (e.dom h).1, (e.dom h).2, Eq.refl _⟩
  have hx : x ∈ cls n R x := (mem_cls e).mpr (e.rfl (e.dom h).1 (e.dom h).2)
  have hy : y ∈ cls n R x := (mem_cls e).mpr h
  cases hc : cls n R x with
  | nil => rw [hc] at hx; cases hx
  | cons a t =>
    rw [hc] at hm hx hy
    exact (h2 a t hm x hx).sym.trn (h2 a t hm y hy)
theorem block_dom (e : Eqv n R) {b : List Int} (hb : b ∈ blocks n R) {x : Int} (hx : x ∈ b) : 0 ≤ x ∧ x < n := by
  obtain ⟨z, h0, h1, rfl⟩ := (mem_blocks e).mp hb
  exact e.dom2 ((mem_cls e).mp hx)
theorem block_rel (e : Eqv n R) {b : List Int} (hb : b ∈ blocks n R) {x y : Int} (hx : x ∈ b) : y ∈ b ↔ R x y := by
  obtain ⟨z, h0, h1, rfl⟩ := (mem_blocks e).mp hb
  have hx := (mem_cls e).mp hx
  rw [mem_cls e]
  exact ⟨fun h => e.trn (e.sym hx) h, fun h => e.trn hx h⟩
theorem block_asc (e : Eqv n R) {b : List Int} (hb : b ∈ blocks n R) : Asc b := (part_blocks e).asc b hb
theorem block_ne (e : Eqv n R) {b : List Int} (hb : b ∈ blocks n R) : b ≠ [] := (part_blocks e).ne e b hb
theorem block_eq (e : Eqv n R) {b c : List Int} (hb : b ∈ blocks n R) (hc : c ∈ blocks n R) {x : Int} (h1 : x ∈ b) (h2 : x ∈ c) : b = c :=
  asc_eq (block_asc e hb) (block_asc e hc) fun y => by rw [block_rel e hb h1, block_rel e hc h2]
theorem block_ex (e : Eqv n R) {x : Int} (h0 : 0 ≤ x) (h1 : x < n) : ∃ b ∈ blocks n R, x ∈ b := (part_blocks e).all x h0 h1
theorem asc_len {b : List Int} (h : Asc b) (hr : ∀ x ∈ b, 0 ≤ x ∧ x < n) : b.length ≤ n.toNat := by
  have := List.Nodup.length_le_of_subset (l₁ := b) (l₂ := rng n) (nodup_of_asc h) fun x hx => mem_rng.mpr (hr x hx)
  rw [len_rng] at this
  exact this
theorem block_len (e : Eqv n R) {b : List Int} (hb : b ∈ blocks n R) : b.length ≤ n.toNat := asc_len (block_asc e hb) fun x hx => block_dom e hb hx
theorem blocks_len (e : Eqv n R) : (blocks n R).length ≤ n.toNat := (part_blocks e).len e
noncomputable def links (n : Int) (R : Rel) : Ln := (blocks n R).flatMap conseq
theorem mem_links {x y : Int} : (x, y) ∈ links n R ↔ ∃ b ∈ blocks n R, (x, y) ∈ conseq b := by unfold links; rw [List.mem_flatMap]
theorem links_rel (e : Eqv n R) {x y : Int} (h : (x, y) ∈ links n R) : R x y := by
  obtain ⟨b, hb, h⟩ := mem_links.mp h
  exact (block_rel e hb (conseq_mem h).1).mp (conseq_mem h).2
theorem gen_links (e : Eqv n R) : Gen n (rl (links n R)) = R :=
  gen_blocks e (fun x y h _ _ _ _ => links_rel e h) fun a t hb y hy => conseq_gen (fun x y h => mem_links.mpr ⟨_, hb, h⟩) (fun x hx => block_dom e hb hx) y hy
/-- the other way: each block's head with each of its points -/
def heads (b : List Int) : Ln := b.map fun x => (b.headD 0, x)
theorem gen_heads (e : Eqv n R) : Gen n (rl ((blocks n R).flatMap heads)) = R := by
  refine gen_blocks e (fun x y h _ _ _ _ => ?_) fun a t hb y hy => ?_
  · obtain ⟨b, hb, h⟩ := List.mem_flatMap.mp h
    obtain ⟨z, hz, q⟩ := List.mem_map.mp h
    cases q
    cases b with
    | nil => cases hz
    | cons a t => exact (block_rel e hb List.mem_cons_self).mp hz
  · have hr := fun x hx => block_dom e hb (x := x) hx
    exact .base (List.mem_flatMap.mpr ⟨_, hb, List.mem_map.mpr ⟨y, hy, Eq.refl _⟩⟩) (hr a List.mem_cons_self).1 (hr a List.mem_cons_self).2 (hr y hy).1 (hr y hy).2
/-! ### one behind another -/
variable {m k p : Int}
/-- what hangs together -/
def stk (m k p : Int) (R S : Rel) : Rel := Gen (m + k + p) fun x y => R x y ∨ S (x - m) (y - m)
theorem stk_eqv : Eqv (m + k + p) (stk m k p R S) := gen_eqv _ _
def up (m k x : Int) : Int := if x < m then x else x + k
def comp (m k p : Int) (R S : Rel) : Rel := fun x y => (0 ≤ x ∧ x < m + p) ∧ (0 ≤ y ∧ y < m + p) ∧ stk m k p R S (up m k x) (up m k y)
theorem up_dom (hk : 0 ≤ k) (hm : 0 ≤ m) {x : Int} (h0 : 0 ≤ x) (h1 : x < m + p) : 0 ≤ up m k x ∧ up m k x < m + k + p := by unfold up; split <;> omega
theorem comp_eqv (hk : 0 ≤ k) (hm : 0 ≤ m) : Eqv (m + p) (comp m k p R S) :=
  ⟨fun h => h.1, fun h0 h1 => ⟨⟨h0, h1⟩, ⟨h0, h1⟩, stk_eqv.rfl (up_dom hk hm h0 h1).1 (up_dom hk hm h0 h1).2⟩, fun h => ⟨h.2.1, h.1, h.2.2.sym⟩, fun h g => ⟨h.1, g.2.1, h.2.2.trn g.2.2⟩⟩
/-- links that generate both -/
theorem stk_gen {B C : Rel} (hm : 0 ≤ m) (hk : 0 ≤ k) (hp : 0 ≤ p) (hR : Gen (m + k) B = R) (hS : Gen (k + p) C = S) : Gen (m + k + p) (fun x y => (B x y ∧ 0 ≤ x ∧ x < m + k ∧ 0 ≤ y ∧ y < m + k) ∨ (C (x - m) (y - m) ∧ m ≤ x ∧ x < m + k + p ∧ m ≤ y ∧ y < m + k + p)) = stk m k p R S := by
  subst hR hS
  refine gen_eq (fun x y h a b c d => ?_) fun x y h a b c d => ?_
  · rcases h with ⟨h, h1, h2, h3, h4⟩ | ⟨h, h1, h2, h3, h4⟩
    · exact .base (.inl (.base h h1 h2 h3 h4)) a b c d
    · exact .base (.inr (.base h (by omega) (by omega) (by omega) (by omega))) a b c d
  · rcases h with h | h
    · exact Gen.lift (n := m + k) (fun x => x) (fun x h0 h1 => ⟨h0, by omega⟩) (fun x y g h1 h2 h3 h4 => .base (.inl ⟨g, h1, h2, h3, h4⟩) h1 (by omega) h3 (by omega)) h
    · have := Gen.lift (n := k + p) (N := m + k + p) (B := C) (C := fun x y => (B x y ∧ 0 ≤ x ∧ x < m + k ∧ 0 ≤ y ∧ y < m + k) ∨ (C (x - m) (y - m) ∧ m ≤ x ∧ x < m + k + p ∧ m ≤ y ∧ y < m + k + p)) (fun x => x + m) (fun x h0 h1 => ⟨by omega, by omega⟩)
        (fun x y g h1 h2 h3 h4 => .base (.inr ⟨by rw [Int.add_sub_cancel, Int.add_sub_cancel]; exact g, by omega, by omega, by omega, by omega⟩) (by omega) (by omega) (by omega) (by omega)) h
      simpa using this
/-- what a piece keeps -/
def part (m k : Int) (b : List Int) : List Int := b.filter (fun x => decide (x < m)) ++ (b.filter fun x => decide (m + k ≤ x)).map (· - k)
theorem mem_part (hk : 0 ≤ k) {b : List Int} {x : Int} : x ∈ part m k b ↔ up m k x ∈ b := by
  unfold part up
  rw [List.mem_append, List.mem_filter, List.mem_map]
  simp only [decide_eq_true_eq, List.mem_filter]
  constructor
  · rintro (⟨h1, h2⟩ | ⟨y, ⟨h1, h2⟩, rfl⟩)
    · rw [if_pos h2]; exact h1
    · rw [if_neg (by omega), Int.sub_add_cancel]; exact h1
  · intro h
    by_cases hx : x < m
    · rw [if_pos hx] at h; exact .inl ⟨h, hx⟩
    · rw [if_neg hx] at h; exact .inr ⟨x + k, ⟨h, by omega⟩, by omega⟩
theorem asc_part {b : List Int} (h : Asc b) : Asc (part m k b) := by
  refine List.pairwise_append.mpr ⟨h.filter _, ?_, fun x hx y hy => ?_⟩
  · rw [List.pairwise_map]
    exact (h.filter _).imp fun {a b} q => by omega
  · obtain ⟨z, hz, rfl⟩ := List.mem_map.mp hy
    have h1 := (List.mem_filter.mp hx).2
    have h2 := (List.mem_filter.mp hz).2
    simp only [decide_eq_true_eq] at h1 h2
    omega
theorem part_nil {b : List Int} : part m k b = [] ↔ ∀ x ∈ b, m ≤ x ∧ x < m + k := by
  unfold part
  rw [List.append_eq_nil_iff, List.map_eq_nil_iff, List.filter_eq_nil_iff, List.filter_eq_nil_iff]
  constructor
  · rintro ⟨h1, h2⟩ x hx
    have := h1 x hx
    have := h2 x hx
    simp only [decide_eq_true_eq] at *
    omega
  · intro h
    refine ⟨fun x hx => ?_, fun x hx => ?_⟩ <;> (have := h x hx; simp only [decide_eq_true_eq]; omega)
noncomputable def keptOf (m k p : Int) (R S : Rel) : List (List Int) := ((blocks (m + k + p) (stk m k p R S)).map (part m k)).filter fun b => decide (b ≠ [])
theorem part_comp (hm : 0 ≤ m) (hk : 0 ≤ k) (hp : 0 ≤ p) : Part (m + p) (comp m k p R S) (keptOf m k p R S) := by
  have e := stk_eqv (m := m) (k := k) (p := p) (R := R) (S := S)
  unfold keptOf
  have back : ∀ c ∈ ((blocks (m + k + p) (stk m k p R S)).map (part m k)).filter (fun b => decide (b ≠ [])), c ≠ [] ∧ ∃ b ∈ blocks (m + k + p) (stk m k p R S), part m k b = c := fun c hc => by
    obtain ⟨h1, h2⟩ := List.mem_filter.mp hc
    obtain ⟨b, hb, q⟩ := List.mem_map.mp h1
    exact ⟨by simpa using h2, b, hb, q⟩
  refine ⟨?_, fun c hc => ?_, fun c hc => ?_, fun x h0 h1 => ?_⟩
  · -- pieces apart
    have go : ∀ l : List (List Int), l.Nodup → (∀ b ∈ l, b ∈ blocks (m + k + p) (stk m k p R S)) → ((l.map (part m k)).filter fun b => decide (b ≠ [])).Nodup := by
      intro l
      induction l with
      | nil => intro _ _; simp
      | cons b l ih =>
        intro nd hl
        obtain ⟨n1, n2⟩ := List.nodup_cons.mp nd
        have ih' := ih n2 fun c hc => hl c (List.mem_cons_of_mem _ hc)
        rw [List.map_cons, List.filter_cons]
        split
        case isFalse => exact ih'
        rename_i hne
        refine List.nodup_cons.mpr ⟨fun hm' => n1 ?_, ih'⟩
        obtain ⟨h1, h2⟩ := List.mem_filter.mp hm'
        obtain ⟨c, hc, q⟩ := List.mem_map.mp h1
        have hne' : part m k b ≠ [] := by simpa using hne
        obtain ⟨x, r, hx⟩ := List.exists_cons_of_ne_nil hne'
        have x1 : up m k x ∈ b := (mem_part hk).mp (by rw [hx]; exact List.mem_cons_self)
        have x2 : up m k x ∈ c := (mem_part hk).mp (by rw [q, hx]; exact List.mem_cons_self)
        rw [block_eq e (hl b List.mem_cons_self) (hl c (List.mem_cons_of_mem _ hc)) x1 x2]
        exact hc
    exact go _ (nodup_blocks e) fun b hb => hb
  · obtain ⟨_, b, hb, rfl⟩ := back c hc
    exact asc_part (block_asc e hb)
  · obtain ⟨hne, b, hb, rfl⟩ := back c hc
    obtain ⟨x, r, hx⟩ := List.exists_cons_of_ne_nil hne
    have x1 : up m k x ∈ b := (mem_part hk).mp (by rw [hx]; exact List.mem_cons_self)
    have d1 := block_dom e hb x1
    have dx : 0 ≤ x ∧ x < m + p := by unfold up at d1; split at d1 <;> omega
    refine ⟨x, dx.1, dx.2, fun y => ?_⟩
    rw [mem_part hk, block_rel e hb x1]
    refine ⟨fun h => ⟨dx, ?_, h⟩, fun h => h.2.2⟩
    have d2 := e.dom2 h
    unfold up at d2
    split at d2 <;> omega
  · have d := up_dom (p := p) hk hm h0 h1
    obtain ⟨b, hb, hx⟩ := block_ex e d.1 d.2
    have hx' : x ∈ part m k b := (mem_part hk).mpr hx
    exact ⟨part m k b, List.mem_filter.mpr ⟨List.mem_map.mpr ⟨b, hb, Eq.refl _⟩, by simpa using List.ne_nil_of_mem hx'⟩, hx'⟩
/-- how many pieces are lost -/
noncomputable def lostN (m k p : Int) (R S : Rel) : Int := ((blocks (m + k + p) (stk m k p R S)).filter fun b => decide (part m k b = [])).length
end M

/-! M4: what links join: two ways of reckoning. -/
namespace M
open Classical
variable {n : Int} {R S : Rel}
def at' (ns : List Int) (x : Int) : Int := ns.getD x.toNat 0
/-- points of one name -/
def K (n : Int) (ns : List Int) : Rel := fun x y => (0 ≤ x ∧ x < n) ∧ (0 ≤ y ∧ y < n) ∧ at' ns x = at' ns y
theorem K_eqv {ns : List Int} : Eqv n (K n ns) := ⟨fun h => h.1, fun a b => ⟨⟨a, b⟩, ⟨a, b⟩, rfl⟩, fun h => ⟨h.2.1, h.1, h.2.2.symm⟩, fun h g => ⟨h.1, g.2.1, h.2.2.trans g.2.2⟩⟩
/-- one link -/
def nmStep (ns : List Int) (l : Int × Int) : List Int := ns.map fun x => if x = at' ns l.1 then at' ns l.2 else x
theorem nm_len {ns : List Int} {l : Int × Int} : (nmStep ns l).length = ns.length := by unfold nmStep; rw [List.length_map]
theorem nm_at {ns : List Int} {l : Int × Int} {x : Int} (h0 : 0 ≤ x) (h1 : x < ns.length) : at' (nmStep ns l) x = if at' ns x = at' ns l.1 then at' ns l.2 else at' ns x := by
  have hx : x.toNat < ns.length := by omega
  unfold nmStep
  conv => lhs; unfold at'
  rw [List.getD_eq_getElem?_getD, List.getElem?_map, List.getElem?_eq_getElem hx]
  have : at' ns x = ns[x.toNat] := by unfold at'; rw [List.getD_eq_getElem?_getD, List.getElem?_eq_getElem hx]; rfl
  rw [this]
  rfl
theorem nm_gen {B : Rel} {ns : List Int} {l : Int × Int} (hl : (ns.length : Int) = n) (h1 : 0 ≤ l.1 ∧ l.1 < n) (h2 : 0 ≤ l.2 ∧ l.2 < n) : Gen n (fun x y => K n (nmStep ns l) x y ∨ B x y) = Gen n (fun x y => K n ns x y ∨ ((x, y) = l ∨ B x y)) := by
  refine gen_eq (fun x y h a b c d => ?_) fun x y h a b c d => ?_
  · rcases h with h | h
    · have hk := h.2.2
      rw [nm_at a (by omega), nm_at c (by omega)] at hk
      have same : ∀ z w, 0 ≤ z → z < n → 0 ≤ w → w < n → at' ns z = at' ns w → Gen n (fun x y => K n ns x y ∨ ((x, y) = l ∨ B x y)) z w := fun z w h1 h2 h3 h4 h => .base (.inl ⟨⟨h1, h2⟩, ⟨h3, h4⟩, h⟩) h1 h2 h3 h4
      have link : Gen n (fun x y => K n ns x y ∨ ((x, y) = l ∨ B x y)) l.1 l.2 := .base (.inr (.inl rfl)) h1.1 h1.2 h2.1 h2.2
      by_cases q1 : at' ns x = at' ns l.1
      · by_cases q2 : at' ns y = at' ns l.1
        · exact same x y a b c d (q1.trans q2.symm)
        · rw [if_pos q1, if_neg q2] at hk
          exact ((same x l.1 a b h1.1 h1.2 q1).trn link).trn (same l.2 y h2.1 h2.2 c d hk)
      · by_cases q2 : at' ns y = at' ns l.1
        · rw [if_neg q1, if_pos q2] at hk
          exact ((same x l.2 a b h2.1 h2.2 hk).trn link.sym).trn (same l.1 y h1.1 h1.2 c d q2.symm)
        · rw [if_neg q1, if_neg q2] at hk
          exact same x y a b c d hk
    · exact .base (.inr (.inr h)) a b c d
  · rcases h with h | h | h
    · refine .base (.inl ⟨h.1, h.2.1, ?_⟩) a b c d
      rw [nm_at a (by omega), nm_at c (by omega), h.2.2]
    · subst h
      refine .base (.inl ⟨⟨a, b⟩, ⟨c, d⟩, ?_⟩) a b c d
      rw [nm_at a (by omega), nm_at c (by omega), if_pos rfl]
      split <;> rfl
    · exact .base (.inr h) a b c d
def nmAll (ns : List Int) (L : Ln) : List Int := L.foldl nmStep ns
theorem nmAll_len : ∀ {L : Ln} {ns : List Int}, (nmAll ns L).length = ns.length
  | [], _ => rfl
  | l :: L, ns => by
    show (nmAll (nmStep ns l) L).length = _
    rw [nmAll_len, nm_len]
def inR (n : Int) (L : Ln) : Prop := ∀ l ∈ L, (0 ≤ l.1 ∧ l.1 < n) ∧ 0 ≤ l.2 ∧ l.2 < n
theorem nmAll_gen : ∀ {L : Ln} {ns : List Int}, (ns.length : Int) = n → inR n L → K n (nmAll ns L) = Gen n (fun x y => K n ns x y ∨ rl L x y)
  | [], ns, _, _ => by
    have e : (fun x y => K n ns x y ∨ rl [] x y) = K n ns := rel_ext fun x y => ⟨fun h => h.elim id fun h => (by cases h), .inl⟩
    rw [e, gen_self K_eqv]; rfl
  | l :: L, ns, hl, h => by
    have hl' := h l List.mem_cons_self
    show K n (nmAll (nmStep ns l) L) = _
    rw [nmAll_gen (by rw [nm_len]; exact hl) fun x hx => h x (List.mem_cons_of_mem _ hx), nm_gen (B := rl L) hl hl'.1 hl'.2]
    congr 1
    refine rel_ext fun x y => ?_
    show _ ∨ (_ ∨ _) ↔ _ ∨ (x, y) ∈ l :: L
    rw [List.mem_cons]; rfl
theorem at_rng {x : Int} (h0 : 0 ≤ x) (h1 : x < n) : at' (rng n) x = x := by
  unfold at' rng
  rw [List.getD_eq_getElem?_getD, get_seqI (by omega)]
  show 0 + (x.toNat : Int) = x
  omega
theorem nmAll_rng {L : Ln} (h0 : 0 ≤ n) (h : inR n L) : K n (nmAll (rng n) L) = Gen n (rl L) := by
  rw [nmAll_gen (by rw [len_rng]; omega) h]
  refine gen_eq (fun x y g a b c d => ?_) fun x y g a b c d => .base (.inr g) a b c d
  rcases g with ⟨_, _, g⟩ | g
  · rw [at_rng a b, at_rng c d] at g
    subst g
    exact .rfl a b
  · exact .base g a b c d
/-! ### places of each name -/
open Z (grpAdd grpFrom)
structure GInv (ns : List Int) (i : Nat) (gs : List (Int × List Int)) : Prop where
  nd : (gs.map (·.1)).Nodup
  pl : ∀ g ∈ gs, g.2 ≠ [] ∧ Asc g.2 ∧ ∀ x, x ∈ g.2 ↔ (0 ≤ x ∧ x < i) ∧ at' ns x = g.1
  all : ∀ x : Int, 0 ≤ x → x < i → at' ns x ∈ gs.map (·.1)
theorem grpAdd_keys {k i : Int} : ∀ {gs : List (Int × List Int)}, (grpAdd k i gs).map (·.1) = if k ∈ gs.map (·.1) then gs.map (·.1) else gs.map (·.1) ++ [k]
  | [] => by simp [grpAdd]
  | (k', l) :: r => by
    unfold grpAdd
    by_cases h : k' = k
    · subst h; simp
    · rw [if_neg h, List.map_cons, grpAdd_keys]
      have : k ≠ k' := fun q => h q.symm
      by_cases h2 : k ∈ r.map (·.1)
      · rw [if_pos h2, if_pos (by simp only [List.map_cons, List.mem_cons]; exact .inr h2)]; rfl
      · rw [if_neg h2, if_neg (by simp only [List.map_cons, List.mem_cons]; exact fun q => q.elim this h2)]; rfl
theorem grpAdd_mem {k i : Int} : ∀ {gs : List (Int × List Int)}, (gs.map (·.1)).Nodup → ∀ g, g ∈ grpAdd k i gs ↔ (g.1 ≠ k ∧ g ∈ gs) ∨ (g.1 = k ∧ ((∃ l, (k, l) ∈ gs ∧ g.2 = l ++ [i]) ∨ (k ∉ gs.map (·.1) ∧ g.2 = [i])))
  | [], _, (a, b) => by simp [grpAdd]
  | (k', l) :: r, nd, g => by
    rw [List.map_cons, List.nodup_cons] at nd
    unfold grpAdd
    by_cases h : k' = k
    · subst h
      rw [if_pos rfl, List.mem_cons]
      constructor
      · rintro (rfl | h)
        · exact .inr ⟨rfl, .inl ⟨l, List.mem_cons_self, rfl⟩⟩
        · refine .inl ⟨fun q => nd.1 ?_, List.mem_cons_of_mem _ h⟩
          rw [← q]; exact List.mem_map.mpr ⟨g, h, rfl⟩
      · rintro (⟨h1, h2⟩ | ⟨h1, h2⟩)
        · rcases List.mem_cons.mp h2 with rfl | h2
          · exact absurd rfl h1
          · exact .inr h2
        · rcases h2 with ⟨l', h2, h3⟩ | ⟨h2, h3⟩
          · rcases List.mem_cons.mp h2 with q | h2
            · cases q
              exact .inl (Prod.ext h1 h3)
            · exact absurd (List.mem_map.mpr ⟨_, h2, rfl⟩) nd.1
          · exact absurd (by simp) h2
    · rw [if_neg h, List.mem_cons, grpAdd_mem nd.2 g]
      have hk : k ≠ k' := fun q => h q.symm
      constructor
      · rintro (rfl | ⟨h1, h2⟩ | ⟨h1, h2⟩)
        · exact .inl ⟨h, List.mem_cons_self⟩
        · exact .inl ⟨h1, List.mem_cons_of_mem _ h2⟩
        · refine .inr ⟨h1, ?_⟩
          rcases h2 with ⟨l', h2, h3⟩ | ⟨h2, h3⟩
          · exact .inl ⟨l', List.mem_cons_of_mem _ h2, h3⟩
          · exact .inr ⟨by simp only [List.map_cons, List.mem_cons]; exact fun q => q.elim hk h2, h3⟩
      · rintro (⟨h1, h2⟩ | ⟨h1, h2⟩)
        · rcases List.mem_cons.mp h2 with rfl | h2
          · exact .inl rfl
          · exact .inr (.inl ⟨h1, h2⟩)
        · rcases h2 with ⟨l', h2, h3⟩ | ⟨h2, h3⟩
          · rcases List.mem_cons.mp h2 with q | h2
            · cases q; exact absurd rfl hk
            · exact .inr (.inr ⟨h1, .inl ⟨l', h2, h3⟩⟩)
          · exact .inr (.inr ⟨h1, .inr ⟨fun q => h2 (List.mem_cons_of_mem _ q), h3⟩⟩)
theorem ginv_step {ns : List Int} {i : Nat} {gs : List (Int × List Int)} (g : GInv ns i gs) : GInv ns (i + 1) (grpAdd (at' ns i) i gs) := by
  have key : ∀ x : Int, 0 ≤ x ∧ x < ((i + 1 : Nat) : Int) ↔ (0 ≤ x ∧ x < (i : Int)) ∨ x = i := fun x => by omega
  refine ⟨?_, fun a ha => ?_, fun x h0 h1 => ?_⟩
  · rw [grpAdd_keys]
    split
    · exact g.nd
    · rename_i h
      exact List.nodup_append.mpr ⟨g.nd, by simp, fun x hx y hy => by
        have : y = at' ns i := by simpa using hy
        subst this
        exact fun q => h (q ▸ hx)⟩
  · rcases (grpAdd_mem g.nd a).mp ha with ⟨h1, h2⟩ | ⟨h1, ⟨l, h2, h3⟩ | ⟨h2, h3⟩⟩
    · obtain ⟨p1, p2, p3⟩ := g.pl a h2
      refine ⟨p1, p2, fun x => ?_⟩
      rw [p3, key]
      constructor
      · exact fun ⟨a, b⟩ => ⟨.inl a, b⟩
      · rintro ⟨q | q, b⟩
        · exact ⟨q, b⟩
        · subst q; exact absurd b.symm h1
    · obtain ⟨p1, p2, p3⟩ := g.pl _ h2
      rw [h3]
      refine ⟨by simp, List.pairwise_append.mpr ⟨p2, by simp, fun x hx y hy => ?_⟩, fun x => ?_⟩
      · have := (p3 x).mp hx
        have : y = i := by simpa using hy
        omega
      · rw [List.mem_append, key]
        have e := p3 x
        simp only at e
        rw [e, h1]
        simp only [List.mem_singleton]
        constructor
        · rintro (⟨a, b⟩ | rfl)
          · exact ⟨.inl a, b⟩
          · exact ⟨.inr rfl, rfl⟩
        · rintro ⟨a | a, b⟩
          · exact .inl ⟨a, b⟩
          · exact .inr a
    · rw [h3]
      refine ⟨by simp, by simp, fun x => ?_⟩
      rw [key, h1]
      simp only [List.mem_singleton]
      constructor
      · rintro rfl; exact ⟨.inr rfl, rfl⟩
      · rintro ⟨a | a, b⟩
        · exact absurd (b ▸ g.all x a.1 a.2) h2
        · exact a
  · rw [grpAdd_keys]
    rcases (key x).mp ⟨h0, h1⟩ with h | rfl
    · have := g.all x h.1 h.2
      split
      · exact this
      · exact List.mem_append_left _ this
    · split
      · assumption
      · simp
theorem ginv_from : ∀ (ks : List Int) (ns : List Int) (i : Nat) (gs : List (Int × List Int)), GInv ns i gs → (∀ j : Nat, j < ks.length → ks.getD j 0 = at' ns ((i + j : Nat) : Int)) → GInv ns (i + ks.length) (grpFrom i ks gs)
  | [], ns, i, gs, h, _ => h
  | k :: ks, ns, i, gs, h, hk => by
    show GInv ns (i + (ks.length + 1)) (grpFrom ((i : Int) + 1) ks (grpAdd k i gs))
    have e : k = at' ns (i : Int) := by have := hk 0 (by simp); simpa using this
    have := ginv_from ks ns (i + 1) (grpAdd k i gs) (by rw [e]; exact ginv_step h) fun j hj => by
      have := hk (j + 1) (by simp; omega)
      have e2 : i + 1 + j = i + (j + 1) := by omega
      rw [e2, ← this]; rfl
    have e3 : i + (ks.length + 1) = i + 1 + ks.length := by omega
    rw [e3]
    exact this
theorem ginv_all (ns : List Int) : GInv ns ns.length (grpFrom 0 ns []) := by
  have := ginv_from ns ns 0 [] ⟨by simp, fun g hg => (by cases hg), fun x h0 h1 => by omega⟩ fun j hj => by
    unfold at'
    congr 1
    omega
  simpa using this
theorem part_grp {ns : List Int} (hl : (ns.length : Int) = n) : Part n (K n ns) ((grpFrom 0 ns []).map (·.2)) := by
  have g := ginv_all ns
  refine ⟨?_, fun b hb => ?_, fun b hb => ?_, fun x h0 h1 => ?_⟩
  · have key : ∀ a ∈ grpFrom 0 ns [], ∀ b ∈ grpFrom 0 ns [], a.2 = b.2 → a.1 = b.1 := fun a ha b hb e => by
      obtain ⟨x, r, hx⟩ := List.exists_cons_of_ne_nil (g.pl a ha).1
      have h1 := ((g.pl a ha).2.2 x).mp (by rw [hx]; exact List.mem_cons_self)
      have h2 := ((g.pl b hb).2.2 x).mp (by rw [← e, hx]; exact List.mem_cons_self)
      rw [← h1.2, ← h2.2]
    have nd := g.nd
    unfold List.Nodup at nd ⊢
    rw [List.pairwise_map] at nd ⊢
    exact nd.imp_of_mem fun {a b} ha hb h e => h (key a ha b hb e)
  · obtain ⟨a, ha, rfl⟩ := List.mem_map.mp hb
    exact (g.pl a ha).2.1
  · obtain ⟨a, ha, rfl⟩ := List.mem_map.mp hb
    obtain ⟨x, r, hx⟩ := List.exists_cons_of_ne_nil (g.pl a ha).1
    have h1 := ((g.pl a ha).2.2 x).mp (by rw [hx]; exact List.mem_cons_self)
    refine ⟨x, h1.1.1, by omega, fun y => ?_⟩
    rw [(g.pl a ha).2.2 y]
    unfold K
    rw [h1.2]
    constructor
    · rintro ⟨⟨a, b⟩, c⟩; exact ⟨⟨h1.1.1, by omega⟩, ⟨a, by omega⟩, c.symm⟩
    · rintro ⟨_, ⟨a, b⟩, c⟩; exact ⟨⟨a, by omega⟩, c.symm⟩
  · obtain ⟨a, ha, e⟩ := List.mem_map.mp (g.all x h0 (by omega))
    exact ⟨a.2, List.mem_map.mpr ⟨a, ha, rfl⟩, ((g.pl a ha).2.2 x).mpr ⟨⟨h0, by omega⟩, e.symm⟩⟩
/-! ### blocks put together (the laws' way) -/
/-- a block list over one link -/
theorem Part.join {l : List (List Int)} (e : Eqv n R) (p : Part n R l) {a b : Int} {one two s : List Int} (h1 : one ∈ l) (h2 : two ∈ l) (ha : a ∈ one) (hb : b ∈ two) (hne : one ≠ two) (hs : Asc s) (hm : ∀ x, x ∈ s ↔ x ∈ one ∨ x ∈ two) :
    Part n (Gen n fun x y => R x y ∨ (x, y) = (a, b)) ((l.filter fun x => decide (x ≠ one ∧ x ≠ two)) ++ [s]) := by
  have blk : ∀ c ∈ l, ∀ x, x ∈ c → (0 ≤ x ∧ x < n) ∧ ∀ y, y ∈ c ↔ R x y := fun c hc x hx => by
    obtain ⟨z, h0, h1, hz⟩ := p.rel c hc
    have := (hz x).mp hx
    exact ⟨e.dom2 this, fun y => by rw [hz y]; exact ⟨fun g => e.trn (e.sym this) g, fun g => e.trn this g⟩⟩
  have one_of : ∀ c ∈ l, ∀ d ∈ l, ∀ x, x ∈ c → x ∈ d → c = d := fun c hc d hd x h1 h2 => asc_eq (p.asc c hc) (p.asc d hd) fun y => by rw [(blk c hc x h1).2 y, (blk d hd x h2).2 y]
  -- the joined relation
  have da := blk one h1 a ha
  have db := blk two h2 b hb
  let J : Rel := fun x y => R x y ∨ (x ∈ s ∧ y ∈ s)
  have sdom : ∀ x, x ∈ s → 0 ≤ x ∧ x < n := fun x hx => ((hm x).mp hx).elim (fun h => (blk one h1 x h).1) fun h => (blk two h2 x h).1
  have sclosed : ∀ x y, x ∈ s → R x y → y ∈ s := fun x y hx hr => (hm y).mpr (((hm x).mp hx).imp (fun h => ((blk one h1 x h).2 y).mpr hr) fun h => ((blk two h2 x h).2 y).mpr hr)
  have Je : Eqv n J := by
    refine ⟨fun h => h.elim e.dom fun h => sdom _ h.1, fun h0 h1 => .inl (e.rfl h0 h1), fun h => h.imp e.sym fun h => ⟨h.2, h.1⟩, fun h g => ?_⟩
    rcases h with h | h
    · rcases g with g | g
      · exact .inl (e.trn h g)
      · exact .inr ⟨sclosed _ _ g.1 (e.sym h), g.2⟩
    · rcases g with g | g
      · exact .inr ⟨h.1, sclosed _ _ h.2 g⟩
      · exact .inr ⟨h.1, g.2⟩
  have eJ : Gen n (fun x y => R x y ∨ (x, y) = (a, b)) = J := rel_ext fun x y => by
    constructor
    · refine Gen.least Je fun x y h _ _ _ _ => ?_
      rcases h with h | h
      · exact .inl h
      · cases h; exact .inr ⟨(hm a).mpr (.inl ha), (hm b).mpr (.inr hb)⟩
    · have link : Gen n (fun x y => R x y ∨ (x, y) = (a, b)) a b := .base (.inr rfl) da.1.1 da.1.2 db.1.1 db.1.2
      have gr : ∀ x y, R x y → Gen n (fun x y => R x y ∨ (x, y) = (a, b)) x y := fun x y h => .base (.inl h) (e.dom h).1 (e.dom h).2 (e.dom2 h).1 (e.dom2 h).2
      have toa : ∀ x, x ∈ s → Gen n (fun x y => R x y ∨ (x, y) = (a, b)) a x := fun x hx => by
        rcases (hm x).mp hx with h | h
        · exact gr _ _ ((da.2 x).mp h)
        · exact link.trn (gr _ _ ((db.2 x).mp h))
      rintro (h | h)
      · exact gr _ _ h
      · exact (toa x h.1).sym.trn (toa y h.2)
  rw [eJ]
  have fm : ∀ c, c ∈ l.filter (fun x => decide (x ≠ one ∧ x ≠ two)) ↔ c ∈ l ∧ c ≠ one ∧ c ≠ two := fun c => by rw [List.mem_filter, decide_eq_true_eq]
  have sep : ∀ c ∈ l, c ≠ one → c ≠ two → ∀ x, x ∈ c → x ∉ s := fun c hc n1 n2 x hx hs' => by
    rcases (hm x).mp hs' with h | h
    · exact n1 (one_of c hc one h1 x hx h)
    · exact n2 (one_of c hc two h2 x hx h)
  refine ⟨List.nodup_append.mpr ⟨p.nd.filter _, by simp, fun c hc d hd => ?_⟩, fun c hc => ?_, fun c hc => ?_, fun x h0 h1' => ?_⟩
  · have : d = s := by simpa using hd
    subst this
    intro q
    subst q
    obtain ⟨hc, n1, n2⟩ := (fm c).mp hc
    exact sep c hc n1 n2 a ((hm a).mpr (.inl ha)) ((hm a).mpr (.inl ha))
  · rcases List.mem_append.mp hc with hc | hc
    · exact p.asc c ((fm c).mp hc).1
    · have : c = s := by simpa using hc
      rw [this]; exact hs
  · rcases List.mem_append.mp hc with hc | hc
    · obtain ⟨hc, n1, n2⟩ := (fm c).mp hc
      obtain ⟨z, h0, h1, hz⟩ := p.rel c hc
      refine ⟨z, h0, h1, fun y => ?_⟩
      rw [hz y]
      have zc : z ∈ c := (hz z).mpr (e.rfl h0 h1)
      exact ⟨.inl, fun h => h.elim id fun h => absurd h.1 (sep c hc n1 n2 z zc)⟩
    · have : c = s := by simpa using hc
      subst this
      have as := (hm a).mpr (.inl ha)
      exact ⟨a, da.1.1, da.1.2, fun y => ⟨fun h => .inr ⟨as, h⟩, fun h => h.elim (fun h => sclosed a y as h) fun h => h.2⟩⟩
  · obtain ⟨c, hc, hx⟩ := p.all x h0 h1'
    by_cases q : c ≠ one ∧ c ≠ two
    · exact ⟨c, List.mem_append_left _ ((fm c).mpr ⟨hc, q⟩), hx⟩
    · refine ⟨s, List.mem_append_right _ (by simp), (hm x).mpr ?_⟩
      by_cases q1 : c = one
      · subst q1; exact .inl hx
      · by_cases q2 : c = two
        · subst q2; exact .inr hx
        · exact absurd ⟨q1, q2⟩ q
theorem Part.joinSame {l : List (List Int)} (e : Eqv n R) (p : Part n R l) {a b : Int} {one : List Int} (h1 : one ∈ l) (ha : a ∈ one) (hb : b ∈ one) : (Gen n fun x y => R x y ∨ (x, y) = (a, b)) = R := by
  obtain ⟨z, h0, h1, hz⟩ := p.rel one h1
  refine rel_ext fun x y => ⟨Gen.least e fun x y h _ _ _ _ => ?_, fun h => .base (.inl h) (e.dom h).1 (e.dom h).2 (e.dom2 h).1 (e.dom2 h).2⟩
  rcases h with h | h
  · exact h
  · cases h
    exact e.trn (e.sym ((hz a).mp ha)) ((hz b).mp hb)
theorem part_rng : Part n (Gen n (rl [])) ((rng n).map fun x => [x]) := by
  have er : ∀ x y, Gen n (rl []) x y ↔ x = y ∧ 0 ≤ x ∧ x < n := fun x y => by
    constructor
    · intro h
      refine Gen.least (S := fun x y => x = y ∧ 0 ≤ x ∧ x < n) ⟨fun h => h.2, fun a b => ⟨rfl, a, b⟩, fun h => ⟨h.1.symm, h.1 ▸ h.2⟩, fun h g => ⟨h.1.trans g.1, h.2⟩⟩ (fun x y h => by cases h) h
    · rintro ⟨rfl, a, b⟩; exact .rfl a b
  refine ⟨?_, fun b hb => ?_, fun b hb => ?_, fun x h0 h1 => ?_⟩
  · unfold List.Nodup
    rw [List.pairwise_map]
    exact (nodup_of_asc asc_rng).imp fun {a b} h q => h (by simpa using q)
  · obtain ⟨x, _, rfl⟩ := List.mem_map.mp hb; simp
  · obtain ⟨x, hx, rfl⟩ := List.mem_map.mp hb
    have := mem_rng.mp hx
    refine ⟨x, this.1, this.2, fun y => ?_⟩
    rw [er]
    simp only [List.mem_singleton]
    exact ⟨fun h => ⟨h.symm, this⟩, fun h => h.1.symm⟩
  · exact ⟨[x], List.mem_map.mpr ⟨x, mem_rng.mpr ⟨h0, h1⟩, rfl⟩, by simp⟩
theorem gen_snoc {L : Ln} {l : Int × Int} : Gen n (fun x y => Gen n (rl L) x y ∨ (x, y) = l) = Gen n (rl (L ++ [l])) := by
  refine gen_eq (fun x y h a b c d => ?_) fun x y h a b c d => ?_
  · rcases h with h | h
    · exact Gen.mono (fun x y h a b c d => .base (List.mem_append_left _ h) a b c d) h
    · exact .base (List.mem_append_right _ (by simp [h])) a b c d
  · rcases List.mem_append.mp h with h | h
    · exact .base (.inl (.base h a b c d)) a b c d
    · exact .base (.inr (by simpa using h)) a b c d
end M

/-! M5: merged by hand. -/
namespace M
open Classical Z
variable {G : Nat → Option DD}
def dP (p : Int × Int) : DD := .tup [.int p.1, .int p.2]
theorem bind_dP {ts : Tgs} {l : Int × Int} {e : Z.Env} : bindTg (.tp ts) (dP l) e = bindTgs ts [.int l.1, .int l.2] e := rfl
def nT : Nat → Fn := fun _ _ _ => .no
theorem atD_int {ns : List Int} {x : Int} (h0 : 0 ≤ x) (h1 : x < ns.length) : atD (.lst (ns.map .int)) (.int x) = some (.int (at' ns x)) := by
  refine at_lst h0 ?_
  rw [List.getElem?_map, List.getElem?_eq_getElem (by omega)]
  unfold at'
  rw [List.getD_eq_getElem?_getD, List.getElem?_eq_getElem (by omega)]
  rfl
theorem mrg_pre {m : Int} {L : Ln} {links : DD} (h0 : 0 ≤ m) (h1 : m ≤ 1000) (hL : inR m L) (hlk : itemsOf links = some (L.map dP)) :
    ∃ a b c d x, xss nT G mrgPre [.dat (.int m), .dat links, .no, .no, .no, .no, .no, .no, .no, .no, .no] = .nx [.dat (.int m), .dat links, .own false ((nmAll (rng m) L).map .int), a, b, .no, .no, c, d, x, .no] := by
  unfold mrgPre
  simp -implicitDefEqProofs only [evO_some, bnd_ok, bnd_ex, lift_some, liftC_dat, liftC_own, fl_ok, fl_ex, then_nx, then_rt, then_ex, data_dat, data_own, data_ex, truth_ok, truth_ex, readC_dat, readC_own, peekC_dat, peekC_own, ev_var, ev_lit, ev_gc, ev_fnm, ev_bin, ev_not, ev_and, ev_or, ev_cmp, ev_chn, ev_ite, ev_tup, ev_lst, ev_idx, ev_vix, ev_vln, ev_vcl, ev_vcr, ev_slc, ev_rev, ev_app, ev_appP, ev_bi, ev_mn, ev_rgl, ev_rgt, ev_isi, ev_mth, ev_neg, evs_nil, evs_cons, evo_non, evo_som, evc_non, evc_som, evi_seq, evi_rng, callR_dat, callR_own, callR_ex, callA_eq, callP_own, callRp_ok, callRp_ex, putP_own, xss_nil, xss_cons, xs_set, stC_ok, bindS_some, xs_asg, xs_tpar, bind_nm, bind_tp, binds_nil, binds_cons, ownC_some, ownQ_own, ownAt_eq, xs_sti, xs_aug, xs_apd, xs_xtd, xs_exp, xs_iff, xs_for, xs_whl, xs_ret, xs_rse, xs_pas, xs_try, tryE_rt, tryE_nx, tryE_ex, fin_rt, fin_nx, fin_ex, finP_rt, finP_nx, op_addI, op_subI, cmp_lt, cmp_le, cmp_gt, cmp_ge, cmp_eqI, cmp_neI, cmp_eqB, cmp_neB, aug_add, ix_of, cmp_isN, cmp_isNotN, bi_lenL, bi_lenT, bi_listL, bi_listT, bi_tupL, bi_tupT, bi_sum, bi_int, bi_all, bi_any, items_L, items_T, dat_d, own_d, at0, at1, at2, al0, al1,  List.getD_cons_zero, List.getD_cons_succ, List.set_cons_zero, List.set_cons_succ, List.length_cons, List.length_nil, Option.map_some, Option.bind_some, Option.map_none, reduceIte, Nat.reduceLT, Nat.reduceAdd, wipeE, List.length_map, List.getElem?_cons_zero, List.getElem?_cons_succ]
  rw [rngD_one (by omega) (by omega)]
  simp -implicitDefEqProofs only [evO_some, bnd_ok, bnd_ex, lift_some, liftC_dat, liftC_own, fl_ok, fl_ex, then_nx, then_rt, then_ex, data_dat, data_own, data_ex, truth_ok, truth_ex, readC_dat, readC_own, peekC_dat, peekC_own, ev_var, ev_lit, ev_gc, ev_fnm, ev_bin, ev_not, ev_and, ev_or, ev_cmp, ev_chn, ev_ite, ev_tup, ev_lst, ev_idx, ev_vix, ev_vln, ev_vcl, ev_vcr, ev_slc, ev_rev, ev_app, ev_appP, ev_bi, ev_mn, ev_rgl, ev_rgt, ev_isi, ev_mth, ev_neg, evs_nil, evs_cons, evo_non, evo_som, evc_non, evc_som, evi_seq, evi_rng, callR_dat, callR_own, callR_ex, callA_eq, callP_own, callRp_ok, callRp_ex, putP_own, xss_nil, xss_cons, xs_set, stC_ok, bindS_some, xs_asg, xs_tpar, bind_nm, bind_tp, binds_nil, binds_cons, ownC_some, ownQ_own, ownAt_eq, xs_sti, xs_aug, xs_apd, xs_xtd, xs_exp, xs_iff, xs_for, xs_whl, xs_ret, xs_rse, xs_pas, xs_try, tryE_rt, tryE_nx, tryE_ex, fin_rt, fin_nx, fin_ex, finP_rt, finP_nx, op_addI, op_subI, cmp_lt, cmp_le, cmp_gt, cmp_ge, cmp_eqI, cmp_neI, cmp_eqB, cmp_neB, aug_add, ix_of, cmp_isN, cmp_isNotN, bi_lenL, bi_lenT, bi_listL, bi_listT, bi_tupL, bi_tupT, bi_sum, bi_int, bi_all, bi_any, items_L, items_T, dat_d, own_d, at0, at1, at2, al0, al1,  List.getD_cons_zero, List.getD_cons_succ, List.set_cons_zero, List.set_cons_succ, List.length_cons, List.length_nil, Option.map_some, Option.bind_some, Option.map_none, reduceIte, Nat.reduceLT, Nat.reduceAdd, wipeE, List.length_map, List.getElem?_cons_zero, List.getElem?_cons_succ]
  rw [hlk]
  simp -implicitDefEqProofs only [evO_some, bnd_ok, bnd_ex, lift_some, liftC_dat, liftC_own, fl_ok, fl_ex, then_nx, then_rt, then_ex, data_dat, data_own, data_ex, truth_ok, truth_ex, readC_dat, readC_own, peekC_dat, peekC_own, ev_var, ev_lit, ev_gc, ev_fnm, ev_bin, ev_not, ev_and, ev_or, ev_cmp, ev_chn, ev_ite, ev_tup, ev_lst, ev_idx, ev_vix, ev_vln, ev_vcl, ev_vcr, ev_slc, ev_rev, ev_app, ev_appP, ev_bi, ev_mn, ev_rgl, ev_rgt, ev_isi, ev_mth, ev_neg, evs_nil, evs_cons, evo_non, evo_som, evc_non, evc_som, evi_seq, evi_rng, callR_dat, callR_own, callR_ex, callA_eq, callP_own, callRp_ok, callRp_ex, putP_own, xss_nil, xss_cons, xs_set, stC_ok, bindS_some, xs_asg, xs_tpar, bind_nm, bind_tp, binds_nil, binds_cons, ownC_some, ownQ_own, ownAt_eq, xs_sti, xs_aug, xs_apd, xs_xtd, xs_exp, xs_iff, xs_for, xs_whl, xs_ret, xs_rse, xs_pas, xs_try, tryE_rt, tryE_nx, tryE_ex, fin_rt, fin_nx, fin_ex, finP_rt, finP_nx, op_addI, op_subI, cmp_lt, cmp_le, cmp_gt, cmp_ge, cmp_eqI, cmp_neI, cmp_eqB, cmp_neB, aug_add, ix_of, cmp_isN, cmp_isNotN, bi_lenL, bi_lenT, bi_listL, bi_listT, bi_tupL, bi_tupT, bi_sum, bi_int, bi_all, bi_any, items_L, items_T, dat_d, own_d, at0, at1, at2, al0, al1,  List.getD_cons_zero, List.getD_cons_succ, List.set_cons_zero, List.set_cons_succ, List.length_cons, List.length_nil, Option.map_some, Option.bind_some, Option.map_none, reduceIte, Nat.reduceLT, Nat.reduceAdd, wipeE, List.length_map, List.getElem?_cons_zero, List.getElem?_cons_succ]
  have goal : ∃ e2, ((forL (forB nT G (.tp (.cons (.nm 3) (.cons (.nm 4) .nil))) (.cons (.tpar (.cons (.nm 7) (.cons (.nm 8) .nil)) (.cons (.idx (.var 2) (.var 3)) (.cons (.idx (.var 2) (.var 4)) .nil))) <|
    .cons (.set 2 (.cm1 (.ite (.cmp .Eq (.var 9) (.var 7)) (.var 8) (.var 9)) (.nm 9) (.seq (.var 2)) .non [9])) <| .nil)) (L.map dP) [.dat (.int m), .dat links, .own false ((rng m).map .int), .no, .no, .no, .no, .no, .no, .no, .no]).then fun e1 => .nx e1) = .nx e2 ∧ ∃ a b c d x, e2 = [.dat (.int m), .dat links, .own false ((nmAll (rng m) L).map .int), a, b, .no, .no, c, d, x, .no] := by
    refine for_nx (fun pre e => ∃ a b c d x, e = [.dat (.int m), .dat links, .own false ((nmAll (rng m) pre).map .int), a, b, .no, .no, c, d, x, .no]) ⟨_, _, _, _, _, rfl⟩ (fun pre l post hx e he => ?_) fun e he => ⟨e, rfl, he⟩
    obtain ⟨a, b, c, d, x, rfl⟩ := he
    have hl := hL l (by rw [hx]; simp)
    have len : ((nmAll (rng m) pre).length : Int) = m := by rw [nmAll_len, len_rng]; omega
    rw [forB_some (by simp -implicitDefEqProofs only [evO_some, bnd_ok, bnd_ex, lift_some, liftC_dat, liftC_own, fl_ok, fl_ex, then_nx, then_rt, then_ex, data_dat, data_own, data_ex, truth_ok, truth_ex, readC_dat, readC_own, peekC_dat, peekC_own, ev_var, ev_lit, ev_gc, ev_fnm, ev_bin, ev_not, ev_and, ev_or, ev_cmp, ev_chn, ev_ite, ev_tup, ev_lst, ev_idx, ev_vix, ev_vln, ev_vcl, ev_vcr, ev_slc, ev_rev, ev_app, ev_appP, ev_bi, ev_mn, ev_rgl, ev_rgt, ev_isi, ev_mth, ev_neg, evs_nil, evs_cons, evo_non, evo_som, evc_non, evc_som, evi_seq, evi_rng, callR_dat, callR_own, callR_ex, callA_eq, callP_own, callRp_ok, callRp_ex, putP_own, xss_nil, xss_cons, xs_set, stC_ok, bindS_some, xs_asg, xs_tpar, bind_nm, bind_tp, binds_nil, binds_cons, ownC_some, ownQ_own, ownAt_eq, xs_sti, xs_aug, xs_apd, xs_xtd, xs_exp, xs_iff, xs_for, xs_whl, xs_ret, xs_rse, xs_pas, xs_try, tryE_rt, tryE_nx, tryE_ex, fin_rt, fin_nx, fin_ex, finP_rt, finP_nx, op_addI, op_subI, cmp_lt, cmp_le, cmp_gt, cmp_ge, cmp_eqI, cmp_neI, cmp_eqB, cmp_neB, aug_add, ix_of, cmp_isN, cmp_isNotN, bi_lenL, bi_lenT, bi_listL, bi_listT, bi_tupL, bi_tupT, bi_sum, bi_int, bi_all, bi_any, items_L, items_T, dat_d, own_d, at0, at1, at2, al0, al1,  List.getD_cons_zero, List.getD_cons_succ, List.set_cons_zero, List.set_cons_succ, List.length_cons, List.length_nil, Option.map_some, Option.bind_some, Option.map_none, reduceIte, Nat.reduceLT, Nat.reduceAdd, wipeE, List.length_map, List.getElem?_cons_zero, List.getElem?_cons_succ, bind_dP]; rfl)]
    have g1 := atD_int (ns := nmAll (rng m) pre) hl.1.1 (by omega)
    have g2 := atD_int (ns := nmAll (rng m) pre) hl.2.1 (by omega)
    simp -implicitDefEqProofs only [evO_some, bnd_ok, bnd_ex, lift_some, liftC_dat, liftC_own, fl_ok, fl_ex, then_nx, then_rt, then_ex, data_dat, data_own, data_ex, truth_ok, truth_ex, readC_dat, readC_own, peekC_dat, peekC_own, ev_var, ev_lit, ev_gc, ev_fnm, ev_bin, ev_not, ev_and, ev_or, ev_cmp, ev_chn, ev_ite, ev_tup, ev_lst, ev_idx, ev_vix, ev_vln, ev_vcl, ev_vcr, ev_slc, ev_rev, ev_app, ev_appP, ev_bi, ev_mn, ev_rgl, ev_rgt, ev_isi, ev_mth, ev_neg, evs_nil, evs_cons, evo_non, evo_som, evc_non, evc_som, evi_seq, evi_rng, callR_dat, callR_own, callR_ex, callA_eq, callP_own, callRp_ok, callRp_ex, putP_own, xss_nil, xss_cons, xs_set, stC_ok, bindS_some, xs_asg, xs_tpar, bind_nm, bind_tp, binds_nil, binds_cons, ownC_some, ownQ_own, ownAt_eq, xs_sti, xs_aug, xs_apd, xs_xtd, xs_exp, xs_iff, xs_for, xs_whl, xs_ret, xs_rse, xs_pas, xs_try, tryE_rt, tryE_nx, tryE_ex, fin_rt, fin_nx, fin_ex, finP_rt, finP_nx, op_addI, op_subI, cmp_lt, cmp_le, cmp_gt, cmp_ge, cmp_eqI, cmp_neI, cmp_eqB, cmp_neB, aug_add, ix_of, cmp_isN, cmp_isNotN, bi_lenL, bi_lenT, bi_listL, bi_listT, bi_tupL, bi_tupT, bi_sum, bi_int, bi_all, bi_any, items_L, items_T, dat_d, own_d, at0, at1, at2, al0, al1,  List.getD_cons_zero, List.getD_cons_succ, List.set_cons_zero, List.set_cons_succ, List.length_cons, List.length_nil, Option.map_some, Option.bind_some, Option.map_none, reduceIte, Nat.reduceLT, Nat.reduceAdd, wipeE, List.length_map, List.getElem?_cons_zero, List.getElem?_cons_succ, g1, g2]
    rw [ev_map (nmAll (rng m) pre) .int (fun x => .int (if x = at' (nmAll (rng m) pre) l.1 then at' (nmAll (rng m) pre) l.2 else x)) (by simp -implicitDefEqProofs only [evO_some, bnd_ok, bnd_ex, lift_some, liftC_dat, liftC_own, fl_ok, fl_ex, then_nx, then_rt, then_ex, data_dat, data_own, data_ex, truth_ok, truth_ex, readC_dat, readC_own, peekC_dat, peekC_own, ev_var, ev_lit, ev_gc, ev_fnm, ev_bin, ev_not, ev_and, ev_or, ev_cmp, ev_chn, ev_ite, ev_tup, ev_lst, ev_idx, ev_vix, ev_vln, ev_vcl, ev_vcr, ev_slc, ev_rev, ev_app, ev_appP, ev_bi, ev_mn, ev_rgl, ev_rgt, ev_isi, ev_mth, ev_neg, evs_nil, evs_cons, evo_non, evo_som, evc_non, evc_som, evi_seq, evi_rng, callR_dat, callR_own, callR_ex, callA_eq, callP_own, callRp_ok, callRp_ex, putP_own, xss_nil, xss_cons, xs_set, stC_ok, bindS_some, xs_asg, xs_tpar, bind_nm, bind_tp, binds_nil, binds_cons, ownC_some, ownQ_own, ownAt_eq, xs_sti, xs_aug, xs_apd, xs_xtd, xs_exp, xs_iff, xs_for, xs_whl, xs_ret, xs_rse, xs_pas, xs_try, tryE_rt, tryE_nx, tryE_ex, fin_rt, fin_nx, fin_ex, finP_rt, finP_nx, op_addI, op_subI, cmp_lt, cmp_le, cmp_gt, cmp_ge, cmp_eqI, cmp_neI, cmp_eqB, cmp_neB, aug_add, ix_of, cmp_isN, cmp_isNotN, bi_lenL, bi_lenT, bi_listL, bi_listT, bi_tupL, bi_tupT, bi_sum, bi_int, bi_all, bi_any, items_L, items_T, dat_d, own_d, at0, at1, at2, al0, al1,  List.getD_cons_zero, List.getD_cons_succ, List.set_cons_zero, List.set_cons_succ, List.length_cons, List.length_nil, Option.map_some, Option.bind_some, Option.map_none, reduceIte, Nat.reduceLT, Nat.reduceAdd, wipeE, List.length_map, List.getElem?_cons_zero, List.getElem?_cons_succ]; rfl) fun y hy => ?hb]
    case hb =>
      simp -implicitDefEqProofs only [evO_some, bnd_ok, bnd_ex, lift_some, liftC_dat, liftC_own, fl_ok, fl_ex, then_nx, then_rt, then_ex, data_dat, data_own, data_ex, truth_ok, truth_ex, readC_dat, readC_own, peekC_dat, peekC_own, ev_var, ev_lit, ev_gc, ev_fnm, ev_bin, ev_not, ev_and, ev_or, ev_cmp, ev_chn, ev_ite, ev_tup, ev_lst, ev_idx, ev_vix, ev_vln, ev_vcl, ev_vcr, ev_slc, ev_rev, ev_app, ev_appP, ev_bi, ev_mn, ev_rgl, ev_rgt, ev_isi, ev_mth, ev_neg, evs_nil, evs_cons, evo_non, evo_som, evc_non, evc_som, evi_seq, evi_rng, callR_dat, callR_own, callR_ex, callA_eq, callP_own, callRp_ok, callRp_ex, putP_own, xss_nil, xss_cons, xs_set, stC_ok, bindS_some, xs_asg, xs_tpar, bind_nm, bind_tp, binds_nil, binds_cons, ownC_some, ownQ_own, ownAt_eq, xs_sti, xs_aug, xs_apd, xs_xtd, xs_exp, xs_iff, xs_for, xs_whl, xs_ret, xs_rse, xs_pas, xs_try, tryE_rt, tryE_nx, tryE_ex, fin_rt, fin_nx, fin_ex, finP_rt, finP_nx, op_addI, op_subI, cmp_lt, cmp_le, cmp_gt, cmp_ge, cmp_eqI, cmp_neI, cmp_eqB, cmp_neB, aug_add, ix_of, cmp_isN, cmp_isNotN, bi_lenL, bi_lenT, bi_listL, bi_listT, bi_tupL, bi_tupT, bi_sum, bi_int, bi_all, bi_any, items_L, items_T, dat_d, own_d, at0, at1, at2, al0, al1,  List.getD_cons_zero, List.getD_cons_succ, List.set_cons_zero, List.set_cons_succ, List.length_cons, List.length_nil, Option.map_some, Option.bind_some, Option.map_none, reduceIte, Nat.reduceLT, Nat.reduceAdd, wipeE, List.length_map, List.getElem?_cons_zero, List.getElem?_cons_succ, eq_int]
      by_cases q : y = at' (nmAll (rng m) pre) l.1
      · refine ⟨_, by simp -implicitDefEqProofs only [evO_some, bnd_ok, bnd_ex, lift_some, liftC_dat, liftC_own, fl_ok, fl_ex, then_nx, then_rt, then_ex, data_dat, data_own, data_ex, truth_ok, truth_ex, readC_dat, readC_own, peekC_dat, peekC_own, ev_var, ev_lit, ev_gc, ev_fnm, ev_bin, ev_not, ev_and, ev_or, ev_cmp, ev_chn, ev_ite, ev_tup, ev_lst, ev_idx, ev_vix, ev_vln, ev_vcl, ev_vcr, ev_slc, ev_rev, ev_app, ev_appP, ev_bi, ev_mn, ev_rgl, ev_rgt, ev_isi, ev_mth, ev_neg, evs_nil, evs_cons, evo_non, evo_som, evc_non, evc_som, evi_seq, evi_rng, callR_dat, callR_own, callR_ex, callA_eq, callP_own, callRp_ok, callRp_ex, putP_own, xss_nil, xss_cons, xs_set, stC_ok, bindS_some, xs_asg, xs_tpar, bind_nm, bind_tp, binds_nil, binds_cons, ownC_some, ownQ_own, ownAt_eq, xs_sti, xs_aug, xs_apd, xs_xtd, xs_exp, xs_iff, xs_for, xs_whl, xs_ret, xs_rse, xs_pas, xs_try, tryE_rt, tryE_nx, tryE_ex, fin_rt, fin_nx, fin_ex, finP_rt, finP_nx, op_addI, op_subI, cmp_lt, cmp_le, cmp_gt, cmp_ge, cmp_eqI, cmp_neI, cmp_eqB, cmp_neB, aug_add, ix_of, cmp_isN, cmp_isNotN, bi_lenL, bi_lenT, bi_listL, bi_listT, bi_tupL, bi_tupT, bi_sum, bi_int, bi_all, bi_any, items_L, items_T, dat_d, own_d, at0, at1, at2, al0, al1,  List.getD_cons_zero, List.getD_cons_succ, List.set_cons_zero, List.set_cons_succ, List.length_cons, List.length_nil, Option.map_some, Option.bind_some, Option.map_none, reduceIte, Nat.reduceLT, Nat.reduceAdd, wipeE, List.length_map, List.getElem?_cons_zero, List.getElem?_cons_succ, q, decide_true]; rfl, by simp -implicitDefEqProofs only [evO_some, bnd_ok, bnd_ex, lift_some, liftC_dat, liftC_own, fl_ok, fl_ex, then_nx, then_rt, then_ex, data_dat, data_own, data_ex, truth_ok, truth_ex, readC_dat, readC_own, peekC_dat, peekC_own, ev_var, ev_lit, ev_gc, ev_fnm, ev_bin, ev_not, ev_and, ev_or, ev_cmp, ev_chn, ev_ite, ev_tup, ev_lst, ev_idx, ev_vix, ev_vln, ev_vcl, ev_vcr, ev_slc, ev_rev, ev_app, ev_appP, ev_bi, ev_mn, ev_rgl, ev_rgt, ev_isi, ev_mth, ev_neg, evs_nil, evs_cons, evo_non, evo_som, evc_non, evc_som, evi_seq, evi_rng, callR_dat, callR_own, callR_ex, callA_eq, callP_own, callRp_ok, callRp_ex, putP_own, xss_nil, xss_cons, xs_set, stC_ok, bindS_some, xs_asg, xs_tpar, bind_nm, bind_tp, binds_nil, binds_cons, ownC_some, ownQ_own, ownAt_eq, xs_sti, xs_aug, xs_apd, xs_xtd, xs_exp, xs_iff, xs_for, xs_whl, xs_ret, xs_rse, xs_pas, xs_try, tryE_rt, tryE_nx, tryE_ex, fin_rt, fin_nx, fin_ex, finP_rt, finP_nx, op_addI, op_subI, cmp_lt, cmp_le, cmp_gt, cmp_ge, cmp_eqI, cmp_neI, cmp_eqB, cmp_neB, aug_add, ix_of, cmp_isN, cmp_isNotN, bi_lenL, bi_lenT, bi_listL, bi_listT, bi_tupL, bi_tupT, bi_sum, bi_int, bi_all, bi_any, items_L, items_T, dat_d, own_d, at0, at1, at2, al0, al1,  List.getD_cons_zero, List.getD_cons_succ, List.set_cons_zero, List.set_cons_succ, List.length_cons, List.length_nil, Option.map_some, Option.bind_some, Option.map_none, reduceIte, Nat.reduceLT, Nat.reduceAdd, wipeE, List.length_map, List.getElem?_cons_zero, List.getElem?_cons_succ]⟩
      · refine ⟨_, by simp -implicitDefEqProofs only [evO_some, bnd_ok, bnd_ex, lift_some, liftC_dat, liftC_own, fl_ok, fl_ex, then_nx, then_rt, then_ex, data_dat, data_own, data_ex, truth_ok, truth_ex, readC_dat, readC_own, peekC_dat, peekC_own, ev_var, ev_lit, ev_gc, ev_fnm, ev_bin, ev_not, ev_and, ev_or, ev_cmp, ev_chn, ev_ite, ev_tup, ev_lst, ev_idx, ev_vix, ev_vln, ev_vcl, ev_vcr, ev_slc, ev_rev, ev_app, ev_appP, ev_bi, ev_mn, ev_rgl, ev_rgt, ev_isi, ev_mth, ev_neg, evs_nil, evs_cons, evo_non, evo_som, evc_non, evc_som, evi_seq, evi_rng, callR_dat, callR_own, callR_ex, callA_eq, callP_own, callRp_ok, callRp_ex, putP_own, xss_nil, xss_cons, xs_set, stC_ok, bindS_some, xs_asg, xs_tpar, bind_nm, bind_tp, binds_nil, binds_cons, ownC_some, ownQ_own, ownAt_eq, xs_sti, xs_aug, xs_apd, xs_xtd, xs_exp, xs_iff, xs_for, xs_whl, xs_ret, xs_rse, xs_pas, xs_try, tryE_rt, tryE_nx, tryE_ex, fin_rt, fin_nx, fin_ex, finP_rt, finP_nx, op_addI, op_subI, cmp_lt, cmp_le, cmp_gt, cmp_ge, cmp_eqI, cmp_neI, cmp_eqB, cmp_neB, aug_add, ix_of, cmp_isN, cmp_isNotN, bi_lenL, bi_lenT, bi_listL, bi_listT, bi_tupL, bi_tupT, bi_sum, bi_int, bi_all, bi_any, items_L, items_T, dat_d, own_d, at0, at1, at2, al0, al1,  List.getD_cons_zero, List.getD_cons_succ, List.set_cons_zero, List.set_cons_succ, List.length_cons, List.length_nil, Option.map_some, Option.bind_some, Option.map_none, reduceIte, Nat.reduceLT, Nat.reduceAdd, wipeE, List.length_map, List.getElem?_cons_zero, List.getElem?_cons_succ, q, decide_false, Bool.false_eq_true]; rfl, by simp -implicitDefEqProofs only [evO_some, bnd_ok, bnd_ex, lift_some, liftC_dat, liftC_own, fl_ok, fl_ex, then_nx, then_rt, then_ex, data_dat, data_own, data_ex, truth_ok, truth_ex, readC_dat, readC_own, peekC_dat, peekC_own, ev_var, ev_lit, ev_gc, ev_fnm, ev_bin, ev_not, ev_and, ev_or, ev_cmp, ev_chn, ev_ite, ev_tup, ev_lst, ev_idx, ev_vix, ev_vln, ev_vcl, ev_vcr, ev_slc, ev_rev, ev_app, ev_appP, ev_bi, ev_mn, ev_rgl, ev_rgt, ev_isi, ev_mth, ev_neg, evs_nil, evs_cons, evo_non, evo_som, evc_non, evc_som, evi_seq, evi_rng, callR_dat, callR_own, callR_ex, callA_eq, callP_own, callRp_ok, callRp_ex, putP_own, xss_nil, xss_cons, xs_set, stC_ok, bindS_some, xs_asg, xs_tpar, bind_nm, bind_tp, binds_nil, binds_cons, ownC_some, ownQ_own, ownAt_eq, xs_sti, xs_aug, xs_apd, xs_xtd, xs_exp, xs_iff, xs_for, xs_whl, xs_ret, xs_rse, xs_pas, xs_try, tryE_rt, tryE_nx, tryE_ex, fin_rt, fin_nx, fin_ex, finP_rt, finP_nx, op_addI, op_subI, cmp_lt, cmp_le, cmp_gt, cmp_ge, cmp_eqI, cmp_neI, cmp_eqB, cmp_neB, aug_add, ix_of, cmp_isN, cmp_isNotN, bi_lenL, bi_lenT, bi_listL, bi_listT, bi_tupL, bi_tupT, bi_sum, bi_int, bi_all, bi_any, items_L, items_T, dat_d, own_d, at0, at1, at2, al0, al1,  List.getD_cons_zero, List.getD_cons_succ, List.set_cons_zero, List.set_cons_succ, List.length_cons, List.length_nil, Option.map_some, Option.bind_some, Option.map_none, reduceIte, Nat.reduceLT, Nat.reduceAdd, wipeE, List.length_map, List.getElem?_cons_zero, List.getElem?_cons_succ]⟩
    simp -implicitDefEqProofs only [evO_some, bnd_ok, bnd_ex, lift_some, liftC_dat, liftC_own, fl_ok, fl_ex, then_nx, then_rt, then_ex, data_dat, data_own, data_ex, truth_ok, truth_ex, readC_dat, readC_own, peekC_dat, peekC_own, ev_var, ev_lit, ev_gc, ev_fnm, ev_bin, ev_not, ev_and, ev_or, ev_cmp, ev_chn, ev_ite, ev_tup, ev_lst, ev_idx, ev_vix, ev_vln, ev_vcl, ev_vcr, ev_slc, ev_rev, ev_app, ev_appP, ev_bi, ev_mn, ev_rgl, ev_rgt, ev_isi, ev_mth, ev_neg, evs_nil, evs_cons, evo_non, evo_som, evc_non, evc_som, evi_seq, evi_rng, callR_dat, callR_own, callR_ex, callA_eq, callP_own, callRp_ok, callRp_ex, putP_own, xss_nil, xss_cons, xs_set, stC_ok, bindS_some, xs_asg, xs_tpar, bind_nm, bind_tp, binds_nil, binds_cons, ownC_some, ownQ_own, ownAt_eq, xs_sti, xs_aug, xs_apd, xs_xtd, xs_exp, xs_iff, xs_for, xs_whl, xs_ret, xs_rse, xs_pas, xs_try, tryE_rt, tryE_nx, tryE_ex, fin_rt, fin_nx, fin_ex, finP_rt, finP_nx, op_addI, op_subI, cmp_lt, cmp_le, cmp_gt, cmp_ge, cmp_eqI, cmp_neI, cmp_eqB, cmp_neB, aug_add, ix_of, cmp_isN, cmp_isNotN, bi_lenL, bi_lenT, bi_listL, bi_listT, bi_tupL, bi_tupT, bi_sum, bi_int, bi_all, bi_any, items_L, items_T, dat_d, own_d, at0, at1, at2, al0, al1,  List.getD_cons_zero, List.getD_cons_succ, List.set_cons_zero, List.set_cons_succ, List.length_cons, List.length_nil, Option.map_some, Option.bind_some, Option.map_none, reduceIte, Nat.reduceLT, Nat.reduceAdd, wipeE, List.length_map, List.getElem?_cons_zero, List.getElem?_cons_succ]
    have e3 : (nmAll (rng m) (pre ++ [l])).map Z.D.int = (nmAll (rng m) pre).map (fun x => .int (if x = at' (nmAll (rng m) pre) l.1 then at' (nmAll (rng m) pre) l.2 else x)) := by
      have e4 : nmAll (rng m) (pre ++ [l]) = nmStep (nmAll (rng m) pre) l := by
        unfold nmAll
        rw [List.foldl_append]
        rfl
      rw [e4]
      unfold nmStep
      rw [List.map_map]
      rfl
    rw [e3]
    exact ⟨_, rfl, _, _, _, _, _, rfl⟩
  obtain ⟨e2, h1, a, b, c, d, x, rfl⟩ := goal
  exact ⟨a, b, c, d, x, h1⟩
theorem mrg_eq {m : Int} {L : Ln} {links : DD} (h0 : 0 ≤ m) (h1 : m ≤ 1000) (hL : inR m L) (hlk : itemsOf links = some (L.map dP)) : mrgFn G none [.int m, links] = .ok (.dat (dB (blocks m (Gen m (rl L))))) [] := by
  obtain ⟨a, b, c, d, x, h⟩ := mrg_pre (G := G) h0 h1 hL hlk
  have len : ((nmAll (rng m) L).length : Int) = m := by rw [nmAll_len, len_rng]; omega
  have p := part_grp (ns := nmAll (rng m) L) len
  have e1 : (grpFrom 0 (nmAll (rng m) L) []).map gTup' = ((grpFrom 0 (nmAll (rng m) L) []).map (·.2)).map dI := by rw [List.map_map]; rfl
  have e2 : mrgFn G none [.int m, links] = (match xss nT G mrgPre [.dat (.int m), .dat links, .no, .no, .no, .no, .no, .no, .no, .no, .no] with
      | .nx e => mrgEnd m e
      | _ => .no) := rfl
  rw [e2, h]
  show (match intsOf ((nmAll (rng m) L).map Z.D.int) with
    | some ns => if m = m ∧ (ns.length : Int) = m ∧ 10 < 11 ∧ ns.length ≤ LIM ∧ sortable ((grpFrom 0 ns []).map gTup') = true then FR.ok (.dat (.tup (sortD ((grpFrom 0 ns []).map gTup')))) [] else .no
    | none => .no) = _
  rw [ints_of]
  show (if m = m ∧ ((nmAll (rng m) L).length : Int) = m ∧ 10 < 11 ∧ (nmAll (rng m) L).length ≤ LIM ∧ sortable ((grpFrom 0 (nmAll (rng m) L) []).map gTup') = true then FR.ok (.dat (.tup (sortD ((grpFrom 0 (nmAll (rng m) L) []).map gTup')))) [] else .no) = _
  have hlim : (nmAll (rng m) L).length ≤ LIM := by unfold LIM; omega
  rw [e1, if_pos ⟨rfl, len, by decide, hlim, p.sortable K_eqv (by omega)⟩, p.sort K_eqv, nmAll_rng h0 hL]
end M

/-! M6: diagrams. -/
namespace M
open Classical Z
structure Dg where
  m : Int
  k : Int
  r : Rel
noncomputable def Dg.d (a : Dg) : DD := dg a.m a.k a.r
structure Dg.Ok (a : Dg) : Prop where
  m0 : 0 ≤ a.m
  m1 : a.m ≤ 100
  k0 : 0 ≤ a.k
  k1 : a.k ≤ 100
  e : Eqv (a.m + a.k) a.r
theorem Dg.ext' {a b : Dg} (h1 : a.m = b.m) (h2 : a.k = b.k) (h3 : ∀ x y, a.r x y ↔ b.r x y) : a = b := by
  cases a; cases b
  simp only at h1 h2 h3
  subst h1 h2
  congr 1
  exact rel_ext h3
noncomputable def Dg.bs (a : Dg) : List (List Int) := blocks (a.m + a.k) a.r
theorem Dg.d_eq (a : Dg) : a.d = .tup [.int a.m, .int a.k, dB a.bs] := rfl
theorem Dg.sh_d (a : Dg) (n : Nat) : a.d.sh (n + 3) = true := sh_dg n _ _ _
theorem Dg.eq_d {a b : Dg} (ha : a.Ok) (hb : b.Ok) : D.eq a.d b.d = decide (a = b) := by
  unfold Dg.d
  rw [eq_dg ha.e hb.e]
  by_cases h : a = b
  · subst h; simp
  · have : ¬ (a.m = b.m ∧ a.k = b.k ∧ a.r = b.r) := fun ⟨h1, h2, h3⟩ => h (Dg.ext' h1 h2 fun x y => by rw [h3])
    simp [h, this]
theorem Dg.d_inj {a b : Dg} (ha : a.Ok) (hb : b.Ok) (h : a.d = b.d) : a = b := by
  have h' : Z.D.tup [.int a.m, .int a.k, dB a.bs] = Z.D.tup [.int b.m, .int b.k, dB b.bs] := h
  have h2 : [Z.D.int a.m, .int a.k, dB a.bs] = [.int b.m, .int b.k, dB b.bs] := by injection h'
  have e1 : a.m = b.m := by injection (List.cons.inj h2).1
  have e2 : a.k = b.k := by injection (List.cons.inj (List.cons.inj h2).2).1
  have e3 : dB a.bs = dB b.bs := (List.cons.inj (List.cons.inj (List.cons.inj h2).2).2).1
  have e4 : D.eq (dB a.bs) (dB b.bs) = true := by rw [e3, eq_dB]; simp
  rw [eq_dB] at e4
  have e5 : a.bs = b.bs := by simpa using e4
  refine Dg.ext' e1 e2 fun x y => ?_
  have hb' := hb.e
  have e6 : blocks (a.m + a.k) a.r = blocks (a.m + a.k) b.r := by
    have : blocks (b.m + b.k) b.r = blocks (a.m + a.k) b.r := by rw [e1, e2]
    rw [← this]; exact e5
  rw [blocks_inj ha.e (by rw [e1, e2]; exact hb') e6]
theorem Dg.Ok.n1 {a : Dg} (h : a.Ok) : a.m + a.k ≤ 200 := by have := h.m1; have := h.k1; omega
theorem Dg.Ok.n0 {a : Dg} (h : a.Ok) : 0 ≤ a.m + a.k := by have := h.m0; have := h.k0; omega
/-! ### made -/
def mk (m k : Int) (L : Ln) : Dg := ⟨m, k, Gen (m + k) (rl L)⟩
theorem mk_ok {m k : Int} {L : Ln} (h0 : 0 ≤ m) (h1 : m ≤ 100) (h2 : 0 ≤ k) (h3 : k ≤ 100) : (mk m k L).Ok := ⟨h0, h1, h2, h3, gen_eqv _ _⟩
/-! ### still -/
def stillR (n : Int) : Rel := fun x y => (0 ≤ x ∧ x < n + n) ∧ (0 ≤ y ∧ y < n + n) ∧ (x = y ∨ y = x + n ∨ x = y + n)
def still (n : Int) : Dg := ⟨n, n, stillR n⟩
theorem stillR_eqv {n : Int} : Eqv (n + n) (stillR n) := by
  refine ⟨fun h => h.1, fun a b => ⟨⟨a, b⟩, ⟨a, b⟩, .inl rfl⟩, fun ⟨a, b, c⟩ => ⟨b, a, by omega⟩, fun ⟨a, b, c⟩ ⟨d, e, f⟩ => ⟨a, e, by omega⟩⟩
theorem still_ok {n : Int} (h0 : 0 ≤ n) (h1 : n ≤ 100) : (still n).Ok := ⟨h0, h1, h0, h1, stillR_eqv⟩
theorem still_bs {n : Int} : (rng n).map (fun i => [i, n + i]) = (still n).bs := by
  refine Part.sorted (R := stillR n) stillR_eqv ⟨?_, fun b hb => ?_, fun b hb => ?_, fun x h0 h1 => ?_⟩ ?_
  · unfold List.Nodup
    rw [List.pairwise_map]
    exact (nodup_of_asc asc_rng).imp fun {a b} h q => h (by simpa using (List.cons.inj q).1)
  · obtain ⟨i, hi, rfl⟩ := List.mem_map.mp hb
    have := mem_rng.mp hi
    simp
    omega
  · obtain ⟨i, hi, rfl⟩ := List.mem_map.mp hb
    have := mem_rng.mp hi
    refine ⟨i, this.1, by show i < n + n; omega, fun y => ?_⟩
    simp only [List.mem_cons, List.not_mem_nil, or_false]
    unfold stillR
    omega
  · have h1' : x < n + n := h1
    by_cases h : x < n
    · exact ⟨[x, n + x], List.mem_map.mpr ⟨x, mem_rng.mpr ⟨h0, h⟩, rfl⟩, by simp⟩
    · exact ⟨[x - n, n + (x - n)], List.mem_map.mpr ⟨x - n, mem_rng.mpr ⟨by omega, by omega⟩, rfl⟩, by simp; omega⟩
  · rw [List.pairwise_map]
    exact asc_rng.imp fun h => lt_heads h
/-! ### one behind another -/
def Dg.then (a b : Dg) : Dg := ⟨a.m, b.k, comp a.m a.k b.k a.r b.r⟩
theorem then_ok {a b : Dg} (ha : a.Ok) (hb : b.Ok) : (a.then b).Ok := ⟨ha.m0, ha.m1, hb.k0, hb.k1, comp_eqv ha.k0 ha.m0⟩
noncomputable def Dg.lost (a b : Dg) : Int := lostN a.m a.k b.k a.r b.r
/-- the pieces -/
noncomputable def Dg.pcs (a b : Dg) : List (List Int) := blocks (a.m + a.k + b.k) (stk a.m a.k b.k a.r b.r)
def Fits : Int → List Dg → Int → Prop
  | n, [], q => n = q
  | n, a :: l, q => a.Ok ∧ a.m = n ∧ Fits a.k l q
def chain (n : Int) (l : List Dg) : Dg := l.foldl Dg.then (still n)
noncomputable def chainLost (n : Int) (l : List Dg) : Int := (l.foldl (fun (p : Dg × Int) b => (p.1.then b, p.2 + p.1.lost b)) (still n, 0)).2
theorem chain_fst {l : List Dg} : ∀ {a : Dg} {i : Int}, (l.foldl (fun (p : Dg × Int) b => (p.1.then b, p.2 + p.1.lost b)) (a, i)).1 = l.foldl Dg.then a := by
  induction l with
  | nil => intro a i; rfl
  | cons b l ih => intro a i; exact ih
theorem fits_app : ∀ {l l' : List Dg} {n p : Int}, Fits n (l ++ l') p ↔ ∃ q, Fits n l q ∧ Fits q l' p
  | [], l', n, p => ⟨fun h => ⟨n, rfl, h⟩, fun ⟨q, h1, h2⟩ => by cases h1; exact h2⟩
  | a :: l, l', n, p => by
    show a.Ok ∧ a.m = n ∧ Fits a.k (l ++ l') p ↔ ∃ q, (a.Ok ∧ a.m = n ∧ Fits a.k l q) ∧ Fits q l' p
    rw [fits_app]
    exact ⟨fun ⟨h1, h2, q, h3, h4⟩ => ⟨q, ⟨h1, h2, h3⟩, h4⟩, fun ⟨q, ⟨h1, h2, h3⟩, h4⟩ => ⟨h1, h2, q, h3, h4⟩⟩
theorem foldl_ok : ∀ {l : List Dg} {a : Dg} {q : Int}, a.Ok → Fits a.k l q → (l.foldl Dg.then a).Ok ∧ (l.foldl Dg.then a).m = a.m ∧ (l.foldl Dg.then a).k = q
  | [], a, q, ha, h => ⟨ha, rfl, h⟩
  | b :: l, a, q, ha, h => foldl_ok (a := a.then b) (then_ok ha h.1) h.2.2
theorem chain_ok {n q : Int} {l : List Dg} (h0 : 0 ≤ n) (h1 : n ≤ 100) (h : Fits n l q) : (chain n l).Ok ∧ (chain n l).m = n ∧ (chain n l).k = q := foldl_ok (a := still n) (still_ok h0 h1) h
/-! ### reading -/
theorem at0d {a : Dg} : atD a.d (.int 0) = some (.int a.m) := by rw [Dg.d_eq, at0]
theorem at1d {a : Dg} : atD a.d (.int 1) = some (.int a.k) := by rw [Dg.d_eq, at1]
theorem at2d {a : Dg} : atD a.d (.int 2) = some (dB a.bs) := by rw [Dg.d_eq, at2]
theorem cut2d {a : Dg} : cutD a.d none (some 2) = some (.dat (.tup [.int a.m, .int a.k])) := by rw [Dg.d_eq]; rfl
theorem links_in {a : Dg} (h : a.Ok) : inR (a.m + a.k) (links (a.m + a.k) a.r) := fun l hl => by
  have := links_rel h.e (x := l.1) (y := l.2) hl
  exact ⟨h.e.dom this, h.e.dom2 this⟩
def sh (m : Int) (L : Ln) : Ln := L.map fun l => (l.1 + m, l.2 + m)
theorem conseq_len (b : List Int) : (conseq b).length ≤ b.length := by
  induction b with
  | nil => exact Nat.le_refl _
  | cons x r ih =>
    cases r with
    | nil => exact Nat.zero_le _
    | cons y r => show (conseq (y :: r)).length + 1 ≤ (y :: r).length + 1; omega
theorem links_len {a : Dg} (h : a.Ok) : (links (a.m + a.k) a.r).length ≤ 40000 := by
  have hb : a.bs.length ≤ 200 := by have := blocks_len h.e; have := h.n1; unfold Dg.bs; omega
  have : ∀ l : List (List Int), (∀ b ∈ l, b ∈ a.bs) → (l.flatMap conseq).length ≤ 200 * l.length := fun l => by
    induction l with
    | nil => intro _; simp
    | cons b l ih =>
      intro hl
      have := ih fun c hc => hl c (List.mem_cons_of_mem _ hc)
      have hb : b.length ≤ 200 := by have := block_len h.e (hl b List.mem_cons_self); have := h.n1; omega
      have hc : (conseq b).length ≤ 200 := by have := conseq_len b; omega
      rw [List.flatMap_cons, List.length_append, List.length_cons]
      omega
  have h1 := this a.bs fun b hb => hb
  show (a.bs.flatMap conseq).length ≤ 40000
  omega
theorem stk_links {a b : Dg} (ha : a.Ok) (hb : b.Ok) (hk : a.k = b.m) : inR (a.m + a.k + b.k) (links (a.m + a.k) a.r ++ sh a.m (links (b.m + b.k) b.r)) ∧ Gen (a.m + a.k + b.k) (rl (links (a.m + a.k) a.r ++ sh a.m (links (b.m + b.k) b.r))) = stk a.m a.k b.k a.r b.r := by
  have h1 := links_in ha
  have h2 := links_in hb
  have := ha.m0; have := ha.k0; have := hb.k0
  refine ⟨fun l hl => ?_, ?_⟩
  · rcases List.mem_append.mp hl with hl | hl
    · have := h1 l hl; omega
    · obtain ⟨z, hz, rfl⟩ := List.mem_map.mp hl
      have := h2 z hz
      simp only
      omega
  · have gb := gen_links hb.e
    have g := stk_gen (m := a.m) (k := a.k) (p := b.k) (B := rl (links (a.m + a.k) a.r)) (C := rl (links (b.m + b.k) b.r)) (R := a.r) (S := b.r) ha.m0 ha.k0 hb.k0 (gen_links ha.e) (by rw [hk]; exact gb)
    rw [← g]
    congr 1
    refine rel_ext fun x y => ?_
    unfold rl
    rw [List.mem_append]
    constructor
    · rintro (h | h)
      · have := h1 _ h
        exact .inl ⟨h, by omega, by omega, by omega, by omega⟩
      · obtain ⟨z, hz, q⟩ := List.mem_map.mp h
        cases q
        have := h2 z hz
        refine .inr ⟨?_, by omega, by omega, by omega, by omega⟩
        rw [Int.add_sub_cancel, Int.add_sub_cancel]
        exact hz
    · rintro (h | h)
      · exact .inl h.1
      · exact .inr (List.mem_map.mpr ⟨_, h.1, by simp⟩)
/-! ### first and last -/
def hd (b : List Int) : Int := b.headD 0
def ls (b : List Int) : Int := b.getLastD 0
theorem hd_mem {b : List Int} (h : b ≠ []) : hd b ∈ b := by
  cases b with
  | nil => exact absurd rfl h
  | cons x r => exact List.mem_cons_self
theorem ls_mem {b : List Int} (h : b ≠ []) : ls b ∈ b := by
  unfold ls
  rw [List.getLastD_eq_getLast?, List.getLast?_eq_some_getLast h]
  exact List.getLast_mem h
theorem hd_le {b : List Int} (h : Asc b) {x : Int} (hx : x ∈ b) : hd b ≤ x := by
  cases b with
  | nil => cases hx
  | cons y r =>
    rcases List.mem_cons.mp hx with rfl | hx
    · exact Int.le_refl _
    · have : y < x := (List.pairwise_cons.mp h).1 x hx
      show y ≤ x
      omega
theorem le_ls {b : List Int} (h : Asc b) {x : Int} (hx : x ∈ b) : x ≤ ls b := by
  induction b generalizing x with
  | nil => cases hx
  | cons y r ih =>
    obtain ⟨h1, h2⟩ := List.pairwise_cons.mp h
    cases r with
    | nil =>
      have : x = y := by simpa using hx
      rw [this]; exact Int.le_refl _
    | cons z r =>
      have e : ls (y :: z :: r) = ls (z :: r) := rfl
      rw [e]
      rcases List.mem_cons.mp hx with rfl | hx
      · have := h1 z List.mem_cons_self
        have := ih h2 (x := z) List.mem_cons_self
        omega
      · exact ih h2 hx
theorem at_hd {b : List Int} (h : b ≠ []) : atD (dI b) (.int 0) = some (.int (hd b)) := by
  cases b with
  | nil => exact absurd rfl h
  | cons x r => exact at0
theorem at_ls {b : List Int} (h : b ≠ []) : atD (dI b) (.int (-1)) = some (.int (ls b)) := by
  refine at_last_tup ?_
  unfold ls
  rw [List.getLast?_map, List.getLastD_eq_getLast?, List.getLast?_eq_some_getLast h]
  rfl
theorem part_ends {m k : Int} {b : List Int} (h : Asc b) (hne : b ≠ []) : part m k b = [] ↔ (m ≤ hd b ∧ ls b < m + k) := by
  rw [part_nil]
  exact ⟨fun g => ⟨(g _ (hd_mem hne)).1, (g _ (ls_mem hne)).2⟩, fun g x hx => ⟨by have := hd_le h hx; omega, by have := le_ls h hx; omega⟩⟩
theorem chain_snoc {n : Int} {l : List Dg} {a : Dg} : chain n (l ++ [a]) = (chain n l).then a := by unfold chain; rw [List.foldl_append]; rfl
theorem chainLost_snoc {n : Int} {l : List Dg} {a : Dg} : chainLost n (l ++ [a]) = chainLost n l + (chain n l).lost a := by
  unfold chainLost
  rw [List.foldl_append, List.foldl_cons, List.foldl_nil, chain_fst]
  rfl
/-! ### the drawn numbers -/
def PoolOk (q : List DD) : Prop := ∃ (ns : List Int) (a b c s : Int), q = [.lst (ns.map .int), .int a, .int b, .int c, .int s] ∧ 0 ≤ a
/-! ### blocks as lists -/
abbrev dL (b : List Int) : DD := .lst (b.map .int)
theorem sh_dL (n : Nat) (b : List Int) : D.sh (n + 1) (dL b) = true := shs_map fun x _ => sh_int n x
theorem eq_dL (a b : List Int) : D.eq (dL a) (dL b) = decide (a = b) := eqs_map eq_int a b
theorem cmp_in_dL {x : Int} {b : List Int} : cmpD .In (.int x) (dL b) = some (decide (x ∈ b)) := by
  rw [cmp_inL (sh_int _ _) (shs_map fun x _ => sh_int _ x), mem_ints]
theorem cmp_in_dI {x : Int} {b : List Int} : cmpD .In (.int x) (dI b) = some (decide (x ∈ b)) := by
  rw [cmp_inT (sh_int _ _) (shs_map fun x _ => sh_int _ x), mem_ints]
theorem cmp_ni_dI {x : Int} {b : List Int} : cmpD .NotIn (.int x) (dI b) = some (!decide (x ∈ b)) := by
  rw [cmp_niT (sh_int _ _) (shs_map fun x _ => sh_int _ x), mem_ints]
theorem cmp_ne_dL {a b : List Int} : cmpD .NotEq (dL a) (dL b) = some (!decide (a = b)) := by
  rw [cmp_ne (sh_dL _ _) (sh_dL _ _), eq_dL]
theorem cmp_eq_dI {a b : List Int} : cmpD .Eq (dI a) (dI b) = some (decide (a = b)) := by
  rw [cmp_eq (sh_dI _ _) (sh_dI _ _), eq_dI]
theorem cmp_ne_dI {a b : List Int} : cmpD .NotEq (dI a) (dI b) = some (!decide (a = b)) := by
  rw [cmp_ne (sh_dI _ _) (sh_dI _ _), eq_dI]
theorem cmp_eq_nil {a : List Int} : cmpD .Eq (dI a) (.tup []) = some (decide (a = [])) := cmp_eq_dI (b := [])
theorem cmp_ne_nil {a : List Int} : cmpD .NotEq (dI a) (.tup []) = some (!decide (a = [])) := cmp_ne_dI (b := [])
theorem Part.find {n : Int} {R : Rel} {l : List (List Int)} (p : Part n R l) {a : Int} (h0 : 0 ≤ a) (h1 : a < n) : ∃ one r, (l.filter fun b => decide (a ∈ b)) = one :: r ∧ one ∈ l ∧ a ∈ one := by
  obtain ⟨b, hb, ha⟩ := p.all a h0 h1
  cases h : l.filter fun b => decide (a ∈ b) with
  | nil => have : b ∈ l.filter fun b => decide (a ∈ b) := List.mem_filter.mpr ⟨hb, by simpa using ha⟩; rw [h] at this; cases this
  | cons one r =>
    have : one ∈ l.filter fun b => decide (a ∈ b) := by rw [h]; exact List.mem_cons_self
    obtain ⟨h1, h2⟩ := List.mem_filter.mp this
    exact ⟨one, r, rfl, h1, by simpa using h2⟩
/-- both put together -/
theorem join_sort {n : Int} {R : Rel} (hn : n ≤ 1000) {l : List (List Int)} (e : Eqv n R) (p : Part n R l) {one two : List Int} (h1 : one ∈ l) (h2 : two ∈ l) (hne : one ≠ two) : ∃ s, Asc s ∧ (∀ x, x ∈ s ↔ x ∈ one ∨ x ∈ two) ∧ sortable ((one ++ two).map .int) = true ∧ sortD ((one ++ two).map .int) = s.map .int ∧ one.length ≤ 1000 ∧ two.length ≤ 1000 := by
  have hl : ∀ b ∈ l, b.length ≤ 1000 := fun b hb => by
    obtain ⟨z, h0, h1, hz⟩ := p.rel b hb
    have := asc_len (n := n) (p.asc b hb) fun x hx => e.dom2 ((hz x).mp hx)
    omega
  have blk : ∀ c ∈ l, ∀ x, x ∈ c → (0 ≤ x ∧ x < n) := fun c hc x hx => by
    obtain ⟨z, h0, h1, hz⟩ := p.rel c hc
    exact e.dom2 ((hz x).mp hx)
  have one_of : ∀ x, x ∈ one → x ∈ two → False := fun x a b => hne (asc_eq (p.asc _ h1) (p.asc _ h2) fun y => by
    obtain ⟨z, _, _, hz⟩ := p.rel _ h1
    obtain ⟨w, _, _, hw⟩ := p.rel _ h2
    have := (hz x).mp a
    have := (hw x).mp b
    rw [hz y, hw y]
    exact ⟨fun g => e.trn (hw x |>.mp b) (e.trn (e.sym ((hz x).mp a)) g), fun g => e.trn (hz x |>.mp a) (e.trn (e.sym ((hw x).mp b)) g)⟩)
  have l1 := hl _ h1
  have l2 := hl _ h2
  refine ⟨(rng n).filter fun x => decide (x ∈ one ∨ x ∈ two), asc_rng.filter _, fun x => ?_, sortable_ints (by rw [List.length_append]; omega), sort_ints ?_ (asc_rng.filter _) fun x => ?_, l1, l2⟩
  · rw [List.mem_filter, mem_rng, decide_eq_true_eq]
    exact ⟨fun h => h.2, fun h => ⟨h.elim (blk _ h1 x) (blk _ h2 x), h⟩⟩
  · exact List.nodup_append.mpr ⟨nodup_of_asc (p.asc _ h1), nodup_of_asc (p.asc _ h2), fun x hx y hy q => one_of x hx (q ▸ hy)⟩
  · rw [List.mem_append, List.mem_filter, mem_rng, decide_eq_true_eq]
    exact ⟨fun h => ⟨h.elim (blk _ h1 x) (blk _ h2 x), h⟩, fun h => h.2⟩
theorem dP_list {n : Int} : ∀ {ys : List DD}, (∀ y ∈ ys, ∃ l : Int × Int, y = dP l ∧ (0 ≤ l.1 ∧ l.1 < n) ∧ 0 ≤ l.2 ∧ l.2 < n) → ∃ L : Ln, ys = L.map dP ∧ inR n L
  | [], _ => ⟨[], rfl, fun _ z => nomatch z⟩
  | y :: ys, h => by
    obtain ⟨l, rfl, hl⟩ := h y List.mem_cons_self
    obtain ⟨L, rfl, hL⟩ := dP_list (ys := ys) fun z hz => h z (List.mem_cons_of_mem _ hz)
    refine ⟨l :: L, rfl, fun z hz => ?_⟩
    rcases List.mem_cons.mp hz with rfl | hz
    · exact hl
    · exact hL z hz
theorem part_law {m k : Int} (hk : 0 ≤ k) {b : List Int} (h : Asc b) : (b.filter fun y => decide (y < m ∨ m + k ≤ y)).map (fun y => if y < m then y else y - k) = part m k b := by
  refine asc_eq ?_ (asc_part h) fun x => ?_
  · rw [List.pairwise_map]
    refine (h.filter _).imp_of_mem fun {a b} ha hb q => ?_
    have h1 := (List.mem_filter.mp ha).2
    have h2 := (List.mem_filter.mp hb).2
    simp only [decide_eq_true_eq] at h1 h2
    split <;> split <;> omega
  · rw [mem_part hk, List.mem_map]
    constructor
    · rintro ⟨y, hy, rfl⟩
      obtain ⟨h1, h2⟩ := List.mem_filter.mp hy
      simp only [decide_eq_true_eq] at h2
      unfold up
      by_cases q : y < m
      · rw [if_pos q, if_pos q]; exact h1
      · rw [if_neg q, if_neg (by omega), Int.sub_add_cancel]; exact h1
    · intro hx
      refine ⟨up m k x, List.mem_filter.mpr ⟨hx, ?_⟩, ?_⟩
      · simp only [decide_eq_true_eq]; unfold up; split <;> omega
      · unfold up
        by_cases q : x < m
        · rw [if_pos q, if_pos q]
        · rw [if_neg q, if_neg (by omega)]; omega
theorem stk_heads {a b : Dg} (ha : a.Ok) (hb : b.Ok) (hk : a.k = b.m) : inR (a.m + a.k + b.k) (a.bs.flatMap heads ++ sh a.m (b.bs.flatMap heads)) ∧ Gen (a.m + a.k + b.k) (rl (a.bs.flatMap heads ++ sh a.m (b.bs.flatMap heads))) = stk a.m a.k b.k a.r b.r := by
  have inh : ∀ c : Dg, c.Ok → inR (c.m + c.k) (c.bs.flatMap heads) := fun c hc l hl => by
    obtain ⟨x, hx, h⟩ := List.mem_flatMap.mp hl
    obtain ⟨z, hz, rfl⟩ := List.mem_map.mp h
    have hne : x ≠ [] := List.ne_nil_of_mem hz
    exact ⟨block_dom hc.e hx (hd_mem hne), block_dom hc.e hx hz⟩
  have h1 := inh a ha
  have h2 := inh b hb
  have := ha.m0; have := ha.k0; have := hb.k0
  refine ⟨fun l hl => ?_, ?_⟩
  · rcases List.mem_append.mp hl with hl | hl
    · have := h1 l hl; omega
    · obtain ⟨z, hz, rfl⟩ := List.mem_map.mp hl
      have := h2 z hz
      simp only
      omega
  · have gb := gen_heads hb.e
    have g := stk_gen (m := a.m) (k := a.k) (p := b.k) (B := rl (a.bs.flatMap heads)) (C := rl (b.bs.flatMap heads)) (R := a.r) (S := b.r) ha.m0 ha.k0 hb.k0 (gen_heads ha.e) (by rw [hk]; exact gb)
    rw [← g]
    congr 1
    refine rel_ext fun x y => ?_
    unfold rl
    rw [List.mem_append]
    constructor
    · rintro (h | h)
      · have := h1 _ h
        exact .inl ⟨h, by omega, by omega, by omega, by omega⟩
      · obtain ⟨z, hz, q⟩ := List.mem_map.mp h
        cases q
        have := h2 z hz
        refine .inr ⟨?_, by omega, by omega, by omega, by omega⟩
        rw [Int.add_sub_cancel, Int.add_sub_cancel]
        exact hz
    · rintro (h | h)
      · exact .inl h.1
      · exact .inr (List.mem_map.mpr ⟨_, h.1, by simp⟩)
/-! ### data that _law_same can hold against one another -/
mutual
def okD : Nat → DD → Bool
  | _, .non => true
  | _, .bl _ => true
  | _, .int _ => true
  | _, .str x => x.cps.all (· < 0x110000)
  | 0, .tup _ => false
  | n + 1, .tup ds => decide (ds.length ≤ 1000000) && okDs n ds
  | 0, .lst _ => false
  | n + 1, .lst ds => decide (ds.length ≤ 1000000) && okDs n ds
  | _, .fn _ => false
def okDs : Nat → List DD → Bool
  | _, [] => true
  | n, d :: ds => okD n d && okDs n ds
end
theorem okDs_mem {n : Nat} : ∀ {ds : List DD}, okDs n ds = true → ∀ d ∈ ds, okD n d = true
  | [], _, d, h => by cases h
  | x :: ds, h, d, hd => by
    have h' : (okD n x && okDs n ds) = true := h
    rw [Bool.and_eq_true] at h'
    rcases List.mem_cons.mp hd with rfl | hd
    · exact h'.1
    · exact okDs_mem h'.2 d hd
theorem okDs_of {n : Nat} : ∀ {ds : List DD}, (∀ d ∈ ds, okD n d = true) → okDs n ds = true
  | [], _ => rfl
  | x :: ds, h => by
    show (okD n x && okDs n ds) = true
    rw [h x List.mem_cons_self, okDs_of fun d hd => h d (List.mem_cons_of_mem _ hd)]
    rfl
theorem okD_tup {n : Nat} {ds : List DD} (h : ds.length ≤ 1000000) (h' : ∀ d ∈ ds, okD n d = true) : okD (n + 1) (.tup ds) = true := by
  show (decide (ds.length ≤ 1000000) && okDs n ds) = true
  rw [okDs_of h']; simpa using h
theorem okD_lst {n : Nat} {ds : List DD} (h : ds.length ≤ 1000000) (h' : ∀ d ∈ ds, okD n d = true) : okD (n + 1) (.lst ds) = true := by
  show (decide (ds.length ≤ 1000000) && okDs n ds) = true
  rw [okDs_of h']; simpa using h
theorem okD_int {n : Nat} {i : Int} : okD n (.int i) = true := by cases n <;> rfl
theorem okD_bl {n : Nat} {i : Bool} : okD n (.bl i) = true := by cases n <;> rfl
theorem okD_non {n : Nat} : okD n .non = true := by cases n <;> rfl
theorem okD_dI {n : Nat} {b : List Int} (h : b.length ≤ 1000000) : okD (n + 1) (dI b) = true := okD_tup (by rw [List.length_map]; exact h) fun d hd => by
  obtain ⟨i, _, rfl⟩ := List.mem_map.mp hd; exact okD_int
theorem okD_d {n : Nat} {a : Dg} (h : a.Ok) : okD (n + 3) a.d = true := by
  have h1 := h.n1
  have hb : a.bs.length ≤ 200 := by have := blocks_len h.e; unfold Dg.bs; omega
  refine okD_tup (by simp) fun d hd => ?_
  simp only [List.mem_cons, List.not_mem_nil, or_false] at hd
  rcases hd with rfl | rfl | rfl
  · exact okD_int
  · exact okD_int
  · exact okD_tup (by rw [List.length_map]; show a.bs.length ≤ _; omega) fun d hd => by
      obtain ⟨b, hb', rfl⟩ := List.mem_map.mp hd
      exact okD_dI (by have := block_len h.e hb'; omega)
theorem filter_len_zero {α : Type} {p : α → Prop} [DecidablePred p] {l : List α} : decide ((((l.filter fun x => decide (p x)).length : Nat) : Int) = 0) = decide (∀ x ∈ l, ¬ p x) := by
  refine decide_eq_decide.mpr ?_
  constructor
  · intro h x hx hp
    have : (l.filter fun x => decide (p x)).length = 0 := by omega
    have h2 : x ∈ l.filter fun x => decide (p x) := List.mem_filter.mpr ⟨hx, by simpa using hp⟩
    rw [List.length_eq_zero_iff.mp this] at h2; cases h2
  · intro h
    have : (l.filter fun x => decide (p x)) = [] := by
      rw [List.filter_eq_nil_iff]
      intro x hx
      have := h x hx
      simpa using this
    rw [this]; rfl
end M

/-! M7: still is neutral. -/
namespace M
open Classical
variable {m k p n : Int} {R S : Rel}
theorem stk_least {T : Rel} (e : Eqv (m + k + p) T) (h1 : ∀ x y, R x y → 0 ≤ x → x < m + k + p → 0 ≤ y → y < m + k + p → T x y) (h2 : ∀ x y, S (x - m) (y - m) → 0 ≤ x → x < m + k + p → 0 ≤ y → y < m + k + p → T x y) {x y : Int} (h : stk m k p R S x y) : T x y :=
  Gen.least e (fun x y h a b c d => h.elim (fun h => h1 x y h a b c d) fun h => h2 x y h a b c d) h
theorem pull_eqv {N n : Int} {R : Rel} (e : Eqv n R) (f : Int → Int) (hf : ∀ x, 0 ≤ x → x < N → 0 ≤ f x ∧ f x < n) : Eqv N fun x y => (0 ≤ x ∧ x < N) ∧ (0 ≤ y ∧ y < N) ∧ R (f x) (f y) :=
  ⟨fun h => h.1, fun a b => ⟨⟨a, b⟩, ⟨a, b⟩, e.rfl (hf _ a b).1 (hf _ a b).2⟩, fun h => ⟨h.2.1, h.1, e.sym h.2.2⟩, fun h g => ⟨h.1, g.2.1, e.trn h.2.2 g.2.2⟩⟩
/-- when all pieces are told by a map onto the points that are left -/
theorem stk_told {T : Rel} (hm : 0 ≤ m) (hk : 0 ≤ k) (hp : 0 ≤ p) {n : Int} (e : Eqv n T) (f g : Int → Int) (hf : ∀ x, 0 ≤ x → x < m + k + p → 0 ≤ f x ∧ f x < n)
    (h1 : ∀ x y, R x y → 0 ≤ x → x < m + k + p → 0 ≤ y → y < m + k + p → T (f x) (f y)) (h2 : ∀ x y, S (x - m) (y - m) → 0 ≤ x → x < m + k + p → 0 ≤ y → y < m + k + p → T (f x) (f y))
    (b1 : ∀ x, 0 ≤ x → x < m + k + p → stk m k p R S x (g (f x))) (b2 : ∀ x y, T x y → stk m k p R S (g x) (g y)) {x y : Int} (hx : 0 ≤ x ∧ x < m + k + p) (hy : 0 ≤ y ∧ y < m + k + p) : stk m k p R S x y ↔ T (f x) (f y) := by
  constructor
  · intro h
    exact (stk_least (pull_eqv e f hf) (fun x y h a b c d => ⟨⟨a, b⟩, ⟨c, d⟩, h1 x y h a b c d⟩) (fun x y h a b c d => ⟨⟨a, b⟩, ⟨c, d⟩, h2 x y h a b c d⟩) h).2.2
  · intro h
    exact ((b1 x hx.1 hx.2).trn (b2 _ _ h)).trn (b1 y hy.1 hy.2).sym
theorem lost_zero (h : ∀ x, m ≤ x → x < m + k → ∃ y, (y < m ∨ m + k ≤ y) ∧ stk m k p R S x y) : lostN m k p R S = 0 := by
  unfold lostN
  have e := stk_eqv (m := m) (k := k) (p := p) (R := R) (S := S)
  have : ((blocks (m + k + p) (stk m k p R S)).filter fun b => decide (part m k b = [])) = [] := by
    rw [List.filter_eq_nil_iff]
    intro b hb
    simp only [decide_eq_true_eq]
    intro hn
    obtain ⟨x, r, hx⟩ := List.exists_cons_of_ne_nil (block_ne e hb)
    have xm : x ∈ b := by rw [hx]; exact List.mem_cons_self
    have hall := part_nil.mp hn
    obtain ⟨y, h1, h2⟩ := h x (hall x xm).1 (hall x xm).2
    have := hall y ((block_rel e hb xm).mpr h2)
    omega
  rw [this]; rfl
section
theorem still_stk (hm : 0 ≤ m) (hk : 0 ≤ k) (e : Eqv (m + k) R) {x y : Int} (hx : 0 ≤ x ∧ x < m + m + k) (hy : 0 ≤ y ∧ y < m + m + k) : stk m m k (stillR m) R x y ↔ R (if x < m then x else x - m) (if y < m then y else y - m) := by
  refine stk_told hm hm hk e (fun x => if x < m then x else x - m) (fun x => x + m) (fun x a b => by split <;> omega) (fun x y h a b c d => ?_) (fun x y h a b c d => ?_) (fun x a b => ?_) (fun x y h => ?_) hx hy
  · have : (if x < m then x else x - m) = (if y < m then y else y - m) := by
      obtain ⟨_, _, h⟩ := h
      split <;> split <;> omega
    rw [this]
    refine e.rfl ?_ ?_ <;> split <;> omega
  · have := e.dom h
    have := e.dom2 h
    rw [if_neg (by omega), if_neg (by omega)]
    exact h
  · by_cases q : x < m
    · rw [if_pos q]
      exact .base (.inl ⟨by omega, by omega, by omega⟩) a b (by omega) (by omega)
    · rw [if_neg q, Int.sub_add_cancel]
      exact .rfl a b
  · have := e.dom h
    have := e.dom2 h
    exact .base (.inr (by rw [Int.add_sub_cancel, Int.add_sub_cancel]; exact h)) (by omega) (by omega) (by omega) (by omega)
theorem still_then {a : Dg} (ha : a.Ok) : (still a.m).then a = a := by
  refine Dg.ext' rfl rfl fun x y => ?_
  have m0 := ha.m0; have k0 := ha.k0
  show comp a.m a.m a.k (stillR a.m) a.r x y ↔ _
  unfold comp
  constructor
  · rintro ⟨hx, hy, h⟩
    rw [still_stk m0 k0 ha.e (up_dom m0 m0 hx.1 hx.2) (up_dom m0 m0 hy.1 hy.2)] at h
    have : ∀ z, 0 ≤ z → (if up a.m a.m z < a.m then up a.m a.m z else up a.m a.m z - a.m) = z := fun z hz => by unfold up; (repeat' split) <;> omega
    rw [this x hx.1, this y hy.1] at h
    exact h
  · intro h
    have hx := ha.e.dom h
    have hy := ha.e.dom2 h
    refine ⟨hx, hy, ?_⟩
    rw [still_stk m0 k0 ha.e (up_dom m0 m0 hx.1 hx.2) (up_dom m0 m0 hy.1 hy.2)]
    have : ∀ z, 0 ≤ z → (if up a.m a.m z < a.m then up a.m a.m z else up a.m a.m z - a.m) = z := fun z hz => by unfold up; (repeat' split) <;> omega
    rw [this x hx.1, this y hy.1]
    exact h
theorem still_lost {a : Dg} (ha : a.Ok) : (still a.m).lost a = 0 := by
  have m0 := ha.m0; have k0 := ha.k0
  refine lost_zero (m := a.m) (k := a.m) (p := a.k) fun x h1 h2 => ⟨x - a.m, by omega, .base (.inl ⟨by omega, by omega, by omega⟩) (by omega) (by omega) (by omega) (by omega)⟩
theorem stk_still (hm : 0 ≤ m) (hk : 0 ≤ k) (e : Eqv (m + k) R) {x y : Int} (hx : 0 ≤ x ∧ x < m + k + k) (hy : 0 ≤ y ∧ y < m + k + k) : stk m k k R (stillR k) x y ↔ R (if x < m + k then x else x - k) (if y < m + k then y else y - k) := by
  refine stk_told hm hk hk e (fun x => if x < m + k then x else x - k) (fun x => x) (fun x a b => by split <;> omega) (fun x y h a b c d => ?_) (fun x y h a b c d => ?_) (fun x a b => ?_) (fun x y h => ?_) hx hy
  · have := e.dom h
    have := e.dom2 h
    rw [if_pos (by omega), if_pos (by omega)]
    exact h
  · have : (if x < m + k then x else x - k) = (if y < m + k then y else y - k) := by
      obtain ⟨_, _, h⟩ := h
      split <;> split <;> omega
    rw [this]
    refine e.rfl ?_ ?_ <;> split <;> omega
  · by_cases q : x < m + k
    · rw [if_pos q]
      exact .rfl a b
    · rw [if_neg q]
      exact .base (.inr ⟨by omega, by omega, by omega⟩) a b (by omega) (by omega)
  · have := e.dom h
    have := e.dom2 h
    exact .base (.inl h) (by omega) (by omega) (by omega) (by omega)
theorem then_still {a : Dg} (ha : a.Ok) : a.then (still a.k) = a := by
  refine Dg.ext' rfl rfl fun x y => ?_
  have m0 := ha.m0; have k0 := ha.k0
  show comp a.m a.k a.k a.r (stillR a.k) x y ↔ _
  have : ∀ z, 0 ≤ z → (if up a.m a.k z < a.m + a.k then up a.m a.k z else up a.m a.k z - a.k) = z := fun z hz => by unfold up; (repeat' split) <;> omega
  unfold comp
  constructor
  · rintro ⟨hx, hy, h⟩
    rw [stk_still m0 k0 ha.e (up_dom k0 m0 hx.1 hx.2) (up_dom k0 m0 hy.1 hy.2), this x hx.1, this y hy.1] at h
    exact h
  · intro h
    have hx := ha.e.dom h
    have hy := ha.e.dom2 h
    refine ⟨hx, hy, ?_⟩
    rw [stk_still m0 k0 ha.e (up_dom k0 m0 hx.1 hx.2) (up_dom k0 m0 hy.1 hy.2), this x hx.1, this y hy.1]
    exact h
theorem lost_still {a : Dg} (ha : a.Ok) : a.lost (still a.k) = 0 := by
  have m0 := ha.m0; have k0 := ha.k0
  refine lost_zero (m := a.m) (k := a.k) (p := a.k) fun x h1 h2 => ⟨x + a.k, by omega, .base (.inr ⟨by omega, by omega, by omega⟩) (by omega) (by omega) (by omega) (by omega)⟩
end
theorem rep_fits {a : Dg} (ha : a.Ok) (hk : a.m = a.k) : ∀ j, Fits a.m (List.replicate j a) a.m
  | 0 => rfl
  | j + 1 => ⟨ha, rfl, by have := rep_fits ha hk j; rw [← hk]; exact this⟩
theorem chain_rep {a : Dg} {j : Nat} : chain a.m (List.replicate (j + 1) a) = (chain a.m (List.replicate j a)).then a := by
  rw [List.replicate_succ', chain_snoc]
theorem rng_at {n x : Int} {pre post : List Int} (h : rng n = pre ++ x :: post) : x = (pre.length : Int) ∧ 0 ≤ x ∧ x < n := by
  have hx : x ∈ rng n := by rw [h]; simp
  have hl : pre.length < n.toNat := by
    have := congrArg List.length h
    rw [len_rng, List.length_append, List.length_cons] at this
    omega
  have e1 : (rng n)[pre.length]? = some x := by rw [h]; simp
  unfold rng at e1
  rw [get_seqI hl] at e1
  have := mem_rng.mp hx
  refine ⟨?_, this.1, this.2⟩
  injection e1 with e1
  omega
end M

/-! the defs of the text as terms of the evaluator; written by gen.py -/
namespace G
open Z PySem
abbrev x_Unfit : Nat := 0
abbrev i_is_whole : Nat := 0
abbrev i_merged : Nat := 1
abbrev i_links_of : Nat := 2
abbrev i_still : Nat := 3
abbrev i_stacked : Nat := 4
abbrev i_then : Nat := 5
abbrev i_lost : Nat := 6
abbrev i_chain : Nat := 7
abbrev i_chain_lost : Nat := 8
abbrev i_power : Nat := 9
abbrev i__law_same : Nat := 10
abbrev i__law_pool : Nat := 11
abbrev i__law_spread : Nat := 12
abbrev i__law_draw : Nat := 13
abbrev i__law_shuffled : Nat := 14
abbrev i__law_merge : Nat := 15
abbrev i__law_some : Nat := 16
abbrev i__law_diagram : Nat := 17
abbrev i__law_behind : Nat := 18
abbrev i__law_still : Nat := 19
abbrev i__law_try : Nat := 20
abbrev i_law : Nat := 21
def N_is_whole : List Str := [("value" : Str)]
def b_is_whole : Ss := (.cons (.ret (.and (.isi (.var 0) .int) (.not (.isi (.var 0) .bool)))) <|
  .nil)
def d_is_whole : Fd := ⟨false, 1, 1, b_is_whole⟩
def N_merged : List Str := [("many" : Str), ("links" : Str), ("names" : Str), ("one" : Str), ("two" : Str), ("found" : Str), ("point" : Str), ("old" : Str), ("new" : Str), ("name" : Str), ("block" : Str)]
def N_links_of : List Str := [("diagram" : Str), ("found" : Str), ("block" : Str), ("i" : Str)]
def b_links_of : Ss := (.cons (.set 1 (.lst .nil)) <|
  .cons (.for_ (.nm 2) (.seq (.idx (.var 0) (.lit (.int 2)))) (.cons (.xtd 1 (.cm1 (.tup (.cons (.idx (.var 2) (.var 3)) (.cons (.idx (.var 2) (.bin .Add (.var 3) (.lit (.int 1)))) .nil))) (.nm 3) (.rng (.cons (.bin .Sub (.bi .len (.var 2)) (.lit (.int 1))) .nil)) .non [3])) <|
    .nil)) <|
  .cons (.ret (.bi .tuple (.var 1))) <|
  .nil)
def d_links_of : Fd := ⟨false, 1, 4, b_links_of⟩
def N_still : List Str := [("n" : Str), ("i" : Str)]
def b_still : Ss := (.cons (.ret (.tup (.cons (.var 0) (.cons (.var 0) (.cons (.bi .tuple (.cm1 (.tup (.cons (.var 1) (.cons (.bin .Add (.var 0) (.var 1)) .nil))) (.nm 1) (.rng (.cons (.var 0) .nil)) .non [1])) .nil))))) <|
  .nil)
def d_still : Fd := ⟨false, 1, 2, b_still⟩
def N_stacked : List Str := [("one" : Str), ("two" : Str), ("m" : Str), ("k" : Str), ("n" : Str), ("links" : Str), ("x" : Str), ("y" : Str)]
def b_stacked : Ss := (.cons (.iff (.cmp .NotEq (.idx (.var 0) (.lit (.int 1))) (.idx (.var 1) (.lit (.int 0)))) (.cons (.rse x_Unfit (.lit (.str "lower and upper points differ"))) <|
    .nil)
    (.nil)) <|
  .cons (.tpar (.cons (.nm 2) (.cons (.nm 3) (.cons (.nm 4) .nil))) (.cons (.idx (.var 0) (.lit (.int 0))) (.cons (.idx (.var 0) (.lit (.int 1))) (.cons (.idx (.var 1) (.lit (.int 1))) .nil)))) <|
  .cons (.set 5 (.bi .list (.app i_links_of none (.cons (.var 0) .nil)))) <|
  .cons (.xtd 5 (.cm1 (.tup (.cons (.bin .Add (.var 6) (.var 2)) (.cons (.bin .Add (.var 7) (.var 2)) .nil))) (.tp (.cons (.nm 6) (.cons (.nm 7) .nil))) (.seq (.app i_links_of none (.cons (.var 1) .nil))) .non [6, 7])) <|
  .cons (.ret (.app i_merged none (.cons (.bin .Add (.bin .Add (.var 2) (.var 3)) (.var 4)) (.cons (.var 5) .nil)))) <|
  .nil)
def d_stacked : Fd := ⟨false, 2, 8, b_stacked⟩
def N_then : List Str := [("one" : Str), ("two" : Str), ("m" : Str), ("k" : Str), ("n" : Str), ("found" : Str), ("block" : Str), ("part" : Str), ("x" : Str)]
def b_then : Ss := (.cons (.tpar (.cons (.nm 2) (.cons (.nm 3) (.cons (.nm 4) .nil))) (.cons (.idx (.var 0) (.lit (.int 0))) (.cons (.idx (.var 0) (.lit (.int 1))) (.cons (.idx (.var 1) (.lit (.int 1))) .nil)))) <|
  .cons (.set 5 (.lst .nil)) <|
  .cons (.for_ (.nm 6) (.seq (.app i_stacked none (.cons (.var 0) (.cons (.var 1) .nil)))) (.cons (.set 7 (.bin .Add (.bi .tuple (.cm1 (.var 8) (.nm 8) (.seq (.var 6)) (.som (.cmp .Lt (.var 8) (.var 2))) [8])) (.bi .tuple (.cm1 (.bin .Sub (.var 8) (.var 3)) (.nm 8) (.seq (.var 6)) (.som (.cmp .GtE (.var 8) (.bin .Add (.var 2) (.var 3)))) [8])))) <|
    .cons (.iff (.cmp .Gt (.bi .len (.var 7)) (.lit (.int 0))) (.cons (.apd 5 (.var 7)) <|
      .nil)
      (.nil)) <|
    .nil)) <|
  .cons (.ret (.tup (.cons (.var 2) (.cons (.var 4) (.cons (.bi .tuple (.bi .sorted (.var 5))) .nil))))) <|
  .nil)
def d_then : Fd := ⟨false, 2, 9, b_then⟩
def N_lost : List Str := [("one" : Str), ("two" : Str), ("m" : Str), ("k" : Str), ("block" : Str)]
def b_lost : Ss := (.cons (.asg (.tp (.cons (.nm 2) (.cons (.nm 3) .nil))) (.slc (.var 0) .non (.som (.lit (.int 2))))) <|
  .cons (.ret (.bi .len (.cm1 (.var 4) (.nm 4) (.seq (.app i_stacked none (.cons (.var 0) (.cons (.var 1) .nil)))) (.som (.and (.cmp .LtE (.var 2) (.idx (.var 4) (.lit (.int 0)))) (.cmp .Lt (.idx (.var 4) (.neg (.lit (.int 1)))) (.bin .Add (.var 2) (.var 3))))) [4]))) <|
  .nil)
def d_lost : Fd := ⟨false, 2, 5, b_lost⟩
def N_chain : List Str := [("n" : Str), ("diagrams" : Str), ("found" : Str), ("diagram" : Str)]
def b_chain : Ss := (.cons (.set 2 (.app i_still none (.cons (.var 0) .nil))) <|
  .cons (.for_ (.nm 3) (.seq (.var 1)) (.cons (.set 2 (.app i_then none (.cons (.var 2) (.cons (.var 3) .nil)))) <|
    .nil)) <|
  .cons (.ret (.var 2)) <|
  .nil)
def d_chain : Fd := ⟨false, 2, 4, b_chain⟩
def N_chain_lost : List Str := [("n" : Str), ("diagrams" : Str), ("found" : Str), ("many" : Str), ("diagram" : Str)]
def b_chain_lost : Ss := (.cons (.tpar (.cons (.nm 2) (.cons (.nm 3) .nil)) (.cons (.app i_still none (.cons (.var 0) .nil)) (.cons (.lit (.int 0)) .nil))) <|
  .cons (.for_ (.nm 4) (.seq (.var 1)) (.cons (.aug 3 .Add (.app i_lost none (.cons (.var 2) (.cons (.var 4) .nil)))) <|
    .cons (.set 2 (.app i_then none (.cons (.var 2) (.cons (.var 4) .nil)))) <|
    .nil)) <|
  .cons (.ret (.var 3)) <|
  .nil)
def d_chain_lost : Fd := ⟨false, 2, 5, b_chain_lost⟩
def N_power : List Str := [("diagram" : Str), ("many" : Str)]
def b_power : Ss := (.cons (.iff (.or (.cmp .NotEq (.idx (.var 0) (.lit (.int 0))) (.idx (.var 0) (.lit (.int 1)))) (.not (.app i_is_whole none (.cons (.var 1) .nil)))) (.cons (.rse x_Unfit (.lit (.str "unlike sides"))) <|
    .nil)
    (.nil)) <|
  .cons (.ret (.app i_chain none (.cons (.idx (.var 0) (.lit (.int 0))) (.cons (.bin .Mult (.lst (.cons (.var 0) .nil)) (.var 1)) .nil)))) <|
  .nil)
def d_power : Fd := ⟨false, 2, 2, b_power⟩
def N__law_same : List Str := [("actual" : Str), ("due" : Str), ("k" : Str)]
def b__law_same : Ss := (.cons (.iff (.or (.isi (.var 1) .tuple) (.isi (.var 1) .list)) (.cons (.iff (.or (.cmp .NotEq (.isi (.var 1) .tuple) (.isi (.var 0) .tuple)) (.or (.cmp .NotEq (.isi (.var 1) .list) (.isi (.var 0) .list)) (.cmp .NotEq (.bi .len (.var 0)) (.bi .len (.var 1))))) (.cons (.ret (.lit (.bl false))) <|
      .nil)
      (.nil)) <|
    .cons (.ret (.cmp .Eq (.bi .len (.cm1 (.var 2) (.nm 2) (.rng (.cons (.bi .len (.var 1)) .nil)) (.som (.not (.app i__law_same none (.cons (.idx (.var 0) (.var 2)) (.cons (.idx (.var 1) (.var 2)) .nil))))) [2])) (.lit (.int 0)))) <|
    .nil)
    (.nil)) <|
  .cons (.iff (.cmp .Is (.var 1) (.lit .non)) (.cons (.ret (.cmp .Is (.var 0) (.lit .non))) <|
    .nil)
    (.nil)) <|
  .cons (.iff (.or (.isi (.var 1) .bool) (.isi (.var 0) .bool)) (.cons (.ret (.and (.isi (.var 1) .bool) (.and (.isi (.var 0) .bool) (.cmp .Eq (.var 0) (.var 1))))) <|
    .nil)
    (.nil)) <|
  .cons (.iff (.isi (.var 1) .int) (.cons (.ret (.and (.isi (.var 0) .int) (.cmp .Eq (.var 0) (.var 1)))) <|
    .nil)
    (.nil)) <|
  .cons (.ret (.and (.isi (.var 0) .str) (.cmp .Eq (.var 0) (.var 1)))) <|
  .nil)
def d__law_same : Fd := ⟨false, 2, 3, b__law_same⟩
def N__law_pool : List Str := [("script" : Str), ("salt" : Str), ("cell" : Str)]
def b__law_pool : Ss := (.cons (.set 1 (.lit (.int 7))) <|
  .cons (.for_ (.nm 2) (.seq (.slc (.var 0) .non (.som (.lit (.int 63))))) (.cons (.set 1 (.bin .Mod (.bi .int (.bin .Add (.bin .Mult (.var 1) (.lit (.int 31))) (.var 2))) (.lit (.int 1000003)))) <|
    .nil)) <|
  .cons (.ret (.lst (.cons (.bi .list (.var 0)) (.cons (.lit (.int 0)) (.cons (.lit (.int 0)) (.cons (.lit (.int 0)) (.cons (.var 1) .nil))))))) <|
  .nil)
def d__law_pool : Fd := ⟨false, 1, 3, b__law_pool⟩
def N__law_spread : List Str := [("cell" : Str), ("mixed" : Str), ("total" : Str), ("k" : Str)]
def b__law_spread : Ss := (.cons (.set 1 (.bin .Mod (.bi .int (.var 0)) (.lit (.int 2147483647)))) <|
  .cons (.set 2 (.lit (.int 1))) <|
  .cons (.for_ (.nm 3) (.rng (.cons (.lit (.int 4)) .nil)) (.cons (.set 1 (.bin .Mod (.bi .int (.bin .Add (.bin .Add (.bin .Mult (.var 1) (.lit (.int 48271))) (.lit (.int 12345))) (.var 3))) (.lit (.int 2147483647)))) <|
    .cons (.set 2 (.bin .Add (.bin .Mult (.var 2) (.lit (.int 2147483647))) (.var 1))) <|
    .nil)) <|
  .cons (.ret (.var 2)) <|
  .nil)
def d__law_spread : Fd := ⟨false, 1, 4, b__law_spread⟩
def N__law_draw : List Str := [("pool" : Str), ("many" : Str), ("value" : Str), ("cell" : Str), ("mixed" : Str)]
def b__law_draw : Ss := (.cons (.iff (.and (.cmp .LtE (.vix 0 (.lit (.int 2))) (.lit (.int 0))) (.cmp .Lt (.vix 0 (.lit (.int 1))) (.bi .len (.vix 0 (.lit (.int 0)))))) (.cons (.set 3 (.idx (.vix 0 (.lit (.int 0))) (.vix 0 (.lit (.int 1))))) <|
    .cons (.sti 0 (.lit (.int 1)) (.bin .Add (.vix 0 (.lit (.int 1))) (.lit (.int 1)))) <|
    .cons (.sti 0 (.lit (.int 2)) (.var 3)) <|
    .cons (.iff (.cmp .Lt (.var 3) (.lit (.int 1000000000000000000))) (.cons (.sti 0 (.lit (.int 2)) (.app i__law_spread none (.cons (.var 3) .nil))) <|
      .nil)
      (.nil)) <|
    .nil)
    (.nil)) <|
  .cons (.sti 0 (.lit (.int 3)) (.bin .Add (.vix 0 (.lit (.int 3))) (.lit (.int 1)))) <|
  .cons (.iff (.cmp .LtE (.vix 0 (.lit (.int 2))) (.lit (.int 0))) (.cons (.set 4 (.bin .Mod (.bi .int (.bin .Add (.bin .Add (.bin .Mult (.vix 0 (.lit (.int 4))) (.lit (.int 48271))) (.bin .Mult (.vix 0 (.lit (.int 3))) (.lit (.int 69621)))) (.lit (.int 1)))) (.lit (.int 2147483647)))) <|
    .cons (.set 4 (.bin .Mod (.bi .int (.bin .Add (.bin .Mult (.var 4) (.lit (.int 16807))) (.vix 0 (.lit (.int 3))))) (.lit (.int 2147483629)))) <|
    .cons (.ret (.bin .Mod (.bin .FloorDiv (.var 4) (.lit (.int 5))) (.var 1))) <|
    .nil)
    (.nil)) <|
  .cons (.set 2 (.bin .Mod (.bi .int (.vix 0 (.lit (.int 2)))) (.var 1))) <|
  .cons (.sti 0 (.lit (.int 2)) (.bin .FloorDiv (.vix 0 (.lit (.int 2))) (.var 1))) <|
  .cons (.ret (.var 2)) <|
  .nil)
def d__law_draw : Fd := ⟨true, 1, 5, b__law_draw⟩
def N__law_shuffled : List Str := [("pool" : Str), ("items" : Str), ("left" : Str), ("found" : Str), ("at" : Str)]
def b__law_shuffled : Ss := (.cons (.set 2 (.bi .list (.var 1))) <|
  .cons (.set 3 (.lst .nil)) <|
  .cons (.whl (.cmp .Gt (.bi .len (.var 2)) (.lit (.int 0))) (.cons (.set 4 (.app i__law_draw (some 0) (.cons (.bi .len (.var 2)) .nil))) <|
    .cons (.apd 3 (.idx (.var 2) (.var 4))) <|
    .cons (.set 2 (.bin .Add (.slc (.var 2) .non (.som (.var 4))) (.slc (.var 2) (.som (.bin .Add (.var 4) (.lit (.int 1)))) .non))) <|
    .nil)) <|
  .cons (.ret (.bi .tuple (.var 3))) <|
  .nil)
def d__law_shuffled : Fd := ⟨true, 1, 5, b__law_shuffled⟩
def N__law_merge : List Str := [("many" : Str), ("links" : Str), ("blocks" : Str), ("a" : Str), ("b" : Str), ("one" : Str), ("two" : Str), ("k" : Str), ("x" : Str)]
def b__law_merge : Ss := (.cons (.set 2 (.cm1 (.lst (.cons (.var 7) .nil)) (.nm 7) (.rng (.cons (.var 0) .nil)) .non [7])) <|
  .cons (.for_ (.tp (.cons (.nm 3) (.cons (.nm 4) .nil))) (.seq (.var 1)) (.cons (.tpar (.cons (.nm 5) (.cons (.nm 6) .nil)) (.cons (.idx (.cm1 (.var 8) (.nm 8) (.seq (.var 2)) (.som (.cmp .In (.var 3) (.var 8))) [8]) (.lit (.int 0))) (.cons (.idx (.cm1 (.var 8) (.nm 8) (.seq (.var 2)) (.som (.cmp .In (.var 4) (.var 8))) [8]) (.lit (.int 0))) .nil))) <|
    .cons (.iff (.cmp .NotEq (.var 5) (.var 6)) (.cons (.set 2 (.bin .Add (.cm1 (.var 8) (.nm 8) (.seq (.var 2)) (.som (.and (.cmp .NotEq (.var 8) (.var 5)) (.cmp .NotEq (.var 8) (.var 6)))) [8]) (.lst (.cons (.bi .sorted (.bin .Add (.var 5) (.var 6))) .nil)))) <|
      .nil)
      (.nil)) <|
    .nil)) <|
  .cons (.ret (.bi .tuple (.bi .sorted (.cm1 (.bi .tuple (.var 8)) (.nm 8) (.seq (.var 2)) .non [8])))) <|
  .nil)
def d__law_merge : Fd := ⟨false, 2, 9, b__law_merge⟩
def N__law_some : List Str := [("pool" : Str), ("m" : Str), ("k" : Str), ("many" : Str), ("links" : Str), ("step" : Str)]
def b__law_some : Ss := (.cons (.set 3 (.bin .Add (.var 1) (.var 2))) <|
  .cons (.set 4 (.lst .nil)) <|
  .cons (.iff (.cmp .Gt (.var 3) (.lit (.int 0))) (.cons (.for_ (.nm 5) (.rng (.cons (.app i__law_draw (some 0) (.cons (.bin .Add (.var 3) (.lit (.int 2))) .nil)) .nil)) (.cons (.apd 4 (.tup (.cons (.app i__law_draw (some 0) (.cons (.var 3) .nil)) (.cons (.app i__law_draw (some 0) (.cons (.var 3) .nil)) .nil)))) <|
      .nil)) <|
    .nil)
    (.nil)) <|
  .cons (.ret (.tup (.cons (.var 1) (.cons (.var 2) (.cons (.app i__law_merge none (.cons (.var 3) (.cons (.var 4) .nil))) .nil))))) <|
  .nil)
def d__law_some : Fd := ⟨true, 2, 6, b__law_some⟩
def N__law_diagram : List Str := [("pool" : Str), ("m" : Str), ("k" : Str), ("turn" : Str), ("names" : Str), ("links" : Str), ("i" : Str)]
def b__law_diagram : Ss := (.cons (.set 3 (.app i__law_draw (some 0) (.cons (.lit (.int 5)) .nil))) <|
  .cons (.iff (.or (.cmp .Lt (.var 3) (.lit (.int 3))) (.or (.cmp .Eq (.var 1) (.lit (.int 0))) (.cmp .Eq (.var 2) (.lit (.int 0))))) (.cons (.ret (.app i__law_some (some 0) (.cons (.var 1) (.cons (.var 2) .nil)))) <|
    .nil)
    (.nil)) <|
  .cons (.set 4 (.app i__law_shuffled (some 0) (.cons (.rgl (.cons (.var 2) .nil)) .nil))) <|
  .cons (.set 5 (.cm1 (.tup (.cons (.var 6) (.cons (.bin .Add (.var 1) (.idx (.var 4) (.var 6))) .nil))) (.nm 6) (.rng (.cons (.mn (.var 1) (.var 2)) .nil)) (.som (.or (.cmp .Eq (.var 3) (.lit (.int 3))) (.cmp .Gt (.app i__law_draw (some 0) (.cons (.lit (.int 4)) .nil)) (.lit (.int 0))))) [6])) <|
  .cons (.iff (.cmp .Eq (.app i__law_draw (some 0) (.cons (.lit (.int 3)) .nil)) (.lit (.int 0))) (.cons (.apd 5 (.tup (.cons (.app i__law_draw (some 0) (.cons (.bin .Add (.var 1) (.var 2)) .nil)) (.cons (.app i__law_draw (some 0) (.cons (.bin .Add (.var 1) (.var 2)) .nil)) .nil)))) <|
    .nil)
    (.nil)) <|
  .cons (.ret (.tup (.cons (.var 1) (.cons (.var 2) (.cons (.app i__law_merge none (.cons (.bin .Add (.var 1) (.var 2)) (.cons (.var 5) .nil))) .nil))))) <|
  .nil)
def d__law_diagram : Fd := ⟨true, 2, 7, b__law_diagram⟩
def N__law_behind : List Str := [("one" : Str), ("two" : Str), ("m" : Str), ("k" : Str), ("n" : Str), ("links" : Str), ("block" : Str), ("pieces" : Str), ("found" : Str), ("gone" : Str), ("piece" : Str), ("part" : Str), ("x" : Str)]
def b__law_behind : Ss := (.cons (.tpar (.cons (.nm 2) (.cons (.nm 3) (.cons (.nm 4) .nil))) (.cons (.idx (.var 0) (.lit (.int 0))) (.cons (.idx (.var 0) (.lit (.int 1))) (.cons (.idx (.var 1) (.lit (.int 1))) .nil)))) <|
  .cons (.set 5 (.lst .nil)) <|
  .cons (.for_ (.nm 6) (.seq (.idx (.var 0) (.lit (.int 2)))) (.cons (.set 5 (.bin .Add (.var 5) (.cm1 (.tup (.cons (.idx (.var 6) (.lit (.int 0))) (.cons (.var 12) .nil))) (.nm 12) (.seq (.var 6)) .non [12]))) <|
    .nil)) <|
  .cons (.for_ (.nm 6) (.seq (.idx (.var 1) (.lit (.int 2)))) (.cons (.set 5 (.bin .Add (.var 5) (.cm1 (.tup (.cons (.bin .Add (.idx (.var 6) (.lit (.int 0))) (.var 2)) (.cons (.bin .Add (.var 12) (.var 2)) .nil))) (.nm 12) (.seq (.var 6)) .non [12]))) <|
    .nil)) <|
  .cons (.set 7 (.app i__law_merge none (.cons (.bin .Add (.bin .Add (.var 2) (.var 3)) (.var 4)) (.cons (.var 5) .nil)))) <|
  .cons (.set 8 (.lst .nil)) <|
  .cons (.set 9 (.lit (.int 0))) <|
  .cons (.for_ (.nm 10) (.seq (.var 7)) (.cons (.set 11 (.bi .tuple (.cm1 (.ite (.cmp .Lt (.var 12) (.var 2)) (.var 12) (.bin .Sub (.var 12) (.var 3))) (.nm 12) (.seq (.var 10)) (.som (.or (.cmp .Lt (.var 12) (.var 2)) (.cmp .GtE (.var 12) (.bin .Add (.var 2) (.var 3))))) [12]))) <|
    .cons (.iff (.cmp .Eq (.var 11) (.tup .nil)) (.cons (.set 9 (.bin .Add (.var 9) (.lit (.int 1)))) <|
      .nil)
      (.cons (.apd 8 (.var 11)) <|
      .nil)) <|
    .nil)) <|
  .cons (.ret (.tup (.cons (.tup (.cons (.var 2) (.cons (.var 4) (.cons (.bi .tuple (.bi .sorted (.var 8))) .nil)))) (.cons (.var 9) .nil)))) <|
  .nil)
def d__law_behind : Fd := ⟨false, 2, 13, b__law_behind⟩
def N__law_still : List Str := [("n" : Str), ("i" : Str)]
def b__law_still : Ss := (.cons (.ret (.tup (.cons (.var 0) (.cons (.var 0) (.cons (.bi .tuple (.cm1 (.tup (.cons (.var 1) (.cons (.bin .Add (.var 0) (.var 1)) .nil))) (.nm 1) (.rng (.cons (.var 0) .nil)) .non [1])) .nil))))) <|
  .nil)
def d__law_still : Fd := ⟨false, 1, 2, b__law_still⟩
def N__law_try : List Str := [("deed" : Str), ("one" : Str), ("two" : Str)]
def b__law_try : Ss := (.cons (.try_ (.cons (.ret (.ite (.cmp .Eq (.var 0) (.lit (.int 0))) (.app i_then none (.cons (.var 1) (.cons (.var 2) .nil))) (.ite (.cmp .Eq (.var 0) (.lit (.int 1))) (.app i_lost none (.cons (.var 1) (.cons (.var 2) .nil))) (.ite (.cmp .Eq (.var 0) (.lit (.int 2))) (.app i_chain none (.cons (.idx (.var 1) (.lit (.int 0))) (.cons (.lst (.cons (.var 1) (.cons (.var 2) .nil))) .nil))) (.app i_chain_lost none (.cons (.idx (.var 1) (.lit (.int 0))) (.cons (.tup (.cons (.var 1) (.cons (.var 2) .nil))) .nil))))))) <|
    .nil) x_Unfit (.cons (.ret (.lit (.str "unfit"))) <|
    .nil)) <|
  .nil)
def d__law_try : Fd := ⟨false, 3, 3, b__law_try⟩
def N_law : List Str := [("script" : Str), ("pool" : Str), ("m" : Str), ("k" : Str), ("n" : Str), ("q" : Str), ("one" : Str), ("two" : Str), ("three" : Str), ("both" : Str), ("gone" : Str), ("last" : Str), ("more" : Str), ("wrong" : Str), ("deed" : Str), ("square" : Str), ("now" : Str), ("many" : Str)]
def b_law : Ss := (.cons (.set 1 (.app i__law_pool none (.cons (.var 0) .nil))) <|
  .cons (.tpar (.cons (.nm 2) (.cons (.nm 3) (.cons (.nm 4) (.cons (.nm 5) .nil)))) (.cons (.app i__law_draw (some 1) (.cons (.lit (.int 5)) .nil)) (.cons (.app i__law_draw (some 1) (.cons (.lit (.int 5)) .nil)) (.cons (.app i__law_draw (some 1) (.cons (.lit (.int 5)) .nil)) (.cons (.app i__law_draw (some 1) (.cons (.lit (.int 4)) .nil)) .nil))))) <|
  .cons (.tpar (.cons (.nm 6) (.cons (.nm 7) (.cons (.nm 8) .nil))) (.cons (.app i__law_diagram (some 1) (.cons (.var 2) (.cons (.var 3) .nil))) (.cons (.app i__law_diagram (some 1) (.cons (.var 3) (.cons (.var 4) .nil))) (.cons (.app i__law_diagram (some 1) (.cons (.var 4) (.cons (.var 5) .nil))) .nil)))) <|
  .cons (.asg (.tp (.cons (.nm 9) (.cons (.nm 10) .nil))) (.app i__law_behind none (.cons (.var 6) (.cons (.var 7) .nil)))) <|
  .cons (.iff (.not (.app i__law_same none (.cons (.lst (.cons (.app i_then none (.cons (.var 6) (.cons (.var 7) .nil))) (.cons (.app i_lost none (.cons (.var 6) (.cons (.var 7) .nil))) .nil))) (.cons (.lst (.cons (.var 9) (.cons (.var 10) .nil))) .nil)))) (.cons (.ret (.lit (.bl false))) <|
    .nil)
    (.nil)) <|
  .cons (.asg (.tp (.cons (.nm 11) (.cons (.nm 12) .nil))) (.app i__law_behind none (.cons (.var 9) (.cons (.var 8) .nil)))) <|
  .cons (.iff (.not (.app i__law_same none (.cons (.lst (.cons (.app i_chain none (.cons (.var 2) (.cons (.lst (.cons (.var 6) (.cons (.var 7) (.cons (.var 8) .nil)))) .nil))) (.cons (.app i_chain_lost none (.cons (.var 2) (.cons (.tup (.cons (.var 6) (.cons (.var 7) (.cons (.var 8) .nil)))) .nil))) .nil))) (.cons (.lst (.cons (.var 11) (.cons (.bin .Add (.var 10) (.var 12)) .nil))) .nil)))) (.cons (.ret (.lit (.bl false))) <|
    .nil)
    (.nil)) <|
  .cons (.iff (.not (.app i__law_same none (.cons (.lst (.cons (.app i_chain none (.cons (.var 2) (.cons (.tup .nil) .nil))) (.cons (.app i_chain_lost none (.cons (.var 2) (.cons (.lst .nil) .nil))) (.cons (.app i_chain none (.cons (.var 2) (.cons (.tup (.cons (.var 6) .nil)) .nil))) (.cons (.app i_chain_lost none (.cons (.var 2) (.cons (.lst (.cons (.var 6) .nil)) .nil))) .nil))))) (.cons (.lst (.cons (.app i__law_still none (.cons (.var 2) .nil)) (.cons (.lit (.int 0)) (.cons (.var 6) (.cons (.lit (.int 0)) .nil))))) .nil)))) (.cons (.ret (.lit (.bl false))) <|
    .nil)
    (.nil)) <|
  .cons (.set 13 (.app i__law_diagram (some 1) (.cons (.ite (.cmp .Lt (.var 3) (.lit (.int 5))) (.bin .Add (.var 3) (.lit (.int 1))) (.lit (.int 0))) (.cons (.var 4) .nil)))) <|
  .cons (.for_ (.nm 14) (.rng (.cons (.lit (.int 4)) .nil)) (.cons (.iff (.or (.cmp .NotEq (.app i__law_try none (.cons (.var 14) (.cons (.var 6) (.cons (.var 13) .nil)))) (.lit (.str "unfit"))) (.cmp .Eq (.app i__law_try none (.cons (.var 14) (.cons (.var 6) (.cons (.var 7) .nil)))) (.lit (.str "unfit")))) (.cons (.ret (.lit (.bl false))) <|
      .nil)
      (.nil)) <|
    .nil)) <|
  .cons (.set 15 (.app i__law_diagram (some 1) (.cons (.var 2) (.cons (.var 2) .nil)))) <|
  .cons (.set 16 (.app i__law_still none (.cons (.var 2) .nil))) <|
  .cons (.for_ (.nm 17) (.rng (.cons (.lit (.int 4)) .nil)) (.cons (.iff (.not (.app i__law_same none (.cons (.app i_power none (.cons (.var 15) (.cons (.var 17) .nil))) (.cons (.var 16) .nil)))) (.cons (.ret (.lit (.bl false))) <|
      .nil)
      (.nil)) <|
    .cons (.set 16 (.idx (.app i__law_behind none (.cons (.var 16) (.cons (.var 15) .nil))) (.lit (.int 0)))) <|
    .nil)) <|
  .cons (.ret (.app i__law_same none (.cons (.lst (.cons (.app i_then none (.cons (.app i_still none (.cons (.var 2) .nil)) (.cons (.var 6) .nil))) (.cons (.app i_then none (.cons (.var 6) (.cons (.app i_still none (.cons (.var 3) .nil)) .nil))) (.cons (.app i_lost none (.cons (.var 6) (.cons (.app i_still none (.cons (.var 3) .nil)) .nil))) .nil)))) (.cons (.lst (.cons (.var 6) (.cons (.var 6) (.cons (.lit (.int 0)) .nil)))) .nil)))) <|
  .nil)
def d_law : Fd := ⟨false, 1, 18, b_law⟩
def fnames : List Str := [("is_whole" : Str), ("merged" : Str), ("links_of" : Str), ("still" : Str), ("stacked" : Str), ("then" : Str), ("lost" : Str), ("chain" : Str), ("chain_lost" : Str), ("power" : Str), ("_law_same" : Str), ("_law_pool" : Str), ("_law_spread" : Str), ("_law_draw" : Str), ("_law_shuffled" : Str), ("_law_merge" : Str), ("_law_some" : Str), ("_law_diagram" : Str), ("_law_behind" : Str), ("_law_still" : Str), ("_law_try" : Str), ("law" : Str)]
def xnames : List Str := [("Unfit" : Str)]
def cnames : List Str := []
def gvals : List D := []
def nm : Nm := ⟨fun i => fnames.getD i default, fun i => xnames.getD i default, fun i => cnames.getD i default, fun i => gvals[i]?, fun i => decide (i < 22), fun i => decide (i < 1)⟩
end G
namespace GC
open Z PySem G M
def Pt : Nat → Option Pf := fun f => [Pf.ast d_is_whole, Pf.prim (mrgFn nm.gv), Pf.ast d_links_of, Pf.ast d_still, Pf.ast d_stacked, Pf.ast d_then, Pf.ast d_lost, Pf.ast d_chain, Pf.ast d_chain_lost, Pf.ast d_power, Pf.ast d__law_same, Pf.ast d__law_pool, Pf.ast d__law_spread, Pf.ast d__law_draw, Pf.ast d__law_shuffled, Pf.ast d__law_merge, Pf.ast d__law_some, Pf.ast d__law_diagram, Pf.ast d__law_behind, Pf.ast d__law_still, Pf.ast d__law_try, Pf.ast d_law][f]?
abbrev rn (k : Nat) : Nat → Fn := Z.run Pt nm.gv k
theorem st_is_whole {k : Nat} {a0 : D} : rn (k + 1) i_is_whole none [a0] = finF false (xss (rn k) nm.gv b_is_whole [.dat a0]) := runFd_eq (T := rn k) (G := nm.gv) (d := d_is_whole) rfl rfl
theorem st_links_of {k : Nat} {a0 : D} : rn (k + 1) i_links_of none [a0] = finF false (xss (rn k) nm.gv b_links_of [.dat a0, .no, .no, .no]) := runFd_eq (T := rn k) (G := nm.gv) (d := d_links_of) rfl rfl
theorem st_still {k : Nat} {a0 : D} : rn (k + 1) i_still none [a0] = finF false (xss (rn k) nm.gv b_still [.dat a0, .no]) := runFd_eq (T := rn k) (G := nm.gv) (d := d_still) rfl rfl
theorem st_stacked {k : Nat} {a0 a1 : D} : rn (k + 1) i_stacked none [a0, a1] = finF false (xss (rn k) nm.gv b_stacked [.dat a0, .dat a1, .no, .no, .no, .no, .no, .no]) := runFd_eq (T := rn k) (G := nm.gv) (d := d_stacked) rfl rfl
theorem st_then {k : Nat} {a0 a1 : D} : rn (k + 1) i_then none [a0, a1] = finF false (xss (rn k) nm.gv b_then [.dat a0, .dat a1, .no, .no, .no, .no, .no, .no, .no]) := runFd_eq (T := rn k) (G := nm.gv) (d := d_then) rfl rfl
theorem st_lost {k : Nat} {a0 a1 : D} : rn (k + 1) i_lost none [a0, a1] = finF false (xss (rn k) nm.gv b_lost [.dat a0, .dat a1, .no, .no, .no]) := runFd_eq (T := rn k) (G := nm.gv) (d := d_lost) rfl rfl
theorem st_chain {k : Nat} {a0 a1 : D} : rn (k + 1) i_chain none [a0, a1] = finF false (xss (rn k) nm.gv b_chain [.dat a0, .dat a1, .no, .no]) := runFd_eq (T := rn k) (G := nm.gv) (d := d_chain) rfl rfl
theorem st_chain_lost {k : Nat} {a0 a1 : D} : rn (k + 1) i_chain_lost none [a0, a1] = finF false (xss (rn k) nm.gv b_chain_lost [.dat a0, .dat a1, .no, .no, .no]) := runFd_eq (T := rn k) (G := nm.gv) (d := d_chain_lost) rfl rfl
theorem st_power {k : Nat} {a0 a1 : D} : rn (k + 1) i_power none [a0, a1] = finF false (xss (rn k) nm.gv b_power [.dat a0, .dat a1]) := runFd_eq (T := rn k) (G := nm.gv) (d := d_power) rfl rfl
theorem st__law_same {k : Nat} {a0 a1 : D} : rn (k + 1) i__law_same none [a0, a1] = finF false (xss (rn k) nm.gv b__law_same [.dat a0, .dat a1, .no]) := runFd_eq (T := rn k) (G := nm.gv) (d := d__law_same) rfl rfl
theorem st__law_pool {k : Nat} {a0 : D} : rn (k + 1) i__law_pool none [a0] = finF false (xss (rn k) nm.gv b__law_pool [.dat a0, .no, .no]) := runFd_eq (T := rn k) (G := nm.gv) (d := d__law_pool) rfl rfl
theorem st__law_spread {k : Nat} {a0 : D} : rn (k + 1) i__law_spread none [a0] = finF false (xss (rn k) nm.gv b__law_spread [.dat a0, .no, .no, .no]) := runFd_eq (T := rn k) (G := nm.gv) (d := d__law_spread) rfl rfl
theorem st__law_draw {k : Nat} {q : List D} {a0 : D} : rn (k + 1) i__law_draw (some q) [a0] = finF true (xss (rn k) nm.gv b__law_draw [.own true q, .dat a0, .no, .no, .no]) := runFd_eq (T := rn k) (G := nm.gv) (d := d__law_draw) rfl rfl
theorem st__law_shuffled {k : Nat} {q : List D} {a0 : D} : rn (k + 1) i__law_shuffled (some q) [a0] = finF true (xss (rn k) nm.gv b__law_shuffled [.own true q, .dat a0, .no, .no, .no]) := runFd_eq (T := rn k) (G := nm.gv) (d := d__law_shuffled) rfl rfl
theorem st__law_merge {k : Nat} {a0 a1 : D} : rn (k + 1) i__law_merge none [a0, a1] = finF false (xss (rn k) nm.gv b__law_merge [.dat a0, .dat a1, .no, .no, .no, .no, .no, .no, .no]) := runFd_eq (T := rn k) (G := nm.gv) (d := d__law_merge) rfl rfl
theorem st__law_some {k : Nat} {q : List D} {a0 a1 : D} : rn (k + 1) i__law_some (some q) [a0, a1] = finF true (xss (rn k) nm.gv b__law_some [.own true q, .dat a0, .dat a1, .no, .no, .no]) := runFd_eq (T := rn k) (G := nm.gv) (d := d__law_some) rfl rfl
theorem st__law_diagram {k : Nat} {q : List D} {a0 a1 : D} : rn (k + 1) i__law_diagram (some q) [a0, a1] = finF true (xss (rn k) nm.gv b__law_diagram [.own true q, .dat a0, .dat a1, .no, .no, .no, .no]) := runFd_eq (T := rn k) (G := nm.gv) (d := d__law_diagram) rfl rfl
theorem st__law_behind {k : Nat} {a0 a1 : D} : rn (k + 1) i__law_behind none [a0, a1] = finF false (xss (rn k) nm.gv b__law_behind [.dat a0, .dat a1, .no, .no, .no, .no, .no, .no, .no, .no, .no, .no, .no]) := runFd_eq (T := rn k) (G := nm.gv) (d := d__law_behind) rfl rfl
theorem st__law_still {k : Nat} {a0 : D} : rn (k + 1) i__law_still none [a0] = finF false (xss (rn k) nm.gv b__law_still [.dat a0, .no]) := runFd_eq (T := rn k) (G := nm.gv) (d := d__law_still) rfl rfl
theorem st__law_try {k : Nat} {a0 a1 a2 : D} : rn (k + 1) i__law_try none [a0, a1, a2] = finF false (xss (rn k) nm.gv b__law_try [.dat a0, .dat a1, .dat a2]) := runFd_eq (T := rn k) (G := nm.gv) (d := d__law_try) rfl rfl
theorem st_law {k : Nat} {a0 : D} : rn (k + 1) i_law none [a0] = finF false (xss (rn k) nm.gv b_law [.dat a0, .no, .no, .no, .no, .no, .no, .no, .no, .no, .no, .no, .no, .no, .no, .no, .no, .no]) := runFd_eq (T := rn k) (G := nm.gv) (d := d_law) rfl rfl
end GC

namespace GC
open Classical Z G M
theorem sp_is_whole {k : Nat} {i : Int} : rn (k + 1) i_is_whole none [.int i] = .ok (.dat (.bl true)) [] := by
  rw [st_is_whole, b_is_whole]
  simp -implicitDefEqProofs only [evO_some, bnd_ok, bnd_ex, lift_some, liftC_dat, liftC_own, fl_ok, fl_ex, then_nx, then_rt, then_ex, data_dat, data_own, data_ex, truth_ok, truth_ex, readC_dat, readC_own, peekC_dat, peekC_own, ev_var, ev_lit, ev_gc, ev_fnm, ev_bin, ev_not, ev_and, ev_or, ev_cmp, ev_chn, ev_ite, ev_tup, ev_lst, ev_idx, ev_vix, ev_vln, ev_vcl, ev_vcr, ev_slc, ev_rev, ev_app, ev_appP, ev_bi, ev_mn, ev_rgl, ev_rgt, ev_isi, ev_mth, ev_neg, evs_nil, evs_cons, evo_non, evo_som, evc_non, evc_som, evi_seq, evi_rng, callR_dat, callR_own, callR_ex, callA_eq, callP_own, callRp_ok, callRp_ex, putP_own, xss_nil, xss_cons, xs_set, stC_ok, bindS_some, xs_asg, xs_tpar, bind_nm, bind_tp, binds_nil, binds_cons, ownC_some, ownQ_own, ownAt_eq, xs_sti, xs_aug, xs_apd, xs_xtd, xs_exp, xs_iff, xs_for, xs_whl, xs_ret, xs_rse, xs_pas, xs_try, tryE_rt, tryE_nx, tryE_ex, fin_rt, fin_nx, fin_ex, finP_rt, finP_nx, op_addI, op_subI, cmp_lt, cmp_le, cmp_gt, cmp_ge, cmp_eqI, cmp_neI, cmp_eqB, cmp_neB, aug_add, ix_of, cmp_isN, cmp_isNotN, bi_lenL, bi_lenT, bi_listL, bi_listT, bi_tupL, bi_tupT, bi_sum, bi_int, bi_all, bi_any, items_L, items_T, dat_d, own_d, at0, at1, at2, al0, al1,  List.getD_cons_zero, List.getD_cons_succ, List.set_cons_zero, List.set_cons_succ, List.length_cons, List.length_nil, Option.map_some, Option.bind_some, Option.map_none, reduceIte, Nat.reduceLT, Nat.reduceAdd, wipeE, List.length_map, List.getElem?_cons_zero, List.getElem?_cons_succ, bind_dP, at0d, at1d, at2d, cut2d, ite_and, ite_or, ite_int, isD]
  rfl

theorem sp_merged {k : Nat} {m : Int} {L : Ln} {links : DD} (h0 : 0 ≤ m) (h1 : m ≤ 1000) (hL : inR m L) (hlk : itemsOf links = some (L.map dP)) : rn (k + 1) i_merged none [.int m, links] = .ok (.dat (dB (blocks m (Gen m (rl L))))) [] := mrg_eq h0 h1 hL hlk

theorem sp_links_of {k : Nat} {a : Dg} (h : a.Ok) : rn (k + 1) i_links_of none [a.d] = .ok (.dat (.tup ((links (a.m + a.k) a.r).map dP))) [] := by
  rw [st_links_of, b_links_of, Dg.d_eq]
  simp -implicitDefEqProofs only [evO_some, bnd_ok, bnd_ex, lift_some, liftC_dat, liftC_own, fl_ok, fl_ex, then_nx, then_rt, then_ex, data_dat, data_own, data_ex, truth_ok, truth_ex, readC_dat, readC_own, peekC_dat, peekC_own, ev_var, ev_lit, ev_gc, ev_fnm, ev_bin, ev_not, ev_and, ev_or, ev_cmp, ev_chn, ev_ite, ev_tup, ev_lst, ev_idx, ev_vix, ev_vln, ev_vcl, ev_vcr, ev_slc, ev_rev, ev_app, ev_appP, ev_bi, ev_mn, ev_rgl, ev_rgt, ev_isi, ev_mth, ev_neg, evs_nil, evs_cons, evo_non, evo_som, evc_non, evc_som, evi_seq, evi_rng, callR_dat, callR_own, callR_ex, callA_eq, callP_own, callRp_ok, callRp_ex, putP_own, xss_nil, xss_cons, xs_set, stC_ok, bindS_some, xs_asg, xs_tpar, bind_nm, bind_tp, binds_nil, binds_cons, ownC_some, ownQ_own, ownAt_eq, xs_sti, xs_aug, xs_apd, xs_xtd, xs_exp, xs_iff, xs_for, xs_whl, xs_ret, xs_rse, xs_pas, xs_try, tryE_rt, tryE_nx, tryE_ex, fin_rt, fin_nx, fin_ex, finP_rt, finP_nx, op_addI, op_subI, cmp_lt, cmp_le, cmp_gt, cmp_ge, cmp_eqI, cmp_neI, cmp_eqB, cmp_neB, aug_add, ix_of, cmp_isN, cmp_isNotN, bi_lenL, bi_lenT, bi_listL, bi_listT, bi_tupL, bi_tupT, bi_sum, bi_int, bi_all, bi_any, items_L, items_T, dat_d, own_d, at0, at1, at2, al0, al1,  List.getD_cons_zero, List.getD_cons_succ, List.set_cons_zero, List.set_cons_succ, List.length_cons, List.length_nil, Option.map_some, Option.bind_some, Option.map_none, reduceIte, Nat.reduceLT, Nat.reduceAdd, wipeE, List.length_map, List.getElem?_cons_zero, List.getElem?_cons_succ, bind_dP, at0d, at1d, at2d, cut2d, ite_and, ite_or, ite_int]
  refine for_fin (enc := dI) (xs := a.bs) (fun pre e => ∃ c, e = [Cl.dat (.tup [.int a.m, .int a.k, dB a.bs]), Cl.own false ((pre.flatMap conseq).map dP), c, Cl.no]) ⟨_, rfl⟩ (fun pre x post hx e he => ?_) fun e he => ?_
  · obtain ⟨c, rfl⟩ := he
    have hx' : x ∈ a.bs := by rw [hx]; simp
    have hl : x.length ≤ 200 := by have := block_len h.e hx'; have := h.n1; omega
    have hne := block_ne h.e hx'
    have hl0 : 0 < x.length := List.length_pos_iff.mpr hne
    have hpl : (pre.flatMap conseq).length ≤ 100000 := by
      have hb : a.bs.length ≤ 200 := by have := blocks_len h.e; have := h.n1; unfold Dg.bs; omega
      have : ∀ l : List (List Int), (∀ b ∈ l, b ∈ a.bs) → (l.flatMap conseq).length ≤ 200 * l.length := fun l => by
        induction l with
        | nil => intro _; simp
        | cons b l ih =>
          intro hl
          have := ih fun c hc => hl c (List.mem_cons_of_mem _ hc)
          have hb : b.length ≤ 200 := by have := block_len h.e (hl b List.mem_cons_self); have := h.n1; omega
          have hc : (conseq b).length ≤ 200 := by rw [← conseq_at, List.length_map, len_seqI]; omega
          rw [List.flatMap_cons, List.length_append, List.length_cons]
          omega
      have h1 := this pre fun b hb => by rw [hx]; simp [hb]
      have : pre.length ≤ a.bs.length := by rw [hx]; simp
      omega
    refine ⟨[Cl.dat (.tup [.int a.m, .int a.k, dB a.bs]), Cl.own false (((pre ++ [x]).flatMap conseq).map dP), .dat (dI x), Cl.no], ?_, _, rfl⟩
    rw [forB_some (bind_nm (by simp))]
    simp -implicitDefEqProofs only [evO_some, bnd_ok, bnd_ex, lift_some, liftC_dat, liftC_own, fl_ok, fl_ex, then_nx, then_rt, then_ex, data_dat, data_own, data_ex, truth_ok, truth_ex, readC_dat, readC_own, peekC_dat, peekC_own, ev_var, ev_lit, ev_gc, ev_fnm, ev_bin, ev_not, ev_and, ev_or, ev_cmp, ev_chn, ev_ite, ev_tup, ev_lst, ev_idx, ev_vix, ev_vln, ev_vcl, ev_vcr, ev_slc, ev_rev, ev_app, ev_appP, ev_bi, ev_mn, ev_rgl, ev_rgt, ev_isi, ev_mth, ev_neg, evs_nil, evs_cons, evo_non, evo_som, evc_non, evc_som, evi_seq, evi_rng, callR_dat, callR_own, callR_ex, callA_eq, callP_own, callRp_ok, callRp_ex, putP_own, xss_nil, xss_cons, xs_set, stC_ok, bindS_some, xs_asg, xs_tpar, bind_nm, bind_tp, binds_nil, binds_cons, ownC_some, ownQ_own, ownAt_eq, xs_sti, xs_aug, xs_apd, xs_xtd, xs_exp, xs_iff, xs_for, xs_whl, xs_ret, xs_rse, xs_pas, xs_try, tryE_rt, tryE_nx, tryE_ex, fin_rt, fin_nx, fin_ex, finP_rt, finP_nx, op_addI, op_subI, cmp_lt, cmp_le, cmp_gt, cmp_ge, cmp_eqI, cmp_neI, cmp_eqB, cmp_neB, aug_add, ix_of, cmp_isN, cmp_isNotN, bi_lenL, bi_lenT, bi_listL, bi_listT, bi_tupL, bi_tupT, bi_sum, bi_int, bi_all, bi_any, items_L, items_T, dat_d, own_d, at0, at1, at2, al0, al1,  List.getD_cons_zero, List.getD_cons_succ, List.set_cons_zero, List.set_cons_succ, List.length_cons, List.length_nil, Option.map_some, Option.bind_some, Option.map_none, reduceIte, Nat.reduceLT, Nat.reduceAdd, wipeE, List.length_map, List.getElem?_cons_zero, List.getElem?_cons_succ, bind_dP, at0d, at1d, at2d, cut2d, ite_and, ite_or, ite_int]
    have e1 : (x.length : Int) - 1 = ((x.length - 1 : Nat) : Int) := by omega
    rw [ev_mapS (seqI (x.length - 1) 0) .int (fun i => dP (x.getD i.toNat 0, x.getD (i + 1).toNat 0)) ?hit fun i hi => ?hb]
    case hit =>
      simp -implicitDefEqProofs only [evO_some, bnd_ok, bnd_ex, lift_some, liftC_dat, liftC_own, fl_ok, fl_ex, then_nx, then_rt, then_ex, data_dat, data_own, data_ex, truth_ok, truth_ex, readC_dat, readC_own, peekC_dat, peekC_own, ev_var, ev_lit, ev_gc, ev_fnm, ev_bin, ev_not, ev_and, ev_or, ev_cmp, ev_chn, ev_ite, ev_tup, ev_lst, ev_idx, ev_vix, ev_vln, ev_vcl, ev_vcr, ev_slc, ev_rev, ev_app, ev_appP, ev_bi, ev_mn, ev_rgl, ev_rgt, ev_isi, ev_mth, ev_neg, evs_nil, evs_cons, evo_non, evo_som, evc_non, evc_som, evi_seq, evi_rng, callR_dat, callR_own, callR_ex, callA_eq, callP_own, callRp_ok, callRp_ex, putP_own, xss_nil, xss_cons, xs_set, stC_ok, bindS_some, xs_asg, xs_tpar, bind_nm, bind_tp, binds_nil, binds_cons, ownC_some, ownQ_own, ownAt_eq, xs_sti, xs_aug, xs_apd, xs_xtd, xs_exp, xs_iff, xs_for, xs_whl, xs_ret, xs_rse, xs_pas, xs_try, tryE_rt, tryE_nx, tryE_ex, fin_rt, fin_nx, fin_ex, finP_rt, finP_nx, op_addI, op_subI, cmp_lt, cmp_le, cmp_gt, cmp_ge, cmp_eqI, cmp_neI, cmp_eqB, cmp_neB, aug_add, ix_of, cmp_isN, cmp_isNotN, bi_lenL, bi_lenT, bi_listL, bi_listT, bi_tupL, bi_tupT, bi_sum, bi_int, bi_all, bi_any, items_L, items_T, dat_d, own_d, at0, at1, at2, al0, al1,  List.getD_cons_zero, List.getD_cons_succ, List.set_cons_zero, List.set_cons_succ, List.length_cons, List.length_nil, Option.map_some, Option.bind_some, Option.map_none, reduceIte, Nat.reduceLT, Nat.reduceAdd, wipeE, List.length_map, List.getElem?_cons_zero, List.getElem?_cons_succ, bind_dP, at0d, at1d, at2d, cut2d, ite_and, ite_or, ite_int]
      rw [rngD_one (by omega) (by omega)]
      simp -implicitDefEqProofs only [evO_some, bnd_ok, bnd_ex, lift_some, liftC_dat, liftC_own, fl_ok, fl_ex, then_nx, then_rt, then_ex, data_dat, data_own, data_ex, truth_ok, truth_ex, readC_dat, readC_own, peekC_dat, peekC_own, ev_var, ev_lit, ev_gc, ev_fnm, ev_bin, ev_not, ev_and, ev_or, ev_cmp, ev_chn, ev_ite, ev_tup, ev_lst, ev_idx, ev_vix, ev_vln, ev_vcl, ev_vcr, ev_slc, ev_rev, ev_app, ev_appP, ev_bi, ev_mn, ev_rgl, ev_rgt, ev_isi, ev_mth, ev_neg, evs_nil, evs_cons, evo_non, evo_som, evc_non, evc_som, evi_seq, evi_rng, callR_dat, callR_own, callR_ex, callA_eq, callP_own, callRp_ok, callRp_ex, putP_own, xss_nil, xss_cons, xs_set, stC_ok, bindS_some, xs_asg, xs_tpar, bind_nm, bind_tp, binds_nil, binds_cons, ownC_some, ownQ_own, ownAt_eq, xs_sti, xs_aug, xs_apd, xs_xtd, xs_exp, xs_iff, xs_for, xs_whl, xs_ret, xs_rse, xs_pas, xs_try, tryE_rt, tryE_nx, tryE_ex, fin_rt, fin_nx, fin_ex, finP_rt, finP_nx, op_addI, op_subI, cmp_lt, cmp_le, cmp_gt, cmp_ge, cmp_eqI, cmp_neI, cmp_eqB, cmp_neB, aug_add, ix_of, cmp_isN, cmp_isNotN, bi_lenL, bi_lenT, bi_listL, bi_listT, bi_tupL, bi_tupT, bi_sum, bi_int, bi_all, bi_any, items_L, items_T, dat_d, own_d, at0, at1, at2, al0, al1,  List.getD_cons_zero, List.getD_cons_succ, List.set_cons_zero, List.set_cons_succ, List.length_cons, List.length_nil, Option.map_some, Option.bind_some, Option.map_none, reduceIte, Nat.reduceLT, Nat.reduceAdd, wipeE, List.length_map, List.getElem?_cons_zero, List.getElem?_cons_succ, bind_dP, at0d, at1d, at2d, cut2d, ite_and, ite_or, ite_int]
      unfold rng
      have e2 : ((x.length : Int) - 1).toNat = x.length - 1 := by omega
      rw [e2]
    case hb =>
      have := mem_seqI.mp hi
      have g1 := at_ints (b := x) (i := i) (by omega) (by omega)
      have g2 := at_ints (b := x) (i := i + 1) (by omega) (by omega)
      exact ⟨_, by simp -implicitDefEqProofs only [evO_some, bnd_ok, bnd_ex, lift_some, liftC_dat, liftC_own, fl_ok, fl_ex, then_nx, then_rt, then_ex, data_dat, data_own, data_ex, truth_ok, truth_ex, readC_dat, readC_own, peekC_dat, peekC_own, ev_var, ev_lit, ev_gc, ev_fnm, ev_bin, ev_not, ev_and, ev_or, ev_cmp, ev_chn, ev_ite, ev_tup, ev_lst, ev_idx, ev_vix, ev_vln, ev_vcl, ev_vcr, ev_slc, ev_rev, ev_app, ev_appP, ev_bi, ev_mn, ev_rgl, ev_rgt, ev_isi, ev_mth, ev_neg, evs_nil, evs_cons, evo_non, evo_som, evc_non, evc_som, evi_seq, evi_rng, callR_dat, callR_own, callR_ex, callA_eq, callP_own, callRp_ok, callRp_ex, putP_own, xss_nil, xss_cons, xs_set, stC_ok, bindS_some, xs_asg, xs_tpar, bind_nm, bind_tp, binds_nil, binds_cons, ownC_some, ownQ_own, ownAt_eq, xs_sti, xs_aug, xs_apd, xs_xtd, xs_exp, xs_iff, xs_for, xs_whl, xs_ret, xs_rse, xs_pas, xs_try, tryE_rt, tryE_nx, tryE_ex, fin_rt, fin_nx, fin_ex, finP_rt, finP_nx, op_addI, op_subI, cmp_lt, cmp_le, cmp_gt, cmp_ge, cmp_eqI, cmp_neI, cmp_eqB, cmp_neB, aug_add, ix_of, cmp_isN, cmp_isNotN, bi_lenL, bi_lenT, bi_listL, bi_listT, bi_tupL, bi_tupT, bi_sum, bi_int, bi_all, bi_any, items_L, items_T, dat_d, own_d, at0, at1, at2, al0, al1,  List.getD_cons_zero, List.getD_cons_succ, List.set_cons_zero, List.set_cons_succ, List.length_cons, List.length_nil, Option.map_some, Option.bind_some, Option.map_none, reduceIte, Nat.reduceLT, Nat.reduceAdd, wipeE, List.length_map, List.getElem?_cons_zero, List.getElem?_cons_succ, bind_dP, at0d, at1d, at2d, cut2d, ite_and, ite_or, ite_int, g1, g2]; rfl, by simp -implicitDefEqProofs only [evO_some, bnd_ok, bnd_ex, lift_some, liftC_dat, liftC_own, fl_ok, fl_ex, then_nx, then_rt, then_ex, data_dat, data_own, data_ex, truth_ok, truth_ex, readC_dat, readC_own, peekC_dat, peekC_own, ev_var, ev_lit, ev_gc, ev_fnm, ev_bin, ev_not, ev_and, ev_or, ev_cmp, ev_chn, ev_ite, ev_tup, ev_lst, ev_idx, ev_vix, ev_vln, ev_vcl, ev_vcr, ev_slc, ev_rev, ev_app, ev_appP, ev_bi, ev_mn, ev_rgl, ev_rgt, ev_isi, ev_mth, ev_neg, evs_nil, evs_cons, evo_non, evo_som, evc_non, evc_som, evi_seq, evi_rng, callR_dat, callR_own, callR_ex, callA_eq, callP_own, callRp_ok, callRp_ex, putP_own, xss_nil, xss_cons, xs_set, stC_ok, bindS_some, xs_asg, xs_tpar, bind_nm, bind_tp, binds_nil, binds_cons, ownC_some, ownQ_own, ownAt_eq, xs_sti, xs_aug, xs_apd, xs_xtd, xs_exp, xs_iff, xs_for, xs_whl, xs_ret, xs_rse, xs_pas, xs_try, tryE_rt, tryE_nx, tryE_ex, fin_rt, fin_nx, fin_ex, finP_rt, finP_nx, op_addI, op_subI, cmp_lt, cmp_le, cmp_gt, cmp_ge, cmp_eqI, cmp_neI, cmp_eqB, cmp_neB, aug_add, ix_of, cmp_isN, cmp_isNotN, bi_lenL, bi_lenT, bi_listL, bi_listT, bi_tupL, bi_tupT, bi_sum, bi_int, bi_all, bi_any, items_L, items_T, dat_d, own_d, at0, at1, at2, al0, al1,  List.getD_cons_zero, List.getD_cons_succ, List.set_cons_zero, List.set_cons_succ, List.length_cons, List.length_nil, Option.map_some, Option.bind_some, Option.map_none, reduceIte, Nat.reduceLT, Nat.reduceAdd, wipeE, List.length_map, List.getElem?_cons_zero, List.getElem?_cons_succ, bind_dP, at0d, at1d, at2d, cut2d, ite_and, ite_or, ite_int]⟩
    simp -implicitDefEqProofs only [evO_some, bnd_ok, bnd_ex, lift_some, liftC_dat, liftC_own, fl_ok, fl_ex, then_nx, then_rt, then_ex, data_dat, data_own, data_ex, truth_ok, truth_ex, readC_dat, readC_own, peekC_dat, peekC_own, ev_var, ev_lit, ev_gc, ev_fnm, ev_bin, ev_not, ev_and, ev_or, ev_cmp, ev_chn, ev_ite, ev_tup, ev_lst, ev_idx, ev_vix, ev_vln, ev_vcl, ev_vcr, ev_slc, ev_rev, ev_app, ev_appP, ev_bi, ev_mn, ev_rgl, ev_rgt, ev_isi, ev_mth, ev_neg, evs_nil, evs_cons, evo_non, evo_som, evc_non, evc_som, evi_seq, evi_rng, callR_dat, callR_own, callR_ex, callA_eq, callP_own, callRp_ok, callRp_ex, putP_own, xss_nil, xss_cons, xs_set, stC_ok, bindS_some, xs_asg, xs_tpar, bind_nm, bind_tp, binds_nil, binds_cons, ownC_some, ownQ_own, ownAt_eq, xs_sti, xs_aug, xs_apd, xs_xtd, xs_exp, xs_iff, xs_for, xs_whl, xs_ret, xs_rse, xs_pas, xs_try, tryE_rt, tryE_nx, tryE_ex, fin_rt, fin_nx, fin_ex, finP_rt, finP_nx, op_addI, op_subI, cmp_lt, cmp_le, cmp_gt, cmp_ge, cmp_eqI, cmp_neI, cmp_eqB, cmp_neB, aug_add, ix_of, cmp_isN, cmp_isNotN, bi_lenL, bi_lenT, bi_listL, bi_listT, bi_tupL, bi_tupT, bi_sum, bi_int, bi_all, bi_any, items_L, items_T, dat_d, own_d, at0, at1, at2, al0, al1,  List.getD_cons_zero, List.getD_cons_succ, List.set_cons_zero, List.set_cons_succ, List.length_cons, List.length_nil, Option.map_some, Option.bind_some, Option.map_none, reduceIte, Nat.reduceLT, Nat.reduceAdd, wipeE, List.length_map, List.getElem?_cons_zero, List.getElem?_cons_succ, bind_dP, at0d, at1d, at2d, cut2d, ite_and, ite_or, ite_int]
    rw [ownC_some (ds' := ((pre ++ [x]).flatMap conseq).map dP)]
    · simp -implicitDefEqProofs only [evO_some, bnd_ok, bnd_ex, lift_some, liftC_dat, liftC_own, fl_ok, fl_ex, then_nx, then_rt, then_ex, data_dat, data_own, data_ex, truth_ok, truth_ex, readC_dat, readC_own, peekC_dat, peekC_own, ev_var, ev_lit, ev_gc, ev_fnm, ev_bin, ev_not, ev_and, ev_or, ev_cmp, ev_chn, ev_ite, ev_tup, ev_lst, ev_idx, ev_vix, ev_vln, ev_vcl, ev_vcr, ev_slc, ev_rev, ev_app, ev_appP, ev_bi, ev_mn, ev_rgl, ev_rgt, ev_isi, ev_mth, ev_neg, evs_nil, evs_cons, evo_non, evo_som, evc_non, evc_som, evi_seq, evi_rng, callR_dat, callR_own, callR_ex, callA_eq, callP_own, callRp_ok, callRp_ex, putP_own, xss_nil, xss_cons, xs_set, stC_ok, bindS_some, xs_asg, xs_tpar, bind_nm, bind_tp, binds_nil, binds_cons, ownC_some, ownQ_own, ownAt_eq, xs_sti, xs_aug, xs_apd, xs_xtd, xs_exp, xs_iff, xs_for, xs_whl, xs_ret, xs_rse, xs_pas, xs_try, tryE_rt, tryE_nx, tryE_ex, fin_rt, fin_nx, fin_ex, finP_rt, finP_nx, op_addI, op_subI, cmp_lt, cmp_le, cmp_gt, cmp_ge, cmp_eqI, cmp_neI, cmp_eqB, cmp_neB, aug_add, ix_of, cmp_isN, cmp_isNotN, bi_lenL, bi_lenT, bi_listL, bi_listT, bi_tupL, bi_tupT, bi_sum, bi_int, bi_all, bi_any, items_L, items_T, dat_d, own_d, at0, at1, at2, al0, al1,  List.getD_cons_zero, List.getD_cons_succ, List.set_cons_zero, List.set_cons_succ, List.length_cons, List.length_nil, Option.map_some, Option.bind_some, Option.map_none, reduceIte, Nat.reduceLT, Nat.reduceAdd, wipeE, List.length_map, List.getElem?_cons_zero, List.getElem?_cons_succ, bind_dP, at0d, at1d, at2d, cut2d, ite_and, ite_or, ite_int]
    · rw [len_seqI, if_pos (by rw [List.length_map]; unfold LIM; omega), List.flatMap_append, List.map_append, List.flatMap_singleton, ← conseq_at x, List.map_map]
      rfl
  · obtain ⟨c, rfl⟩ := he
    simp -implicitDefEqProofs only [evO_some, bnd_ok, bnd_ex, lift_some, liftC_dat, liftC_own, fl_ok, fl_ex, then_nx, then_rt, then_ex, data_dat, data_own, data_ex, truth_ok, truth_ex, readC_dat, readC_own, peekC_dat, peekC_own, ev_var, ev_lit, ev_gc, ev_fnm, ev_bin, ev_not, ev_and, ev_or, ev_cmp, ev_chn, ev_ite, ev_tup, ev_lst, ev_idx, ev_vix, ev_vln, ev_vcl, ev_vcr, ev_slc, ev_rev, ev_app, ev_appP, ev_bi, ev_mn, ev_rgl, ev_rgt, ev_isi, ev_mth, ev_neg, evs_nil, evs_cons, evo_non, evo_som, evc_non, evc_som, evi_seq, evi_rng, callR_dat, callR_own, callR_ex, callA_eq, callP_own, callRp_ok, callRp_ex, putP_own, xss_nil, xss_cons, xs_set, stC_ok, bindS_some, xs_asg, xs_tpar, bind_nm, bind_tp, binds_nil, binds_cons, ownC_some, ownQ_own, ownAt_eq, xs_sti, xs_aug, xs_apd, xs_xtd, xs_exp, xs_iff, xs_for, xs_whl, xs_ret, xs_rse, xs_pas, xs_try, tryE_rt, tryE_nx, tryE_ex, fin_rt, fin_nx, fin_ex, finP_rt, finP_nx, op_addI, op_subI, cmp_lt, cmp_le, cmp_gt, cmp_ge, cmp_eqI, cmp_neI, cmp_eqB, cmp_neB, aug_add, ix_of, cmp_isN, cmp_isNotN, bi_lenL, bi_lenT, bi_listL, bi_listT, bi_tupL, bi_tupT, bi_sum, bi_int, bi_all, bi_any, items_L, items_T, dat_d, own_d, at0, at1, at2, al0, al1,  List.getD_cons_zero, List.getD_cons_succ, List.set_cons_zero, List.set_cons_succ, List.length_cons, List.length_nil, Option.map_some, Option.bind_some, Option.map_none, reduceIte, Nat.reduceLT, Nat.reduceAdd, wipeE, List.length_map, List.getElem?_cons_zero, List.getElem?_cons_succ, bind_dP, at0d, at1d, at2d, cut2d, ite_and, ite_or, ite_int]
    rfl

theorem sp_still {k : Nat} {n : Int} (h0 : 0 ≤ n) (h1 : n ≤ 100) : rn (k + 1) i_still none [.int n] = .ok (.dat (still n).d) [] := by
  rw [st_still, b_still]
  simp -implicitDefEqProofs only [evO_some, bnd_ok, bnd_ex, lift_some, liftC_dat, liftC_own, fl_ok, fl_ex, then_nx, then_rt, then_ex, data_dat, data_own, data_ex, truth_ok, truth_ex, readC_dat, readC_own, peekC_dat, peekC_own, ev_var, ev_lit, ev_gc, ev_fnm, ev_bin, ev_not, ev_and, ev_or, ev_cmp, ev_chn, ev_ite, ev_tup, ev_lst, ev_idx, ev_vix, ev_vln, ev_vcl, ev_vcr, ev_slc, ev_rev, ev_app, ev_appP, ev_bi, ev_mn, ev_rgl, ev_rgt, ev_isi, ev_mth, ev_neg, evs_nil, evs_cons, evo_non, evo_som, evc_non, evc_som, evi_seq, evi_rng, callR_dat, callR_own, callR_ex, callA_eq, callP_own, callRp_ok, callRp_ex, putP_own, xss_nil, xss_cons, xs_set, stC_ok, bindS_some, xs_asg, xs_tpar, bind_nm, bind_tp, binds_nil, binds_cons, ownC_some, ownQ_own, ownAt_eq, xs_sti, xs_aug, xs_apd, xs_xtd, xs_exp, xs_iff, xs_for, xs_whl, xs_ret, xs_rse, xs_pas, xs_try, tryE_rt, tryE_nx, tryE_ex, fin_rt, fin_nx, fin_ex, finP_rt, finP_nx, op_addI, op_subI, cmp_lt, cmp_le, cmp_gt, cmp_ge, cmp_eqI, cmp_neI, cmp_eqB, cmp_neB, aug_add, ix_of, cmp_isN, cmp_isNotN, bi_lenL, bi_lenT, bi_listL, bi_listT, bi_tupL, bi_tupT, bi_sum, bi_int, bi_all, bi_any, items_L, items_T, dat_d, own_d, at0, at1, at2, al0, al1,  List.getD_cons_zero, List.getD_cons_succ, List.set_cons_zero, List.set_cons_succ, List.length_cons, List.length_nil, Option.map_some, Option.bind_some, Option.map_none, reduceIte, Nat.reduceLT, Nat.reduceAdd, wipeE, List.length_map, List.getElem?_cons_zero, List.getElem?_cons_succ, bind_dP, at0d, at1d, at2d, cut2d, ite_and, ite_or, ite_int]
  rw [ev_mapS (rng n) .int (fun i => dI [i, n + i]) ?hit fun i hi => ?hb]
  case hit =>
    simp -implicitDefEqProofs only [evO_some, bnd_ok, bnd_ex, lift_some, liftC_dat, liftC_own, fl_ok, fl_ex, then_nx, then_rt, then_ex, data_dat, data_own, data_ex, truth_ok, truth_ex, readC_dat, readC_own, peekC_dat, peekC_own, ev_var, ev_lit, ev_gc, ev_fnm, ev_bin, ev_not, ev_and, ev_or, ev_cmp, ev_chn, ev_ite, ev_tup, ev_lst, ev_idx, ev_vix, ev_vln, ev_vcl, ev_vcr, ev_slc, ev_rev, ev_app, ev_appP, ev_bi, ev_mn, ev_rgl, ev_rgt, ev_isi, ev_mth, ev_neg, evs_nil, evs_cons, evo_non, evo_som, evc_non, evc_som, evi_seq, evi_rng, callR_dat, callR_own, callR_ex, callA_eq, callP_own, callRp_ok, callRp_ex, putP_own, xss_nil, xss_cons, xs_set, stC_ok, bindS_some, xs_asg, xs_tpar, bind_nm, bind_tp, binds_nil, binds_cons, ownC_some, ownQ_own, ownAt_eq, xs_sti, xs_aug, xs_apd, xs_xtd, xs_exp, xs_iff, xs_for, xs_whl, xs_ret, xs_rse, xs_pas, xs_try, tryE_rt, tryE_nx, tryE_ex, fin_rt, fin_nx, fin_ex, finP_rt, finP_nx, op_addI, op_subI, cmp_lt, cmp_le, cmp_gt, cmp_ge, cmp_eqI, cmp_neI, cmp_eqB, cmp_neB, aug_add, ix_of, cmp_isN, cmp_isNotN, bi_lenL, bi_lenT, bi_listL, bi_listT, bi_tupL, bi_tupT, bi_sum, bi_int, bi_all, bi_any, items_L, items_T, dat_d, own_d, at0, at1, at2, al0, al1,  List.getD_cons_zero, List.getD_cons_succ, List.set_cons_zero, List.set_cons_succ, List.length_cons, List.length_nil, Option.map_some, Option.bind_some, Option.map_none, reduceIte, Nat.reduceLT, Nat.reduceAdd, wipeE, List.length_map, List.getElem?_cons_zero, List.getElem?_cons_succ, bind_dP, at0d, at1d, at2d, cut2d, ite_and, ite_or, ite_int]
    rw [rngD_one (by omega) (by omega)]
    simp -implicitDefEqProofs only [evO_some, bnd_ok, bnd_ex, lift_some, liftC_dat, liftC_own, fl_ok, fl_ex, then_nx, then_rt, then_ex, data_dat, data_own, data_ex, truth_ok, truth_ex, readC_dat, readC_own, peekC_dat, peekC_own, ev_var, ev_lit, ev_gc, ev_fnm, ev_bin, ev_not, ev_and, ev_or, ev_cmp, ev_chn, ev_ite, ev_tup, ev_lst, ev_idx, ev_vix, ev_vln, ev_vcl, ev_vcr, ev_slc, ev_rev, ev_app, ev_appP, ev_bi, ev_mn, ev_rgl, ev_rgt, ev_isi, ev_mth, ev_neg, evs_nil, evs_cons, evo_non, evo_som, evc_non, evc_som, evi_seq, evi_rng, callR_dat, callR_own, callR_ex, callA_eq, callP_own, callRp_ok, callRp_ex, putP_own, xss_nil, xss_cons, xs_set, stC_ok, bindS_some, xs_asg, xs_tpar, bind_nm, bind_tp, binds_nil, binds_cons, ownC_some, ownQ_own, ownAt_eq, xs_sti, xs_aug, xs_apd, xs_xtd, xs_exp, xs_iff, xs_for, xs_whl, xs_ret, xs_rse, xs_pas, xs_try, tryE_rt, tryE_nx, tryE_ex, fin_rt, fin_nx, fin_ex, finP_rt, finP_nx, op_addI, op_subI, cmp_lt, cmp_le, cmp_gt, cmp_ge, cmp_eqI, cmp_neI, cmp_eqB, cmp_neB, aug_add, ix_of, cmp_isN, cmp_isNotN, bi_lenL, bi_lenT, bi_listL, bi_listT, bi_tupL, bi_tupT, bi_sum, bi_int, bi_all, bi_any, items_L, items_T, dat_d, own_d, at0, at1, at2, al0, al1,  List.getD_cons_zero, List.getD_cons_succ, List.set_cons_zero, List.set_cons_succ, List.length_cons, List.length_nil, Option.map_some, Option.bind_some, Option.map_none, reduceIte, Nat.reduceLT, Nat.reduceAdd, wipeE, List.length_map, List.getElem?_cons_zero, List.getElem?_cons_succ, bind_dP, at0d, at1d, at2d, cut2d, ite_and, ite_or, ite_int]
  case hb =>
    exact ⟨_, by simp -implicitDefEqProofs only [evO_some, bnd_ok, bnd_ex, lift_some, liftC_dat, liftC_own, fl_ok, fl_ex, then_nx, then_rt, then_ex, data_dat, data_own, data_ex, truth_ok, truth_ex, readC_dat, readC_own, peekC_dat, peekC_own, ev_var, ev_lit, ev_gc, ev_fnm, ev_bin, ev_not, ev_and, ev_or, ev_cmp, ev_chn, ev_ite, ev_tup, ev_lst, ev_idx, ev_vix, ev_vln, ev_vcl, ev_vcr, ev_slc, ev_rev, ev_app, ev_appP, ev_bi, ev_mn, ev_rgl, ev_rgt, ev_isi, ev_mth, ev_neg, evs_nil, evs_cons, evo_non, evo_som, evc_non, evc_som, evi_seq, evi_rng, callR_dat, callR_own, callR_ex, callA_eq, callP_own, callRp_ok, callRp_ex, putP_own, xss_nil, xss_cons, xs_set, stC_ok, bindS_some, xs_asg, xs_tpar, bind_nm, bind_tp, binds_nil, binds_cons, ownC_some, ownQ_own, ownAt_eq, xs_sti, xs_aug, xs_apd, xs_xtd, xs_exp, xs_iff, xs_for, xs_whl, xs_ret, xs_rse, xs_pas, xs_try, tryE_rt, tryE_nx, tryE_ex, fin_rt, fin_nx, fin_ex, finP_rt, finP_nx, op_addI, op_subI, cmp_lt, cmp_le, cmp_gt, cmp_ge, cmp_eqI, cmp_neI, cmp_eqB, cmp_neB, aug_add, ix_of, cmp_isN, cmp_isNotN, bi_lenL, bi_lenT, bi_listL, bi_listT, bi_tupL, bi_tupT, bi_sum, bi_int, bi_all, bi_any, items_L, items_T, dat_d, own_d, at0, at1, at2, al0, al1,  List.getD_cons_zero, List.getD_cons_succ, List.set_cons_zero, List.set_cons_succ, List.length_cons, List.length_nil, Option.map_some, Option.bind_some, Option.map_none, reduceIte, Nat.reduceLT, Nat.reduceAdd, wipeE, List.length_map, List.getElem?_cons_zero, List.getElem?_cons_succ, bind_dP, at0d, at1d, at2d, cut2d, ite_and, ite_or, ite_int]; rfl, by simp -implicitDefEqProofs only [evO_some, bnd_ok, bnd_ex, lift_some, liftC_dat, liftC_own, fl_ok, fl_ex, then_nx, then_rt, then_ex, data_dat, data_own, data_ex, truth_ok, truth_ex, readC_dat, readC_own, peekC_dat, peekC_own, ev_var, ev_lit, ev_gc, ev_fnm, ev_bin, ev_not, ev_and, ev_or, ev_cmp, ev_chn, ev_ite, ev_tup, ev_lst, ev_idx, ev_vix, ev_vln, ev_vcl, ev_vcr, ev_slc, ev_rev, ev_app, ev_appP, ev_bi, ev_mn, ev_rgl, ev_rgt, ev_isi, ev_mth, ev_neg, evs_nil, evs_cons, evo_non, evo_som, evc_non, evc_som, evi_seq, evi_rng, callR_dat, callR_own, callR_ex, callA_eq, callP_own, callRp_ok, callRp_ex, putP_own, xss_nil, xss_cons, xs_set, stC_ok, bindS_some, xs_asg, xs_tpar, bind_nm, bind_tp, binds_nil, binds_cons, ownC_some, ownQ_own, ownAt_eq, xs_sti, xs_aug, xs_apd, xs_xtd, xs_exp, xs_iff, xs_for, xs_whl, xs_ret, xs_rse, xs_pas, xs_try, tryE_rt, tryE_nx, tryE_ex, fin_rt, fin_nx, fin_ex, finP_rt, finP_nx, op_addI, op_subI, cmp_lt, cmp_le, cmp_gt, cmp_ge, cmp_eqI, cmp_neI, cmp_eqB, cmp_neB, aug_add, ix_of, cmp_isN, cmp_isNotN, bi_lenL, bi_lenT, bi_listL, bi_listT, bi_tupL, bi_tupT, bi_sum, bi_int, bi_all, bi_any, items_L, items_T, dat_d, own_d, at0, at1, at2, al0, al1,  List.getD_cons_zero, List.getD_cons_succ, List.set_cons_zero, List.set_cons_succ, List.length_cons, List.length_nil, Option.map_some, Option.bind_some, Option.map_none, reduceIte, Nat.reduceLT, Nat.reduceAdd, wipeE, List.length_map, List.getElem?_cons_zero, List.getElem?_cons_succ, bind_dP, at0d, at1d, at2d, cut2d, ite_and, ite_or, ite_int]⟩
  simp -implicitDefEqProofs only [evO_some, bnd_ok, bnd_ex, lift_some, liftC_dat, liftC_own, fl_ok, fl_ex, then_nx, then_rt, then_ex, data_dat, data_own, data_ex, truth_ok, truth_ex, readC_dat, readC_own, peekC_dat, peekC_own, ev_var, ev_lit, ev_gc, ev_fnm, ev_bin, ev_not, ev_and, ev_or, ev_cmp, ev_chn, ev_ite, ev_tup, ev_lst, ev_idx, ev_vix, ev_vln, ev_vcl, ev_vcr, ev_slc, ev_rev, ev_app, ev_appP, ev_bi, ev_mn, ev_rgl, ev_rgt, ev_isi, ev_mth, ev_neg, evs_nil, evs_cons, evo_non, evo_som, evc_non, evc_som, evi_seq, evi_rng, callR_dat, callR_own, callR_ex, callA_eq, callP_own, callRp_ok, callRp_ex, putP_own, xss_nil, xss_cons, xs_set, stC_ok, bindS_some, xs_asg, xs_tpar, bind_nm, bind_tp, binds_nil, binds_cons, ownC_some, ownQ_own, ownAt_eq, xs_sti, xs_aug, xs_apd, xs_xtd, xs_exp, xs_iff, xs_for, xs_whl, xs_ret, xs_rse, xs_pas, xs_try, tryE_rt, tryE_nx, tryE_ex, fin_rt, fin_nx, fin_ex, finP_rt, finP_nx, op_addI, op_subI, cmp_lt, cmp_le, cmp_gt, cmp_ge, cmp_eqI, cmp_neI, cmp_eqB, cmp_neB, aug_add, ix_of, cmp_isN, cmp_isNotN, bi_lenL, bi_lenT, bi_listL, bi_listT, bi_tupL, bi_tupT, bi_sum, bi_int, bi_all, bi_any, items_L, items_T, dat_d, own_d, at0, at1, at2, al0, al1,  List.getD_cons_zero, List.getD_cons_succ, List.set_cons_zero, List.set_cons_succ, List.length_cons, List.length_nil, Option.map_some, Option.bind_some, Option.map_none, reduceIte, Nat.reduceLT, Nat.reduceAdd, wipeE, List.length_map, List.getElem?_cons_zero, List.getElem?_cons_succ, bind_dP, at0d, at1d, at2d, cut2d, ite_and, ite_or, ite_int]
  rw [Dg.d_eq, ← still_bs]
  unfold dB
  rw [List.map_map]
  rfl

theorem sp_stacked {k : Nat} {a b : Dg} (ha : a.Ok) (hb : b.Ok) (hk : a.k = b.m) : rn (k + 2) i_stacked none [a.d, b.d] = .ok (.dat (dB (a.pcs b))) [] := by
  rw [st_stacked, b_stacked]
  have e1 : (!decide (a.k = b.m)) = false := by simp [hk]
  have l1 := links_len ha
  have l2 := links_len hb
  have h1 := ha.n1; have h2 := hb.n1; have := ha.m0; have := hb.k0; have := ha.k0; have := hb.k1
  simp -implicitDefEqProofs only [evO_some, bnd_ok, bnd_ex, lift_some, liftC_dat, liftC_own, fl_ok, fl_ex, then_nx, then_rt, then_ex, data_dat, data_own, data_ex, truth_ok, truth_ex, readC_dat, readC_own, peekC_dat, peekC_own, ev_var, ev_lit, ev_gc, ev_fnm, ev_bin, ev_not, ev_and, ev_or, ev_cmp, ev_chn, ev_ite, ev_tup, ev_lst, ev_idx, ev_vix, ev_vln, ev_vcl, ev_vcr, ev_slc, ev_rev, ev_app, ev_appP, ev_bi, ev_mn, ev_rgl, ev_rgt, ev_isi, ev_mth, ev_neg, evs_nil, evs_cons, evo_non, evo_som, evc_non, evc_som, evi_seq, evi_rng, callR_dat, callR_own, callR_ex, callA_eq, callP_own, callRp_ok, callRp_ex, putP_own, xss_nil, xss_cons, xs_set, stC_ok, bindS_some, xs_asg, xs_tpar, bind_nm, bind_tp, binds_nil, binds_cons, ownC_some, ownQ_own, ownAt_eq, xs_sti, xs_aug, xs_apd, xs_xtd, xs_exp, xs_iff, xs_for, xs_whl, xs_ret, xs_rse, xs_pas, xs_try, tryE_rt, tryE_nx, tryE_ex, fin_rt, fin_nx, fin_ex, finP_rt, finP_nx, op_addI, op_subI, cmp_lt, cmp_le, cmp_gt, cmp_ge, cmp_eqI, cmp_neI, cmp_eqB, cmp_neB, aug_add, ix_of, cmp_isN, cmp_isNotN, bi_lenL, bi_lenT, bi_listL, bi_listT, bi_tupL, bi_tupT, bi_sum, bi_int, bi_all, bi_any, items_L, items_T, dat_d, own_d, at0, at1, at2, al0, al1,  List.getD_cons_zero, List.getD_cons_succ, List.set_cons_zero, List.set_cons_succ, List.length_cons, List.length_nil, Option.map_some, Option.bind_some, Option.map_none, reduceIte, Nat.reduceLT, Nat.reduceAdd, wipeE, List.length_map, List.getElem?_cons_zero, List.getElem?_cons_succ, bind_dP, at0d, at1d, at2d, cut2d, ite_and, ite_or, ite_int, e1, Bool.false_eq_true, sp_links_of ha, sp_links_of hb]
  rw [ev_mapS (links (b.m + b.k) b.r) dP (fun l => dP (l.1 + a.m, l.2 + a.m)) ?hit fun l hl => ?hb]
  case hit => simp -implicitDefEqProofs only [evO_some, bnd_ok, bnd_ex, lift_some, liftC_dat, liftC_own, fl_ok, fl_ex, then_nx, then_rt, then_ex, data_dat, data_own, data_ex, truth_ok, truth_ex, readC_dat, readC_own, peekC_dat, peekC_own, ev_var, ev_lit, ev_gc, ev_fnm, ev_bin, ev_not, ev_and, ev_or, ev_cmp, ev_chn, ev_ite, ev_tup, ev_lst, ev_idx, ev_vix, ev_vln, ev_vcl, ev_vcr, ev_slc, ev_rev, ev_app, ev_appP, ev_bi, ev_mn, ev_rgl, ev_rgt, ev_isi, ev_mth, ev_neg, evs_nil, evs_cons, evo_non, evo_som, evc_non, evc_som, evi_seq, evi_rng, callR_dat, callR_own, callR_ex, callA_eq, callP_own, callRp_ok, callRp_ex, putP_own, xss_nil, xss_cons, xs_set, stC_ok, bindS_some, xs_asg, xs_tpar, bind_nm, bind_tp, binds_nil, binds_cons, ownC_some, ownQ_own, ownAt_eq, xs_sti, xs_aug, xs_apd, xs_xtd, xs_exp, xs_iff, xs_for, xs_whl, xs_ret, xs_rse, xs_pas, xs_try, tryE_rt, tryE_nx, tryE_ex, fin_rt, fin_nx, fin_ex, finP_rt, finP_nx, op_addI, op_subI, cmp_lt, cmp_le, cmp_gt, cmp_ge, cmp_eqI, cmp_neI, cmp_eqB, cmp_neB, aug_add, ix_of, cmp_isN, cmp_isNotN, bi_lenL, bi_lenT, bi_listL, bi_listT, bi_tupL, bi_tupT, bi_sum, bi_int, bi_all, bi_any, items_L, items_T, dat_d, own_d, at0, at1, at2, al0, al1,  List.getD_cons_zero, List.getD_cons_succ, List.set_cons_zero, List.set_cons_succ, List.length_cons, List.length_nil, Option.map_some, Option.bind_some, Option.map_none, reduceIte, Nat.reduceLT, Nat.reduceAdd, wipeE, List.length_map, List.getElem?_cons_zero, List.getElem?_cons_succ, bind_dP, at0d, at1d, at2d, cut2d, ite_and, ite_or, ite_int, sp_links_of hb]
  case hb => exact ⟨_, by simp -implicitDefEqProofs only [evO_some, bnd_ok, bnd_ex, lift_some, liftC_dat, liftC_own, fl_ok, fl_ex, then_nx, then_rt, then_ex, data_dat, data_own, data_ex, truth_ok, truth_ex, readC_dat, readC_own, peekC_dat, peekC_own, ev_var, ev_lit, ev_gc, ev_fnm, ev_bin, ev_not, ev_and, ev_or, ev_cmp, ev_chn, ev_ite, ev_tup, ev_lst, ev_idx, ev_vix, ev_vln, ev_vcl, ev_vcr, ev_slc, ev_rev, ev_app, ev_appP, ev_bi, ev_mn, ev_rgl, ev_rgt, ev_isi, ev_mth, ev_neg, evs_nil, evs_cons, evo_non, evo_som, evc_non, evc_som, evi_seq, evi_rng, callR_dat, callR_own, callR_ex, callA_eq, callP_own, callRp_ok, callRp_ex, putP_own, xss_nil, xss_cons, xs_set, stC_ok, bindS_some, xs_asg, xs_tpar, bind_nm, bind_tp, binds_nil, binds_cons, ownC_some, ownQ_own, ownAt_eq, xs_sti, xs_aug, xs_apd, xs_xtd, xs_exp, xs_iff, xs_for, xs_whl, xs_ret, xs_rse, xs_pas, xs_try, tryE_rt, tryE_nx, tryE_ex, fin_rt, fin_nx, fin_ex, finP_rt, finP_nx, op_addI, op_subI, cmp_lt, cmp_le, cmp_gt, cmp_ge, cmp_eqI, cmp_neI, cmp_eqB, cmp_neB, aug_add, ix_of, cmp_isN, cmp_isNotN, bi_lenL, bi_lenT, bi_listL, bi_listT, bi_tupL, bi_tupT, bi_sum, bi_int, bi_all, bi_any, items_L, items_T, dat_d, own_d, at0, at1, at2, al0, al1,  List.getD_cons_zero, List.getD_cons_succ, List.set_cons_zero, List.set_cons_succ, List.length_cons, List.length_nil, Option.map_some, Option.bind_some, Option.map_none, reduceIte, Nat.reduceLT, Nat.reduceAdd, wipeE, List.length_map, List.getElem?_cons_zero, List.getElem?_cons_succ, bind_dP, at0d, at1d, at2d, cut2d, ite_and, ite_or, ite_int]; rfl, by simp -implicitDefEqProofs only [evO_some, bnd_ok, bnd_ex, lift_some, liftC_dat, liftC_own, fl_ok, fl_ex, then_nx, then_rt, then_ex, data_dat, data_own, data_ex, truth_ok, truth_ex, readC_dat, readC_own, peekC_dat, peekC_own, ev_var, ev_lit, ev_gc, ev_fnm, ev_bin, ev_not, ev_and, ev_or, ev_cmp, ev_chn, ev_ite, ev_tup, ev_lst, ev_idx, ev_vix, ev_vln, ev_vcl, ev_vcr, ev_slc, ev_rev, ev_app, ev_appP, ev_bi, ev_mn, ev_rgl, ev_rgt, ev_isi, ev_mth, ev_neg, evs_nil, evs_cons, evo_non, evo_som, evc_non, evc_som, evi_seq, evi_rng, callR_dat, callR_own, callR_ex, callA_eq, callP_own, callRp_ok, callRp_ex, putP_own, xss_nil, xss_cons, xs_set, stC_ok, bindS_some, xs_asg, xs_tpar, bind_nm, bind_tp, binds_nil, binds_cons, ownC_some, ownQ_own, ownAt_eq, xs_sti, xs_aug, xs_apd, xs_xtd, xs_exp, xs_iff, xs_for, xs_whl, xs_ret, xs_rse, xs_pas, xs_try, tryE_rt, tryE_nx, tryE_ex, fin_rt, fin_nx, fin_ex, finP_rt, finP_nx, op_addI, op_subI, cmp_lt, cmp_le, cmp_gt, cmp_ge, cmp_eqI, cmp_neI, cmp_eqB, cmp_neB, aug_add, ix_of, cmp_isN, cmp_isNotN, bi_lenL, bi_lenT, bi_listL, bi_listT, bi_tupL, bi_tupT, bi_sum, bi_int, bi_all, bi_any, items_L, items_T, dat_d, own_d, at0, at1, at2, al0, al1,  List.getD_cons_zero, List.getD_cons_succ, List.set_cons_zero, List.set_cons_succ, List.length_cons, List.length_nil, Option.map_some, Option.bind_some, Option.map_none, reduceIte, Nat.reduceLT, Nat.reduceAdd, wipeE, List.length_map, List.getElem?_cons_zero, List.getElem?_cons_succ, bind_dP, at0d, at1d, at2d, cut2d, ite_and, ite_or, ite_int]⟩
  simp -implicitDefEqProofs only [evO_some, bnd_ok, bnd_ex, lift_some, liftC_dat, liftC_own, fl_ok, fl_ex, then_nx, then_rt, then_ex, data_dat, data_own, data_ex, truth_ok, truth_ex, readC_dat, readC_own, peekC_dat, peekC_own, ev_var, ev_lit, ev_gc, ev_fnm, ev_bin, ev_not, ev_and, ev_or, ev_cmp, ev_chn, ev_ite, ev_tup, ev_lst, ev_idx, ev_vix, ev_vln, ev_vcl, ev_vcr, ev_slc, ev_rev, ev_app, ev_appP, ev_bi, ev_mn, ev_rgl, ev_rgt, ev_isi, ev_mth, ev_neg, evs_nil, evs_cons, evo_non, evo_som, evc_non, evc_som, evi_seq, evi_rng, callR_dat, callR_own, callR_ex, callA_eq, callP_own, callRp_ok, callRp_ex, putP_own, xss_nil, xss_cons, xs_set, stC_ok, bindS_some, xs_asg, xs_tpar, bind_nm, bind_tp, binds_nil, binds_cons, ownC_some, ownQ_own, ownAt_eq, xs_sti, xs_aug, xs_apd, xs_xtd, xs_exp, xs_iff, xs_for, xs_whl, xs_ret, xs_rse, xs_pas, xs_try, tryE_rt, tryE_nx, tryE_ex, fin_rt, fin_nx, fin_ex, finP_rt, finP_nx, op_addI, op_subI, cmp_lt, cmp_le, cmp_gt, cmp_ge, cmp_eqI, cmp_neI, cmp_eqB, cmp_neB, aug_add, ix_of, cmp_isN, cmp_isNotN, bi_lenL, bi_lenT, bi_listL, bi_listT, bi_tupL, bi_tupT, bi_sum, bi_int, bi_all, bi_any, items_L, items_T, dat_d, own_d, at0, at1, at2, al0, al1,  List.getD_cons_zero, List.getD_cons_succ, List.set_cons_zero, List.set_cons_succ, List.length_cons, List.length_nil, Option.map_some, Option.bind_some, Option.map_none, reduceIte, Nat.reduceLT, Nat.reduceAdd, wipeE, List.length_map, List.getElem?_cons_zero, List.getElem?_cons_succ, bind_dP, at0d, at1d, at2d, cut2d, ite_and, ite_or, ite_int]
  rw [ownC_some (ds' := (links (a.m + a.k) a.r ++ sh a.m (links (b.m + b.k) b.r)).map dP) (by
    rw [if_pos (by simp only [List.length_map]; unfold LIM; omega), List.map_append]
    unfold sh
    rw [List.map_map]
    rfl)]
  simp -implicitDefEqProofs only [evO_some, bnd_ok, bnd_ex, lift_some, liftC_dat, liftC_own, fl_ok, fl_ex, then_nx, then_rt, then_ex, data_dat, data_own, data_ex, truth_ok, truth_ex, readC_dat, readC_own, peekC_dat, peekC_own, ev_var, ev_lit, ev_gc, ev_fnm, ev_bin, ev_not, ev_and, ev_or, ev_cmp, ev_chn, ev_ite, ev_tup, ev_lst, ev_idx, ev_vix, ev_vln, ev_vcl, ev_vcr, ev_slc, ev_rev, ev_app, ev_appP, ev_bi, ev_mn, ev_rgl, ev_rgt, ev_isi, ev_mth, ev_neg, evs_nil, evs_cons, evo_non, evo_som, evc_non, evc_som, evi_seq, evi_rng, callR_dat, callR_own, callR_ex, callA_eq, callP_own, callRp_ok, callRp_ex, putP_own, xss_nil, xss_cons, xs_set, stC_ok, bindS_some, xs_asg, xs_tpar, bind_nm, bind_tp, binds_nil, binds_cons, ownC_some, ownQ_own, ownAt_eq, xs_sti, xs_aug, xs_apd, xs_xtd, xs_exp, xs_iff, xs_for, xs_whl, xs_ret, xs_rse, xs_pas, xs_try, tryE_rt, tryE_nx, tryE_ex, fin_rt, fin_nx, fin_ex, finP_rt, finP_nx, op_addI, op_subI, cmp_lt, cmp_le, cmp_gt, cmp_ge, cmp_eqI, cmp_neI, cmp_eqB, cmp_neB, aug_add, ix_of, cmp_isN, cmp_isNotN, bi_lenL, bi_lenT, bi_listL, bi_listT, bi_tupL, bi_tupT, bi_sum, bi_int, bi_all, bi_any, items_L, items_T, dat_d, own_d, at0, at1, at2, al0, al1,  List.getD_cons_zero, List.getD_cons_succ, List.set_cons_zero, List.set_cons_succ, List.length_cons, List.length_nil, Option.map_some, Option.bind_some, Option.map_none, reduceIte, Nat.reduceLT, Nat.reduceAdd, wipeE, List.length_map, List.getElem?_cons_zero, List.getElem?_cons_succ, bind_dP, at0d, at1d, at2d, cut2d, ite_and, ite_or, ite_int]
  obtain ⟨g1, g2⟩ := stk_links ha hb hk
  rw [sp_merged (by omega) (by omega) g1 rfl, g2]
  simp -implicitDefEqProofs only [evO_some, bnd_ok, bnd_ex, lift_some, liftC_dat, liftC_own, fl_ok, fl_ex, then_nx, then_rt, then_ex, data_dat, data_own, data_ex, truth_ok, truth_ex, readC_dat, readC_own, peekC_dat, peekC_own, ev_var, ev_lit, ev_gc, ev_fnm, ev_bin, ev_not, ev_and, ev_or, ev_cmp, ev_chn, ev_ite, ev_tup, ev_lst, ev_idx, ev_vix, ev_vln, ev_vcl, ev_vcr, ev_slc, ev_rev, ev_app, ev_appP, ev_bi, ev_mn, ev_rgl, ev_rgt, ev_isi, ev_mth, ev_neg, evs_nil, evs_cons, evo_non, evo_som, evc_non, evc_som, evi_seq, evi_rng, callR_dat, callR_own, callR_ex, callA_eq, callP_own, callRp_ok, callRp_ex, putP_own, xss_nil, xss_cons, xs_set, stC_ok, bindS_some, xs_asg, xs_tpar, bind_nm, bind_tp, binds_nil, binds_cons, ownC_some, ownQ_own, ownAt_eq, xs_sti, xs_aug, xs_apd, xs_xtd, xs_exp, xs_iff, xs_for, xs_whl, xs_ret, xs_rse, xs_pas, xs_try, tryE_rt, tryE_nx, tryE_ex, fin_rt, fin_nx, fin_ex, finP_rt, finP_nx, op_addI, op_subI, cmp_lt, cmp_le, cmp_gt, cmp_ge, cmp_eqI, cmp_neI, cmp_eqB, cmp_neB, aug_add, ix_of, cmp_isN, cmp_isNotN, bi_lenL, bi_lenT, bi_listL, bi_listT, bi_tupL, bi_tupT, bi_sum, bi_int, bi_all, bi_any, items_L, items_T, dat_d, own_d, at0, at1, at2, al0, al1,  List.getD_cons_zero, List.getD_cons_succ, List.set_cons_zero, List.set_cons_succ, List.length_cons, List.length_nil, Option.map_some, Option.bind_some, Option.map_none, reduceIte, Nat.reduceLT, Nat.reduceAdd, wipeE, List.length_map, List.getElem?_cons_zero, List.getElem?_cons_succ, bind_dP, at0d, at1d, at2d, cut2d, ite_and, ite_or, ite_int]
  rfl
theorem ux_stacked {k : Nat} {a b : Dg} (hk : a.k ≠ b.m) : rn (k + 2) i_stacked none [a.d, b.d] = .ex x_Unfit [] := by
  rw [st_stacked, b_stacked]
  have e1 : (!decide (a.k = b.m)) = true := by simp [hk]
  simp -implicitDefEqProofs only [evO_some, bnd_ok, bnd_ex, lift_some, liftC_dat, liftC_own, fl_ok, fl_ex, then_nx, then_rt, then_ex, data_dat, data_own, data_ex, truth_ok, truth_ex, readC_dat, readC_own, peekC_dat, peekC_own, ev_var, ev_lit, ev_gc, ev_fnm, ev_bin, ev_not, ev_and, ev_or, ev_cmp, ev_chn, ev_ite, ev_tup, ev_lst, ev_idx, ev_vix, ev_vln, ev_vcl, ev_vcr, ev_slc, ev_rev, ev_app, ev_appP, ev_bi, ev_mn, ev_rgl, ev_rgt, ev_isi, ev_mth, ev_neg, evs_nil, evs_cons, evo_non, evo_som, evc_non, evc_som, evi_seq, evi_rng, callR_dat, callR_own, callR_ex, callA_eq, callP_own, callRp_ok, callRp_ex, putP_own, xss_nil, xss_cons, xs_set, stC_ok, bindS_some, xs_asg, xs_tpar, bind_nm, bind_tp, binds_nil, binds_cons, ownC_some, ownQ_own, ownAt_eq, xs_sti, xs_aug, xs_apd, xs_xtd, xs_exp, xs_iff, xs_for, xs_whl, xs_ret, xs_rse, xs_pas, xs_try, tryE_rt, tryE_nx, tryE_ex, fin_rt, fin_nx, fin_ex, finP_rt, finP_nx, op_addI, op_subI, cmp_lt, cmp_le, cmp_gt, cmp_ge, cmp_eqI, cmp_neI, cmp_eqB, cmp_neB, aug_add, ix_of, cmp_isN, cmp_isNotN, bi_lenL, bi_lenT, bi_listL, bi_listT, bi_tupL, bi_tupT, bi_sum, bi_int, bi_all, bi_any, items_L, items_T, dat_d, own_d, at0, at1, at2, al0, al1,  List.getD_cons_zero, List.getD_cons_succ, List.set_cons_zero, List.set_cons_succ, List.length_cons, List.length_nil, Option.map_some, Option.bind_some, Option.map_none, reduceIte, Nat.reduceLT, Nat.reduceAdd, wipeE, List.length_map, List.getElem?_cons_zero, List.getElem?_cons_succ, bind_dP, at0d, at1d, at2d, cut2d, ite_and, ite_or, ite_int, e1]

theorem sp_then {k : Nat} {a b : Dg} (ha : a.Ok) (hb : b.Ok) (hk : a.k = b.m) : rn (k + 3) i_then none [a.d, b.d] = .ok (.dat (a.then b).d) [] := by
  rw [st_then, b_then]
  have := ha.n1; have := hb.n1; have := ha.m0; have := hb.k0; have := ha.k0
  have e := stk_eqv (m := a.m) (k := a.k) (p := b.k) (R := a.r) (S := b.r)
  have pc := part_comp (R := a.r) (S := b.r) ha.m0 ha.k0 hb.k0
  have pe := comp_eqv (R := a.r) (S := b.r) (p := b.k) ha.k0 ha.m0
  have hlen : (a.pcs b).length ≤ 300 := by have := blocks_len e; unfold Dg.pcs; have := ha.m1; have := hb.k1; have := ha.k1; omega
  simp -implicitDefEqProofs only [evO_some, bnd_ok, bnd_ex, lift_some, liftC_dat, liftC_own, fl_ok, fl_ex, then_nx, then_rt, then_ex, data_dat, data_own, data_ex, truth_ok, truth_ex, readC_dat, readC_own, peekC_dat, peekC_own, ev_var, ev_lit, ev_gc, ev_fnm, ev_bin, ev_not, ev_and, ev_or, ev_cmp, ev_chn, ev_ite, ev_tup, ev_lst, ev_idx, ev_vix, ev_vln, ev_vcl, ev_vcr, ev_slc, ev_rev, ev_app, ev_appP, ev_bi, ev_mn, ev_rgl, ev_rgt, ev_isi, ev_mth, ev_neg, evs_nil, evs_cons, evo_non, evo_som, evc_non, evc_som, evi_seq, evi_rng, callR_dat, callR_own, callR_ex, callA_eq, callP_own, callRp_ok, callRp_ex, putP_own, xss_nil, xss_cons, xs_set, stC_ok, bindS_some, xs_asg, xs_tpar, bind_nm, bind_tp, binds_nil, binds_cons, ownC_some, ownQ_own, ownAt_eq, xs_sti, xs_aug, xs_apd, xs_xtd, xs_exp, xs_iff, xs_for, xs_whl, xs_ret, xs_rse, xs_pas, xs_try, tryE_rt, tryE_nx, tryE_ex, fin_rt, fin_nx, fin_ex, finP_rt, finP_nx, op_addI, op_subI, cmp_lt, cmp_le, cmp_gt, cmp_ge, cmp_eqI, cmp_neI, cmp_eqB, cmp_neB, aug_add, ix_of, cmp_isN, cmp_isNotN, bi_lenL, bi_lenT, bi_listL, bi_listT, bi_tupL, bi_tupT, bi_sum, bi_int, bi_all, bi_any, items_L, items_T, dat_d, own_d, at0, at1, at2, al0, al1,  List.getD_cons_zero, List.getD_cons_succ, List.set_cons_zero, List.set_cons_succ, List.length_cons, List.length_nil, Option.map_some, Option.bind_some, Option.map_none, reduceIte, Nat.reduceLT, Nat.reduceAdd, wipeE, List.length_map, List.getElem?_cons_zero, List.getElem?_cons_succ, bind_dP, at0d, at1d, at2d, cut2d, ite_and, ite_or, ite_int, sp_stacked ha hb hk]
  refine for_fin (enc := dI) (xs := a.pcs b) (fun pre e => ∃ c d, e = [.dat a.d, .dat b.d, .dat (.int a.m), .dat (.int a.k), .dat (.int b.k), .own false (((pre.map (part a.m a.k)).filter fun b => decide (b ≠ [])).map dI), c, d, .no]) ⟨_, _, rfl⟩ (fun pre x post hx e he => ?_) fun e he => ?_
  · obtain ⟨c, d, rfl⟩ := he
    have hx' : x ∈ a.pcs b := by rw [hx]; simp
    have hl : x.length ≤ 300 := by have := block_len e hx'; have := ha.m1; have := hb.k1; have := ha.k1; omega
    have e3 : ((pre ++ [x]).map (part a.m a.k)).filter (fun b => decide (b ≠ [])) = (pre.map (part a.m a.k)).filter (fun b => decide (b ≠ [])) ++ (if part a.m a.k x ≠ [] then [part a.m a.k x] else []) := by
      rw [List.map_append, List.filter_append]
      congr 1
      by_cases q : part a.m a.k x ≠ [] <;> simp [q]
    rw [forB_some (bind_nm (by simp))]
    simp -implicitDefEqProofs only [evO_some, bnd_ok, bnd_ex, lift_some, liftC_dat, liftC_own, fl_ok, fl_ex, then_nx, then_rt, then_ex, data_dat, data_own, data_ex, truth_ok, truth_ex, readC_dat, readC_own, peekC_dat, peekC_own, ev_var, ev_lit, ev_gc, ev_fnm, ev_bin, ev_not, ev_and, ev_or, ev_cmp, ev_chn, ev_ite, ev_tup, ev_lst, ev_idx, ev_vix, ev_vln, ev_vcl, ev_vcr, ev_slc, ev_rev, ev_app, ev_appP, ev_bi, ev_mn, ev_rgl, ev_rgt, ev_isi, ev_mth, ev_neg, evs_nil, evs_cons, evo_non, evo_som, evc_non, evc_som, evi_seq, evi_rng, callR_dat, callR_own, callR_ex, callA_eq, callP_own, callRp_ok, callRp_ex, putP_own, xss_nil, xss_cons, xs_set, stC_ok, bindS_some, xs_asg, xs_tpar, bind_nm, bind_tp, binds_nil, binds_cons, ownC_some, ownQ_own, ownAt_eq, xs_sti, xs_aug, xs_apd, xs_xtd, xs_exp, xs_iff, xs_for, xs_whl, xs_ret, xs_rse, xs_pas, xs_try, tryE_rt, tryE_nx, tryE_ex, fin_rt, fin_nx, fin_ex, finP_rt, finP_nx, op_addI, op_subI, cmp_lt, cmp_le, cmp_gt, cmp_ge, cmp_eqI, cmp_neI, cmp_eqB, cmp_neB, aug_add, ix_of, cmp_isN, cmp_isNotN, bi_lenL, bi_lenT, bi_listL, bi_listT, bi_tupL, bi_tupT, bi_sum, bi_int, bi_all, bi_any, items_L, items_T, dat_d, own_d, at0, at1, at2, al0, al1,  List.getD_cons_zero, List.getD_cons_succ, List.set_cons_zero, List.set_cons_succ, List.length_cons, List.length_nil, Option.map_some, Option.bind_some, Option.map_none, reduceIte, Nat.reduceLT, Nat.reduceAdd, wipeE, List.length_map, List.getElem?_cons_zero, List.getElem?_cons_succ, bind_dP, at0d, at1d, at2d, cut2d, ite_and, ite_or, ite_int]
    rw [ev_filterS x .int (fun y => y < a.m) .int ?h1 fun y hy => ?h2]
    case h1 => simp -implicitDefEqProofs only [evO_some, bnd_ok, bnd_ex, lift_some, liftC_dat, liftC_own, fl_ok, fl_ex, then_nx, then_rt, then_ex, data_dat, data_own, data_ex, truth_ok, truth_ex, readC_dat, readC_own, peekC_dat, peekC_own, ev_var, ev_lit, ev_gc, ev_fnm, ev_bin, ev_not, ev_and, ev_or, ev_cmp, ev_chn, ev_ite, ev_tup, ev_lst, ev_idx, ev_vix, ev_vln, ev_vcl, ev_vcr, ev_slc, ev_rev, ev_app, ev_appP, ev_bi, ev_mn, ev_rgl, ev_rgt, ev_isi, ev_mth, ev_neg, evs_nil, evs_cons, evo_non, evo_som, evc_non, evc_som, evi_seq, evi_rng, callR_dat, callR_own, callR_ex, callA_eq, callP_own, callRp_ok, callRp_ex, putP_own, xss_nil, xss_cons, xs_set, stC_ok, bindS_some, xs_asg, xs_tpar, bind_nm, bind_tp, binds_nil, binds_cons, ownC_some, ownQ_own, ownAt_eq, xs_sti, xs_aug, xs_apd, xs_xtd, xs_exp, xs_iff, xs_for, xs_whl, xs_ret, xs_rse, xs_pas, xs_try, tryE_rt, tryE_nx, tryE_ex, fin_rt, fin_nx, fin_ex, finP_rt, finP_nx, op_addI, op_subI, cmp_lt, cmp_le, cmp_gt, cmp_ge, cmp_eqI, cmp_neI, cmp_eqB, cmp_neB, aug_add, ix_of, cmp_isN, cmp_isNotN, bi_lenL, bi_lenT, bi_listL, bi_listT, bi_tupL, bi_tupT, bi_sum, bi_int, bi_all, bi_any, items_L, items_T, dat_d, own_d, at0, at1, at2, al0, al1,  List.getD_cons_zero, List.getD_cons_succ, List.set_cons_zero, List.set_cons_succ, List.length_cons, List.length_nil, Option.map_some, Option.bind_some, Option.map_none, reduceIte, Nat.reduceLT, Nat.reduceAdd, wipeE, List.length_map, List.getElem?_cons_zero, List.getElem?_cons_succ, bind_dP, at0d, at1d, at2d, cut2d, ite_and, ite_or, ite_int]
    case h2 => exact ⟨_, by simp -implicitDefEqProofs only [evO_some, bnd_ok, bnd_ex, lift_some, liftC_dat, liftC_own, fl_ok, fl_ex, then_nx, then_rt, then_ex, data_dat, data_own, data_ex, truth_ok, truth_ex, readC_dat, readC_own, peekC_dat, peekC_own, ev_var, ev_lit, ev_gc, ev_fnm, ev_bin, ev_not, ev_and, ev_or, ev_cmp, ev_chn, ev_ite, ev_tup, ev_lst, ev_idx, ev_vix, ev_vln, ev_vcl, ev_vcr, ev_slc, ev_rev, ev_app, ev_appP, ev_bi, ev_mn, ev_rgl, ev_rgt, ev_isi, ev_mth, ev_neg, evs_nil, evs_cons, evo_non, evo_som, evc_non, evc_som, evi_seq, evi_rng, callR_dat, callR_own, callR_ex, callA_eq, callP_own, callRp_ok, callRp_ex, putP_own, xss_nil, xss_cons, xs_set, stC_ok, bindS_some, xs_asg, xs_tpar, bind_nm, bind_tp, binds_nil, binds_cons, ownC_some, ownQ_own, ownAt_eq, xs_sti, xs_aug, xs_apd, xs_xtd, xs_exp, xs_iff, xs_for, xs_whl, xs_ret, xs_rse, xs_pas, xs_try, tryE_rt, tryE_nx, tryE_ex, fin_rt, fin_nx, fin_ex, finP_rt, finP_nx, op_addI, op_subI, cmp_lt, cmp_le, cmp_gt, cmp_ge, cmp_eqI, cmp_neI, cmp_eqB, cmp_neB, aug_add, ix_of, cmp_isN, cmp_isNotN, bi_lenL, bi_lenT, bi_listL, bi_listT, bi_tupL, bi_tupT, bi_sum, bi_int, bi_all, bi_any, items_L, items_T, dat_d, own_d, at0, at1, at2, al0, al1,  List.getD_cons_zero, List.getD_cons_succ, List.set_cons_zero, List.set_cons_succ, List.length_cons, List.length_nil, Option.map_some, Option.bind_some, Option.map_none, reduceIte, Nat.reduceLT, Nat.reduceAdd, wipeE, List.length_map, List.getElem?_cons_zero, List.getElem?_cons_succ, bind_dP, at0d, at1d, at2d, cut2d, ite_and, ite_or, ite_int]; rfl, by simp -implicitDefEqProofs only [evO_some, bnd_ok, bnd_ex, lift_some, liftC_dat, liftC_own, fl_ok, fl_ex, then_nx, then_rt, then_ex, data_dat, data_own, data_ex, truth_ok, truth_ex, readC_dat, readC_own, peekC_dat, peekC_own, ev_var, ev_lit, ev_gc, ev_fnm, ev_bin, ev_not, ev_and, ev_or, ev_cmp, ev_chn, ev_ite, ev_tup, ev_lst, ev_idx, ev_vix, ev_vln, ev_vcl, ev_vcr, ev_slc, ev_rev, ev_app, ev_appP, ev_bi, ev_mn, ev_rgl, ev_rgt, ev_isi, ev_mth, ev_neg, evs_nil, evs_cons, evo_non, evo_som, evc_non, evc_som, evi_seq, evi_rng, callR_dat, callR_own, callR_ex, callA_eq, callP_own, callRp_ok, callRp_ex, putP_own, xss_nil, xss_cons, xs_set, stC_ok, bindS_some, xs_asg, xs_tpar, bind_nm, bind_tp, binds_nil, binds_cons, ownC_some, ownQ_own, ownAt_eq, xs_sti, xs_aug, xs_apd, xs_xtd, xs_exp, xs_iff, xs_for, xs_whl, xs_ret, xs_rse, xs_pas, xs_try, tryE_rt, tryE_nx, tryE_ex, fin_rt, fin_nx, fin_ex, finP_rt, finP_nx, op_addI, op_subI, cmp_lt, cmp_le, cmp_gt, cmp_ge, cmp_eqI, cmp_neI, cmp_eqB, cmp_neB, aug_add, ix_of, cmp_isN, cmp_isNotN, bi_lenL, bi_lenT, bi_listL, bi_listT, bi_tupL, bi_tupT, bi_sum, bi_int, bi_all, bi_any, items_L, items_T, dat_d, own_d, at0, at1, at2, al0, al1,  List.getD_cons_zero, List.getD_cons_succ, List.set_cons_zero, List.set_cons_succ, List.length_cons, List.length_nil, Option.map_some, Option.bind_some, Option.map_none, reduceIte, Nat.reduceLT, Nat.reduceAdd, wipeE, List.length_map, List.getElem?_cons_zero, List.getElem?_cons_succ, bind_dP, at0d, at1d, at2d, cut2d, ite_and, ite_or, ite_int], fun _ => ⟨_, by simp -implicitDefEqProofs only [evO_some, bnd_ok, bnd_ex, lift_some, liftC_dat, liftC_own, fl_ok, fl_ex, then_nx, then_rt, then_ex, data_dat, data_own, data_ex, truth_ok, truth_ex, readC_dat, readC_own, peekC_dat, peekC_own, ev_var, ev_lit, ev_gc, ev_fnm, ev_bin, ev_not, ev_and, ev_or, ev_cmp, ev_chn, ev_ite, ev_tup, ev_lst, ev_idx, ev_vix, ev_vln, ev_vcl, ev_vcr, ev_slc, ev_rev, ev_app, ev_appP, ev_bi, ev_mn, ev_rgl, ev_rgt, ev_isi, ev_mth, ev_neg, evs_nil, evs_cons, evo_non, evo_som, evc_non, evc_som, evi_seq, evi_rng, callR_dat, callR_own, callR_ex, callA_eq, callP_own, callRp_ok, callRp_ex, putP_own, xss_nil, xss_cons, xs_set, stC_ok, bindS_some, xs_asg, xs_tpar, bind_nm, bind_tp, binds_nil, binds_cons, ownC_some, ownQ_own, ownAt_eq, xs_sti, xs_aug, xs_apd, xs_xtd, xs_exp, xs_iff, xs_for, xs_whl, xs_ret, xs_rse, xs_pas, xs_try, tryE_rt, tryE_nx, tryE_ex, fin_rt, fin_nx, fin_ex, finP_rt, finP_nx, op_addI, op_subI, cmp_lt, cmp_le, cmp_gt, cmp_ge, cmp_eqI, cmp_neI, cmp_eqB, cmp_neB, aug_add, ix_of, cmp_isN, cmp_isNotN, bi_lenL, bi_lenT, bi_listL, bi_listT, bi_tupL, bi_tupT, bi_sum, bi_int, bi_all, bi_any, items_L, items_T, dat_d, own_d, at0, at1, at2, al0, al1,  List.getD_cons_zero, List.getD_cons_succ, List.set_cons_zero, List.set_cons_succ, List.length_cons, List.length_nil, Option.map_some, Option.bind_some, Option.map_none, reduceIte, Nat.reduceLT, Nat.reduceAdd, wipeE, List.length_map, List.getElem?_cons_zero, List.getElem?_cons_succ, bind_dP, at0d, at1d, at2d, cut2d, ite_and, ite_or, ite_int]; rfl, by simp -implicitDefEqProofs only [evO_some, bnd_ok, bnd_ex, lift_some, liftC_dat, liftC_own, fl_ok, fl_ex, then_nx, then_rt, then_ex, data_dat, data_own, data_ex, truth_ok, truth_ex, readC_dat, readC_own, peekC_dat, peekC_own, ev_var, ev_lit, ev_gc, ev_fnm, ev_bin, ev_not, ev_and, ev_or, ev_cmp, ev_chn, ev_ite, ev_tup, ev_lst, ev_idx, ev_vix, ev_vln, ev_vcl, ev_vcr, ev_slc, ev_rev, ev_app, ev_appP, ev_bi, ev_mn, ev_rgl, ev_rgt, ev_isi, ev_mth, ev_neg, evs_nil, evs_cons, evo_non, evo_som, evc_non, evc_som, evi_seq, evi_rng, callR_dat, callR_own, callR_ex, callA_eq, callP_own, callRp_ok, callRp_ex, putP_own, xss_nil, xss_cons, xs_set, stC_ok, bindS_some, xs_asg, xs_tpar, bind_nm, bind_tp, binds_nil, binds_cons, ownC_some, ownQ_own, ownAt_eq, xs_sti, xs_aug, xs_apd, xs_xtd, xs_exp, xs_iff, xs_for, xs_whl, xs_ret, xs_rse, xs_pas, xs_try, tryE_rt, tryE_nx, tryE_ex, fin_rt, fin_nx, fin_ex, finP_rt, finP_nx, op_addI, op_subI, cmp_lt, cmp_le, cmp_gt, cmp_ge, cmp_eqI, cmp_neI, cmp_eqB, cmp_neB, aug_add, ix_of, cmp_isN, cmp_isNotN, bi_lenL, bi_lenT, bi_listL, bi_listT, bi_tupL, bi_tupT, bi_sum, bi_int, bi_all, bi_any, items_L, items_T, dat_d, own_d, at0, at1, at2, al0, al1,  List.getD_cons_zero, List.getD_cons_succ, List.set_cons_zero, List.set_cons_succ, List.length_cons, List.length_nil, Option.map_some, Option.bind_some, Option.map_none, reduceIte, Nat.reduceLT, Nat.reduceAdd, wipeE, List.length_map, List.getElem?_cons_zero, List.getElem?_cons_succ, bind_dP, at0d, at1d, at2d, cut2d, ite_and, ite_or, ite_int]⟩⟩
    simp -implicitDefEqProofs only [evO_some, bnd_ok, bnd_ex, lift_some, liftC_dat, liftC_own, fl_ok, fl_ex, then_nx, then_rt, then_ex, data_dat, data_own, data_ex, truth_ok, truth_ex, readC_dat, readC_own, peekC_dat, peekC_own, ev_var, ev_lit, ev_gc, ev_fnm, ev_bin, ev_not, ev_and, ev_or, ev_cmp, ev_chn, ev_ite, ev_tup, ev_lst, ev_idx, ev_vix, ev_vln, ev_vcl, ev_vcr, ev_slc, ev_rev, ev_app, ev_appP, ev_bi, ev_mn, ev_rgl, ev_rgt, ev_isi, ev_mth, ev_neg, evs_nil, evs_cons, evo_non, evo_som, evc_non, evc_som, evi_seq, evi_rng, callR_dat, callR_own, callR_ex, callA_eq, callP_own, callRp_ok, callRp_ex, putP_own, xss_nil, xss_cons, xs_set, stC_ok, bindS_some, xs_asg, xs_tpar, bind_nm, bind_tp, binds_nil, binds_cons, ownC_some, ownQ_own, ownAt_eq, xs_sti, xs_aug, xs_apd, xs_xtd, xs_exp, xs_iff, xs_for, xs_whl, xs_ret, xs_rse, xs_pas, xs_try, tryE_rt, tryE_nx, tryE_ex, fin_rt, fin_nx, fin_ex, finP_rt, finP_nx, op_addI, op_subI, cmp_lt, cmp_le, cmp_gt, cmp_ge, cmp_eqI, cmp_neI, cmp_eqB, cmp_neB, aug_add, ix_of, cmp_isN, cmp_isNotN, bi_lenL, bi_lenT, bi_listL, bi_listT, bi_tupL, bi_tupT, bi_sum, bi_int, bi_all, bi_any, items_L, items_T, dat_d, own_d, at0, at1, at2, al0, al1,  List.getD_cons_zero, List.getD_cons_succ, List.set_cons_zero, List.set_cons_succ, List.length_cons, List.length_nil, Option.map_some, Option.bind_some, Option.map_none, reduceIte, Nat.reduceLT, Nat.reduceAdd, wipeE, List.length_map, List.getElem?_cons_zero, List.getElem?_cons_succ, bind_dP, at0d, at1d, at2d, cut2d, ite_and, ite_or, ite_int]
    rw [ev_filterS x .int (fun y => a.m + a.k ≤ y) (fun y => .int (y - a.k)) ?h3 fun y hy => ?h4]
    case h3 => simp -implicitDefEqProofs only [evO_some, bnd_ok, bnd_ex, lift_some, liftC_dat, liftC_own, fl_ok, fl_ex, then_nx, then_rt, then_ex, data_dat, data_own, data_ex, truth_ok, truth_ex, readC_dat, readC_own, peekC_dat, peekC_own, ev_var, ev_lit, ev_gc, ev_fnm, ev_bin, ev_not, ev_and, ev_or, ev_cmp, ev_chn, ev_ite, ev_tup, ev_lst, ev_idx, ev_vix, ev_vln, ev_vcl, ev_vcr, ev_slc, ev_rev, ev_app, ev_appP, ev_bi, ev_mn, ev_rgl, ev_rgt, ev_isi, ev_mth, ev_neg, evs_nil, evs_cons, evo_non, evo_som, evc_non, evc_som, evi_seq, evi_rng, callR_dat, callR_own, callR_ex, callA_eq, callP_own, callRp_ok, callRp_ex, putP_own, xss_nil, xss_cons, xs_set, stC_ok, bindS_some, xs_asg, xs_tpar, bind_nm, bind_tp, binds_nil, binds_cons, ownC_some, ownQ_own, ownAt_eq, xs_sti, xs_aug, xs_apd, xs_xtd, xs_exp, xs_iff, xs_for, xs_whl, xs_ret, xs_rse, xs_pas, xs_try, tryE_rt, tryE_nx, tryE_ex, fin_rt, fin_nx, fin_ex, finP_rt, finP_nx, op_addI, op_subI, cmp_lt, cmp_le, cmp_gt, cmp_ge, cmp_eqI, cmp_neI, cmp_eqB, cmp_neB, aug_add, ix_of, cmp_isN, cmp_isNotN, bi_lenL, bi_lenT, bi_listL, bi_listT, bi_tupL, bi_tupT, bi_sum, bi_int, bi_all, bi_any, items_L, items_T, dat_d, own_d, at0, at1, at2, al0, al1,  List.getD_cons_zero, List.getD_cons_succ, List.set_cons_zero, List.set_cons_succ, List.length_cons, List.length_nil, Option.map_some, Option.bind_some, Option.map_none, reduceIte, Nat.reduceLT, Nat.reduceAdd, wipeE, List.length_map, List.getElem?_cons_zero, List.getElem?_cons_succ, bind_dP, at0d, at1d, at2d, cut2d, ite_and, ite_or, ite_int]
    case h4 => exact ⟨_, by simp -implicitDefEqProofs only [evO_some, bnd_ok, bnd_ex, lift_some, liftC_dat, liftC_own, fl_ok, fl_ex, then_nx, then_rt, then_ex, data_dat, data_own, data_ex, truth_ok, truth_ex, readC_dat, readC_own, peekC_dat, peekC_own, ev_var, ev_lit, ev_gc, ev_fnm, ev_bin, ev_not, ev_and, ev_or, ev_cmp, ev_chn, ev_ite, ev_tup, ev_lst, ev_idx, ev_vix, ev_vln, ev_vcl, ev_vcr, ev_slc, ev_rev, ev_app, ev_appP, ev_bi, ev_mn, ev_rgl, ev_rgt, ev_isi, ev_mth, ev_neg, evs_nil, evs_cons, evo_non, evo_som, evc_non, evc_som, evi_seq, evi_rng, callR_dat, callR_own, callR_ex, callA_eq, callP_own, callRp_ok, callRp_ex, putP_own, xss_nil, xss_cons, xs_set, stC_ok, bindS_some, xs_asg, xs_tpar, bind_nm, bind_tp, binds_nil, binds_cons, ownC_some, ownQ_own, ownAt_eq, xs_sti, xs_aug, xs_apd, xs_xtd, xs_exp, xs_iff, xs_for, xs_whl, xs_ret, xs_rse, xs_pas, xs_try, tryE_rt, tryE_nx, tryE_ex, fin_rt, fin_nx, fin_ex, finP_rt, finP_nx, op_addI, op_subI, cmp_lt, cmp_le, cmp_gt, cmp_ge, cmp_eqI, cmp_neI, cmp_eqB, cmp_neB, aug_add, ix_of, cmp_isN, cmp_isNotN, bi_lenL, bi_lenT, bi_listL, bi_listT, bi_tupL, bi_tupT, bi_sum, bi_int, bi_all, bi_any, items_L, items_T, dat_d, own_d, at0, at1, at2, al0, al1,  List.getD_cons_zero, List.getD_cons_succ, List.set_cons_zero, List.set_cons_succ, List.length_cons, List.length_nil, Option.map_some, Option.bind_some, Option.map_none, reduceIte, Nat.reduceLT, Nat.reduceAdd, wipeE, List.length_map, List.getElem?_cons_zero, List.getElem?_cons_succ, bind_dP, at0d, at1d, at2d, cut2d, ite_and, ite_or, ite_int]; rfl, by simp -implicitDefEqProofs only [evO_some, bnd_ok, bnd_ex, lift_some, liftC_dat, liftC_own, fl_ok, fl_ex, then_nx, then_rt, then_ex, data_dat, data_own, data_ex, truth_ok, truth_ex, readC_dat, readC_own, peekC_dat, peekC_own, ev_var, ev_lit, ev_gc, ev_fnm, ev_bin, ev_not, ev_and, ev_or, ev_cmp, ev_chn, ev_ite, ev_tup, ev_lst, ev_idx, ev_vix, ev_vln, ev_vcl, ev_vcr, ev_slc, ev_rev, ev_app, ev_appP, ev_bi, ev_mn, ev_rgl, ev_rgt, ev_isi, ev_mth, ev_neg, evs_nil, evs_cons, evo_non, evo_som, evc_non, evc_som, evi_seq, evi_rng, callR_dat, callR_own, callR_ex, callA_eq, callP_own, callRp_ok, callRp_ex, putP_own, xss_nil, xss_cons, xs_set, stC_ok, bindS_some, xs_asg, xs_tpar, bind_nm, bind_tp, binds_nil, binds_cons, ownC_some, ownQ_own, ownAt_eq, xs_sti, xs_aug, xs_apd, xs_xtd, xs_exp, xs_iff, xs_for, xs_whl, xs_ret, xs_rse, xs_pas, xs_try, tryE_rt, tryE_nx, tryE_ex, fin_rt, fin_nx, fin_ex, finP_rt, finP_nx, op_addI, op_subI, cmp_lt, cmp_le, cmp_gt, cmp_ge, cmp_eqI, cmp_neI, cmp_eqB, cmp_neB, aug_add, ix_of, cmp_isN, cmp_isNotN, bi_lenL, bi_lenT, bi_listL, bi_listT, bi_tupL, bi_tupT, bi_sum, bi_int, bi_all, bi_any, items_L, items_T, dat_d, own_d, at0, at1, at2, al0, al1,  List.getD_cons_zero, List.getD_cons_succ, List.set_cons_zero, List.set_cons_succ, List.length_cons, List.length_nil, Option.map_some, Option.bind_some, Option.map_none, reduceIte, Nat.reduceLT, Nat.reduceAdd, wipeE, List.length_map, List.getElem?_cons_zero, List.getElem?_cons_succ, bind_dP, at0d, at1d, at2d, cut2d, ite_and, ite_or, ite_int], fun _ => ⟨_, by simp -implicitDefEqProofs only [evO_some, bnd_ok, bnd_ex, lift_some, liftC_dat, liftC_own, fl_ok, fl_ex, then_nx, then_rt, then_ex, data_dat, data_own, data_ex, truth_ok, truth_ex, readC_dat, readC_own, peekC_dat, peekC_own, ev_var, ev_lit, ev_gc, ev_fnm, ev_bin, ev_not, ev_and, ev_or, ev_cmp, ev_chn, ev_ite, ev_tup, ev_lst, ev_idx, ev_vix, ev_vln, ev_vcl, ev_vcr, ev_slc, ev_rev, ev_app, ev_appP, ev_bi, ev_mn, ev_rgl, ev_rgt, ev_isi, ev_mth, ev_neg, evs_nil, evs_cons, evo_non, evo_som, evc_non, evc_som, evi_seq, evi_rng, callR_dat, callR_own, callR_ex, callA_eq, callP_own, callRp_ok, callRp_ex, putP_own, xss_nil, xss_cons, xs_set, stC_ok, bindS_some, xs_asg, xs_tpar, bind_nm, bind_tp, binds_nil, binds_cons, ownC_some, ownQ_own, ownAt_eq, xs_sti, xs_aug, xs_apd, xs_xtd, xs_exp, xs_iff, xs_for, xs_whl, xs_ret, xs_rse, xs_pas, xs_try, tryE_rt, tryE_nx, tryE_ex, fin_rt, fin_nx, fin_ex, finP_rt, finP_nx, op_addI, op_subI, cmp_lt, cmp_le, cmp_gt, cmp_ge, cmp_eqI, cmp_neI, cmp_eqB, cmp_neB, aug_add, ix_of, cmp_isN, cmp_isNotN, bi_lenL, bi_lenT, bi_listL, bi_listT, bi_tupL, bi_tupT, bi_sum, bi_int, bi_all, bi_any, items_L, items_T, dat_d, own_d, at0, at1, at2, al0, al1,  List.getD_cons_zero, List.getD_cons_succ, List.set_cons_zero, List.set_cons_succ, List.length_cons, List.length_nil, Option.map_some, Option.bind_some, Option.map_none, reduceIte, Nat.reduceLT, Nat.reduceAdd, wipeE, List.length_map, List.getElem?_cons_zero, List.getElem?_cons_succ, bind_dP, at0d, at1d, at2d, cut2d, ite_and, ite_or, ite_int]; rfl, by simp -implicitDefEqProofs only [evO_some, bnd_ok, bnd_ex, lift_some, liftC_dat, liftC_own, fl_ok, fl_ex, then_nx, then_rt, then_ex, data_dat, data_own, data_ex, truth_ok, truth_ex, readC_dat, readC_own, peekC_dat, peekC_own, ev_var, ev_lit, ev_gc, ev_fnm, ev_bin, ev_not, ev_and, ev_or, ev_cmp, ev_chn, ev_ite, ev_tup, ev_lst, ev_idx, ev_vix, ev_vln, ev_vcl, ev_vcr, ev_slc, ev_rev, ev_app, ev_appP, ev_bi, ev_mn, ev_rgl, ev_rgt, ev_isi, ev_mth, ev_neg, evs_nil, evs_cons, evo_non, evo_som, evc_non, evc_som, evi_seq, evi_rng, callR_dat, callR_own, callR_ex, callA_eq, callP_own, callRp_ok, callRp_ex, putP_own, xss_nil, xss_cons, xs_set, stC_ok, bindS_some, xs_asg, xs_tpar, bind_nm, bind_tp, binds_nil, binds_cons, ownC_some, ownQ_own, ownAt_eq, xs_sti, xs_aug, xs_apd, xs_xtd, xs_exp, xs_iff, xs_for, xs_whl, xs_ret, xs_rse, xs_pas, xs_try, tryE_rt, tryE_nx, tryE_ex, fin_rt, fin_nx, fin_ex, finP_rt, finP_nx, op_addI, op_subI, cmp_lt, cmp_le, cmp_gt, cmp_ge, cmp_eqI, cmp_neI, cmp_eqB, cmp_neB, aug_add, ix_of, cmp_isN, cmp_isNotN, bi_lenL, bi_lenT, bi_listL, bi_listT, bi_tupL, bi_tupT, bi_sum, bi_int, bi_all, bi_any, items_L, items_T, dat_d, own_d, at0, at1, at2, al0, al1,  List.getD_cons_zero, List.getD_cons_succ, List.set_cons_zero, List.set_cons_succ, List.length_cons, List.length_nil, Option.map_some, Option.bind_some, Option.map_none, reduceIte, Nat.reduceLT, Nat.reduceAdd, wipeE, List.length_map, List.getElem?_cons_zero, List.getElem?_cons_succ, bind_dP, at0d, at1d, at2d, cut2d, ite_and, ite_or, ite_int]⟩⟩
    have ep : (x.filter fun y => decide (y < a.m)).map Z.D.int ++ (x.filter fun y => decide (a.m + a.k ≤ y)).map (fun y => Z.D.int (y - a.k)) = (part a.m a.k x).map .int := by
      unfold part
      rw [List.map_append, List.map_map]
      rfl
    have f1 := List.length_filter_le (fun y => decide (y < a.m)) x
    have f2 := List.length_filter_le (fun y => decide (a.m + a.k ≤ y)) x
    have g1 : opD .Add (.tup ((x.filter fun y => decide (y < a.m)).map Z.D.int)) (.tup ((x.filter fun y => decide (a.m + a.k ≤ y)).map fun y => Z.D.int (y - a.k))) = some (.dat (dI (part a.m a.k x))) := by
      rw [op_addT (by rw [List.length_map, List.length_map]; omega), ep]
    simp -implicitDefEqProofs only [evO_some, bnd_ok, bnd_ex, lift_some, liftC_dat, liftC_own, fl_ok, fl_ex, then_nx, then_rt, then_ex, data_dat, data_own, data_ex, truth_ok, truth_ex, readC_dat, readC_own, peekC_dat, peekC_own, ev_var, ev_lit, ev_gc, ev_fnm, ev_bin, ev_not, ev_and, ev_or, ev_cmp, ev_chn, ev_ite, ev_tup, ev_lst, ev_idx, ev_vix, ev_vln, ev_vcl, ev_vcr, ev_slc, ev_rev, ev_app, ev_appP, ev_bi, ev_mn, ev_rgl, ev_rgt, ev_isi, ev_mth, ev_neg, evs_nil, evs_cons, evo_non, evo_som, evc_non, evc_som, evi_seq, evi_rng, callR_dat, callR_own, callR_ex, callA_eq, callP_own, callRp_ok, callRp_ex, putP_own, xss_nil, xss_cons, xs_set, stC_ok, bindS_some, xs_asg, xs_tpar, bind_nm, bind_tp, binds_nil, binds_cons, ownC_some, ownQ_own, ownAt_eq, xs_sti, xs_aug, xs_apd, xs_xtd, xs_exp, xs_iff, xs_for, xs_whl, xs_ret, xs_rse, xs_pas, xs_try, tryE_rt, tryE_nx, tryE_ex, fin_rt, fin_nx, fin_ex, finP_rt, finP_nx, op_addI, op_subI, cmp_lt, cmp_le, cmp_gt, cmp_ge, cmp_eqI, cmp_neI, cmp_eqB, cmp_neB, aug_add, ix_of, cmp_isN, cmp_isNotN, bi_lenL, bi_lenT, bi_listL, bi_listT, bi_tupL, bi_tupT, bi_sum, bi_int, bi_all, bi_any, items_L, items_T, dat_d, own_d, at0, at1, at2, al0, al1,  List.getD_cons_zero, List.getD_cons_succ, List.set_cons_zero, List.set_cons_succ, List.length_cons, List.length_nil, Option.map_some, Option.bind_some, Option.map_none, reduceIte, Nat.reduceLT, Nat.reduceAdd, wipeE, List.length_map, List.getElem?_cons_zero, List.getElem?_cons_succ, bind_dP, at0d, at1d, at2d, cut2d, ite_and, ite_or, ite_int, g1]
    by_cases q : part a.m a.k x = []
    · have q2 : decide ((0 : Int) < ((part a.m a.k x).length : Int)) = false := by rw [q]; rfl
      simp -implicitDefEqProofs only [evO_some, bnd_ok, bnd_ex, lift_some, liftC_dat, liftC_own, fl_ok, fl_ex, then_nx, then_rt, then_ex, data_dat, data_own, data_ex, truth_ok, truth_ex, readC_dat, readC_own, peekC_dat, peekC_own, ev_var, ev_lit, ev_gc, ev_fnm, ev_bin, ev_not, ev_and, ev_or, ev_cmp, ev_chn, ev_ite, ev_tup, ev_lst, ev_idx, ev_vix, ev_vln, ev_vcl, ev_vcr, ev_slc, ev_rev, ev_app, ev_appP, ev_bi, ev_mn, ev_rgl, ev_rgt, ev_isi, ev_mth, ev_neg, evs_nil, evs_cons, evo_non, evo_som, evc_non, evc_som, evi_seq, evi_rng, callR_dat, callR_own, callR_ex, callA_eq, callP_own, callRp_ok, callRp_ex, putP_own, xss_nil, xss_cons, xs_set, stC_ok, bindS_some, xs_asg, xs_tpar, bind_nm, bind_tp, binds_nil, binds_cons, ownC_some, ownQ_own, ownAt_eq, xs_sti, xs_aug, xs_apd, xs_xtd, xs_exp, xs_iff, xs_for, xs_whl, xs_ret, xs_rse, xs_pas, xs_try, tryE_rt, tryE_nx, tryE_ex, fin_rt, fin_nx, fin_ex, finP_rt, finP_nx, op_addI, op_subI, cmp_lt, cmp_le, cmp_gt, cmp_ge, cmp_eqI, cmp_neI, cmp_eqB, cmp_neB, aug_add, ix_of, cmp_isN, cmp_isNotN, bi_lenL, bi_lenT, bi_listL, bi_listT, bi_tupL, bi_tupT, bi_sum, bi_int, bi_all, bi_any, items_L, items_T, dat_d, own_d, at0, at1, at2, al0, al1,  List.getD_cons_zero, List.getD_cons_succ, List.set_cons_zero, List.set_cons_succ, List.length_cons, List.length_nil, Option.map_some, Option.bind_some, Option.map_none, reduceIte, Nat.reduceLT, Nat.reduceAdd, wipeE, List.length_map, List.getElem?_cons_zero, List.getElem?_cons_succ, bind_dP, at0d, at1d, at2d, cut2d, ite_and, ite_or, ite_int, q2, Bool.false_eq_true]
      exact ⟨_, rfl, _, _, by rw [e3, if_neg (by simpa using q), List.append_nil]⟩
    · have q2 : decide ((0 : Int) < ((part a.m a.k x).length : Int)) = true := by have := List.length_pos_iff.mpr q; simp; omega
      simp -implicitDefEqProofs only [evO_some, bnd_ok, bnd_ex, lift_some, liftC_dat, liftC_own, fl_ok, fl_ex, then_nx, then_rt, then_ex, data_dat, data_own, data_ex, truth_ok, truth_ex, readC_dat, readC_own, peekC_dat, peekC_own, ev_var, ev_lit, ev_gc, ev_fnm, ev_bin, ev_not, ev_and, ev_or, ev_cmp, ev_chn, ev_ite, ev_tup, ev_lst, ev_idx, ev_vix, ev_vln, ev_vcl, ev_vcr, ev_slc, ev_rev, ev_app, ev_appP, ev_bi, ev_mn, ev_rgl, ev_rgt, ev_isi, ev_mth, ev_neg, evs_nil, evs_cons, evo_non, evo_som, evc_non, evc_som, evi_seq, evi_rng, callR_dat, callR_own, callR_ex, callA_eq, callP_own, callRp_ok, callRp_ex, putP_own, xss_nil, xss_cons, xs_set, stC_ok, bindS_some, xs_asg, xs_tpar, bind_nm, bind_tp, binds_nil, binds_cons, ownC_some, ownQ_own, ownAt_eq, xs_sti, xs_aug, xs_apd, xs_xtd, xs_exp, xs_iff, xs_for, xs_whl, xs_ret, xs_rse, xs_pas, xs_try, tryE_rt, tryE_nx, tryE_ex, fin_rt, fin_nx, fin_ex, finP_rt, finP_nx, op_addI, op_subI, cmp_lt, cmp_le, cmp_gt, cmp_ge, cmp_eqI, cmp_neI, cmp_eqB, cmp_neB, aug_add, ix_of, cmp_isN, cmp_isNotN, bi_lenL, bi_lenT, bi_listL, bi_listT, bi_tupL, bi_tupT, bi_sum, bi_int, bi_all, bi_any, items_L, items_T, dat_d, own_d, at0, at1, at2, al0, al1,  List.getD_cons_zero, List.getD_cons_succ, List.set_cons_zero, List.set_cons_succ, List.length_cons, List.length_nil, Option.map_some, Option.bind_some, Option.map_none, reduceIte, Nat.reduceLT, Nat.reduceAdd, wipeE, List.length_map, List.getElem?_cons_zero, List.getElem?_cons_succ, bind_dP, at0d, at1d, at2d, cut2d, ite_and, ite_or, ite_int, q2]
      rw [ownC_some (ds' := (((pre ++ [x]).map (part a.m a.k)).filter (fun b => decide (b ≠ []))).map dI) (by
        have f3 := List.length_filter_le (fun b => decide (b ≠ [])) (pre.map (part a.m a.k))
        have f4 : pre.length ≤ (a.pcs b).length := by rw [hx]; simp
        rw [List.length_map] at f3
        rw [if_pos (by simp only [List.length_map]; unfold LIM; omega), e3, if_pos q, List.map_append]
        rfl)]
      simp -implicitDefEqProofs only [evO_some, bnd_ok, bnd_ex, lift_some, liftC_dat, liftC_own, fl_ok, fl_ex, then_nx, then_rt, then_ex, data_dat, data_own, data_ex, truth_ok, truth_ex, readC_dat, readC_own, peekC_dat, peekC_own, ev_var, ev_lit, ev_gc, ev_fnm, ev_bin, ev_not, ev_and, ev_or, ev_cmp, ev_chn, ev_ite, ev_tup, ev_lst, ev_idx, ev_vix, ev_vln, ev_vcl, ev_vcr, ev_slc, ev_rev, ev_app, ev_appP, ev_bi, ev_mn, ev_rgl, ev_rgt, ev_isi, ev_mth, ev_neg, evs_nil, evs_cons, evo_non, evo_som, evc_non, evc_som, evi_seq, evi_rng, callR_dat, callR_own, callR_ex, callA_eq, callP_own, callRp_ok, callRp_ex, putP_own, xss_nil, xss_cons, xs_set, stC_ok, bindS_some, xs_asg, xs_tpar, bind_nm, bind_tp, binds_nil, binds_cons, ownC_some, ownQ_own, ownAt_eq, xs_sti, xs_aug, xs_apd, xs_xtd, xs_exp, xs_iff, xs_for, xs_whl, xs_ret, xs_rse, xs_pas, xs_try, tryE_rt, tryE_nx, tryE_ex, fin_rt, fin_nx, fin_ex, finP_rt, finP_nx, op_addI, op_subI, cmp_lt, cmp_le, cmp_gt, cmp_ge, cmp_eqI, cmp_neI, cmp_eqB, cmp_neB, aug_add, ix_of, cmp_isN, cmp_isNotN, bi_lenL, bi_lenT, bi_listL, bi_listT, bi_tupL, bi_tupT, bi_sum, bi_int, bi_all, bi_any, items_L, items_T, dat_d, own_d, at0, at1, at2, al0, al1,  List.getD_cons_zero, List.getD_cons_succ, List.set_cons_zero, List.set_cons_succ, List.length_cons, List.length_nil, Option.map_some, Option.bind_some, Option.map_none, reduceIte, Nat.reduceLT, Nat.reduceAdd, wipeE, List.length_map, List.getElem?_cons_zero, List.getElem?_cons_succ, bind_dP, at0d, at1d, at2d, cut2d, ite_and, ite_or, ite_int]
      exact ⟨_, rfl, _, _, rfl⟩
  · obtain ⟨c, d, rfl⟩ := he
    simp -implicitDefEqProofs only [evO_some, bnd_ok, bnd_ex, lift_some, liftC_dat, liftC_own, fl_ok, fl_ex, then_nx, then_rt, then_ex, data_dat, data_own, data_ex, truth_ok, truth_ex, readC_dat, readC_own, peekC_dat, peekC_own, ev_var, ev_lit, ev_gc, ev_fnm, ev_bin, ev_not, ev_and, ev_or, ev_cmp, ev_chn, ev_ite, ev_tup, ev_lst, ev_idx, ev_vix, ev_vln, ev_vcl, ev_vcr, ev_slc, ev_rev, ev_app, ev_appP, ev_bi, ev_mn, ev_rgl, ev_rgt, ev_isi, ev_mth, ev_neg, evs_nil, evs_cons, evo_non, evo_som, evc_non, evc_som, evi_seq, evi_rng, callR_dat, callR_own, callR_ex, callA_eq, callP_own, callRp_ok, callRp_ex, putP_own, xss_nil, xss_cons, xs_set, stC_ok, bindS_some, xs_asg, xs_tpar, bind_nm, bind_tp, binds_nil, binds_cons, ownC_some, ownQ_own, ownAt_eq, xs_sti, xs_aug, xs_apd, xs_xtd, xs_exp, xs_iff, xs_for, xs_whl, xs_ret, xs_rse, xs_pas, xs_try, tryE_rt, tryE_nx, tryE_ex, fin_rt, fin_nx, fin_ex, finP_rt, finP_nx, op_addI, op_subI, cmp_lt, cmp_le, cmp_gt, cmp_ge, cmp_eqI, cmp_neI, cmp_eqB, cmp_neB, aug_add, ix_of, cmp_isN, cmp_isNotN, bi_lenL, bi_lenT, bi_listL, bi_listT, bi_tupL, bi_tupT, bi_sum, bi_int, bi_all, bi_any, items_L, items_T, dat_d, own_d, at0, at1, at2, al0, al1,  List.getD_cons_zero, List.getD_cons_succ, List.set_cons_zero, List.set_cons_succ, List.length_cons, List.length_nil, Option.map_some, Option.bind_some, Option.map_none, reduceIte, Nat.reduceLT, Nat.reduceAdd, wipeE, List.length_map, List.getElem?_cons_zero, List.getElem?_cons_succ, bind_dP, at0d, at1d, at2d, cut2d, ite_and, ite_or, ite_int]
    rw [show (List.filter (fun b => decide (b ≠ [])) (List.map (part a.m a.k) (a.pcs b))) = keptOf a.m a.k b.k a.r b.r from rfl, bi_sortL (pc.sortable pe (by have := ha.m1; have := hb.k1; omega)) (pc.sort pe)]
    simp -implicitDefEqProofs only [evO_some, bnd_ok, bnd_ex, lift_some, liftC_dat, liftC_own, fl_ok, fl_ex, then_nx, then_rt, then_ex, data_dat, data_own, data_ex, truth_ok, truth_ex, readC_dat, readC_own, peekC_dat, peekC_own, ev_var, ev_lit, ev_gc, ev_fnm, ev_bin, ev_not, ev_and, ev_or, ev_cmp, ev_chn, ev_ite, ev_tup, ev_lst, ev_idx, ev_vix, ev_vln, ev_vcl, ev_vcr, ev_slc, ev_rev, ev_app, ev_appP, ev_bi, ev_mn, ev_rgl, ev_rgt, ev_isi, ev_mth, ev_neg, evs_nil, evs_cons, evo_non, evo_som, evc_non, evc_som, evi_seq, evi_rng, callR_dat, callR_own, callR_ex, callA_eq, callP_own, callRp_ok, callRp_ex, putP_own, xss_nil, xss_cons, xs_set, stC_ok, bindS_some, xs_asg, xs_tpar, bind_nm, bind_tp, binds_nil, binds_cons, ownC_some, ownQ_own, ownAt_eq, xs_sti, xs_aug, xs_apd, xs_xtd, xs_exp, xs_iff, xs_for, xs_whl, xs_ret, xs_rse, xs_pas, xs_try, tryE_rt, tryE_nx, tryE_ex, fin_rt, fin_nx, fin_ex, finP_rt, finP_nx, op_addI, op_subI, cmp_lt, cmp_le, cmp_gt, cmp_ge, cmp_eqI, cmp_neI, cmp_eqB, cmp_neB, aug_add, ix_of, cmp_isN, cmp_isNotN, bi_lenL, bi_lenT, bi_listL, bi_listT, bi_tupL, bi_tupT, bi_sum, bi_int, bi_all, bi_any, items_L, items_T, dat_d, own_d, at0, at1, at2, al0, al1,  List.getD_cons_zero, List.getD_cons_succ, List.set_cons_zero, List.set_cons_succ, List.length_cons, List.length_nil, Option.map_some, Option.bind_some, Option.map_none, reduceIte, Nat.reduceLT, Nat.reduceAdd, wipeE, List.length_map, List.getElem?_cons_zero, List.getElem?_cons_succ, bind_dP, at0d, at1d, at2d, cut2d, ite_and, ite_or, ite_int]
    rfl
theorem ux_then {k : Nat} {a b : Dg} (hk : a.k ≠ b.m) : rn (k + 3) i_then none [a.d, b.d] = .ex x_Unfit [] := by
  rw [st_then, b_then]
  simp -implicitDefEqProofs only [evO_some, bnd_ok, bnd_ex, lift_some, liftC_dat, liftC_own, fl_ok, fl_ex, then_nx, then_rt, then_ex, data_dat, data_own, data_ex, truth_ok, truth_ex, readC_dat, readC_own, peekC_dat, peekC_own, ev_var, ev_lit, ev_gc, ev_fnm, ev_bin, ev_not, ev_and, ev_or, ev_cmp, ev_chn, ev_ite, ev_tup, ev_lst, ev_idx, ev_vix, ev_vln, ev_vcl, ev_vcr, ev_slc, ev_rev, ev_app, ev_appP, ev_bi, ev_mn, ev_rgl, ev_rgt, ev_isi, ev_mth, ev_neg, evs_nil, evs_cons, evo_non, evo_som, evc_non, evc_som, evi_seq, evi_rng, callR_dat, callR_own, callR_ex, callA_eq, callP_own, callRp_ok, callRp_ex, putP_own, xss_nil, xss_cons, xs_set, stC_ok, bindS_some, xs_asg, xs_tpar, bind_nm, bind_tp, binds_nil, binds_cons, ownC_some, ownQ_own, ownAt_eq, xs_sti, xs_aug, xs_apd, xs_xtd, xs_exp, xs_iff, xs_for, xs_whl, xs_ret, xs_rse, xs_pas, xs_try, tryE_rt, tryE_nx, tryE_ex, fin_rt, fin_nx, fin_ex, finP_rt, finP_nx, op_addI, op_subI, cmp_lt, cmp_le, cmp_gt, cmp_ge, cmp_eqI, cmp_neI, cmp_eqB, cmp_neB, aug_add, ix_of, cmp_isN, cmp_isNotN, bi_lenL, bi_lenT, bi_listL, bi_listT, bi_tupL, bi_tupT, bi_sum, bi_int, bi_all, bi_any, items_L, items_T, dat_d, own_d, at0, at1, at2, al0, al1,  List.getD_cons_zero, List.getD_cons_succ, List.set_cons_zero, List.set_cons_succ, List.length_cons, List.length_nil, Option.map_some, Option.bind_some, Option.map_none, reduceIte, Nat.reduceLT, Nat.reduceAdd, wipeE, List.length_map, List.getElem?_cons_zero, List.getElem?_cons_succ, bind_dP, at0d, at1d, at2d, cut2d, ite_and, ite_or, ite_int, ux_stacked hk]

theorem sp_lost {k : Nat} {a b : Dg} (ha : a.Ok) (hb : b.Ok) (hk : a.k = b.m) : rn (k + 3) i_lost none [a.d, b.d] = .ok (.dat (.int (a.lost b))) [] := by
  rw [st_lost, b_lost]
  have e := stk_eqv (m := a.m) (k := a.k) (p := b.k) (R := a.r) (S := b.r)
  simp -implicitDefEqProofs only [evO_some, bnd_ok, bnd_ex, lift_some, liftC_dat, liftC_own, fl_ok, fl_ex, then_nx, then_rt, then_ex, data_dat, data_own, data_ex, truth_ok, truth_ex, readC_dat, readC_own, peekC_dat, peekC_own, ev_var, ev_lit, ev_gc, ev_fnm, ev_bin, ev_not, ev_and, ev_or, ev_cmp, ev_chn, ev_ite, ev_tup, ev_lst, ev_idx, ev_vix, ev_vln, ev_vcl, ev_vcr, ev_slc, ev_rev, ev_app, ev_appP, ev_bi, ev_mn, ev_rgl, ev_rgt, ev_isi, ev_mth, ev_neg, evs_nil, evs_cons, evo_non, evo_som, evc_non, evc_som, evi_seq, evi_rng, callR_dat, callR_own, callR_ex, callA_eq, callP_own, callRp_ok, callRp_ex, putP_own, xss_nil, xss_cons, xs_set, stC_ok, bindS_some, xs_asg, xs_tpar, bind_nm, bind_tp, binds_nil, binds_cons, ownC_some, ownQ_own, ownAt_eq, xs_sti, xs_aug, xs_apd, xs_xtd, xs_exp, xs_iff, xs_for, xs_whl, xs_ret, xs_rse, xs_pas, xs_try, tryE_rt, tryE_nx, tryE_ex, fin_rt, fin_nx, fin_ex, finP_rt, finP_nx, op_addI, op_subI, cmp_lt, cmp_le, cmp_gt, cmp_ge, cmp_eqI, cmp_neI, cmp_eqB, cmp_neB, aug_add, ix_of, cmp_isN, cmp_isNotN, bi_lenL, bi_lenT, bi_listL, bi_listT, bi_tupL, bi_tupT, bi_sum, bi_int, bi_all, bi_any, items_L, items_T, dat_d, own_d, at0, at1, at2, al0, al1,  List.getD_cons_zero, List.getD_cons_succ, List.set_cons_zero, List.set_cons_succ, List.length_cons, List.length_nil, Option.map_some, Option.bind_some, Option.map_none, reduceIte, Nat.reduceLT, Nat.reduceAdd, wipeE, List.length_map, List.getElem?_cons_zero, List.getElem?_cons_succ, bind_dP, at0d, at1d, at2d, cut2d, ite_and, ite_or, ite_int]
  rw [ev_filterS (a.pcs b) dI (fun y => part a.m a.k y = []) dI ?h1 fun y hy => ?h2]
  case h1 => simp -implicitDefEqProofs only [evO_some, bnd_ok, bnd_ex, lift_some, liftC_dat, liftC_own, fl_ok, fl_ex, then_nx, then_rt, then_ex, data_dat, data_own, data_ex, truth_ok, truth_ex, readC_dat, readC_own, peekC_dat, peekC_own, ev_var, ev_lit, ev_gc, ev_fnm, ev_bin, ev_not, ev_and, ev_or, ev_cmp, ev_chn, ev_ite, ev_tup, ev_lst, ev_idx, ev_vix, ev_vln, ev_vcl, ev_vcr, ev_slc, ev_rev, ev_app, ev_appP, ev_bi, ev_mn, ev_rgl, ev_rgt, ev_isi, ev_mth, ev_neg, evs_nil, evs_cons, evo_non, evo_som, evc_non, evc_som, evi_seq, evi_rng, callR_dat, callR_own, callR_ex, callA_eq, callP_own, callRp_ok, callRp_ex, putP_own, xss_nil, xss_cons, xs_set, stC_ok, bindS_some, xs_asg, xs_tpar, bind_nm, bind_tp, binds_nil, binds_cons, ownC_some, ownQ_own, ownAt_eq, xs_sti, xs_aug, xs_apd, xs_xtd, xs_exp, xs_iff, xs_for, xs_whl, xs_ret, xs_rse, xs_pas, xs_try, tryE_rt, tryE_nx, tryE_ex, fin_rt, fin_nx, fin_ex, finP_rt, finP_nx, op_addI, op_subI, cmp_lt, cmp_le, cmp_gt, cmp_ge, cmp_eqI, cmp_neI, cmp_eqB, cmp_neB, aug_add, ix_of, cmp_isN, cmp_isNotN, bi_lenL, bi_lenT, bi_listL, bi_listT, bi_tupL, bi_tupT, bi_sum, bi_int, bi_all, bi_any, items_L, items_T, dat_d, own_d, at0, at1, at2, al0, al1,  List.getD_cons_zero, List.getD_cons_succ, List.set_cons_zero, List.set_cons_succ, List.length_cons, List.length_nil, Option.map_some, Option.bind_some, Option.map_none, reduceIte, Nat.reduceLT, Nat.reduceAdd, wipeE, List.length_map, List.getElem?_cons_zero, List.getElem?_cons_succ, bind_dP, at0d, at1d, at2d, cut2d, ite_and, ite_or, ite_int, sp_stacked ha hb hk]
  case h2 =>
    have g1 := at_hd (block_ne e hy)
    have g2 := at_ls (block_ne e hy)
    have g3 : (decide (a.m ≤ hd y) && decide (ls y < a.m + a.k)) = decide (part a.m a.k y = []) := by
      rw [← Bool.decide_and]
      exact decide_eq_decide.mpr (part_ends (block_asc e hy) (block_ne e hy)).symm
    exact ⟨_, by simp -implicitDefEqProofs only [evO_some, bnd_ok, bnd_ex, lift_some, liftC_dat, liftC_own, fl_ok, fl_ex, then_nx, then_rt, then_ex, data_dat, data_own, data_ex, truth_ok, truth_ex, readC_dat, readC_own, peekC_dat, peekC_own, ev_var, ev_lit, ev_gc, ev_fnm, ev_bin, ev_not, ev_and, ev_or, ev_cmp, ev_chn, ev_ite, ev_tup, ev_lst, ev_idx, ev_vix, ev_vln, ev_vcl, ev_vcr, ev_slc, ev_rev, ev_app, ev_appP, ev_bi, ev_mn, ev_rgl, ev_rgt, ev_isi, ev_mth, ev_neg, evs_nil, evs_cons, evo_non, evo_som, evc_non, evc_som, evi_seq, evi_rng, callR_dat, callR_own, callR_ex, callA_eq, callP_own, callRp_ok, callRp_ex, putP_own, xss_nil, xss_cons, xs_set, stC_ok, bindS_some, xs_asg, xs_tpar, bind_nm, bind_tp, binds_nil, binds_cons, ownC_some, ownQ_own, ownAt_eq, xs_sti, xs_aug, xs_apd, xs_xtd, xs_exp, xs_iff, xs_for, xs_whl, xs_ret, xs_rse, xs_pas, xs_try, tryE_rt, tryE_nx, tryE_ex, fin_rt, fin_nx, fin_ex, finP_rt, finP_nx, op_addI, op_subI, cmp_lt, cmp_le, cmp_gt, cmp_ge, cmp_eqI, cmp_neI, cmp_eqB, cmp_neB, aug_add, ix_of, cmp_isN, cmp_isNotN, bi_lenL, bi_lenT, bi_listL, bi_listT, bi_tupL, bi_tupT, bi_sum, bi_int, bi_all, bi_any, items_L, items_T, dat_d, own_d, at0, at1, at2, al0, al1,  List.getD_cons_zero, List.getD_cons_succ, List.set_cons_zero, List.set_cons_succ, List.length_cons, List.length_nil, Option.map_some, Option.bind_some, Option.map_none, reduceIte, Nat.reduceLT, Nat.reduceAdd, wipeE, List.length_map, List.getElem?_cons_zero, List.getElem?_cons_succ, bind_dP, at0d, at1d, at2d, cut2d, ite_and, ite_or, ite_int, g1, g2, g3]; rfl, by simp -implicitDefEqProofs only [evO_some, bnd_ok, bnd_ex, lift_some, liftC_dat, liftC_own, fl_ok, fl_ex, then_nx, then_rt, then_ex, data_dat, data_own, data_ex, truth_ok, truth_ex, readC_dat, readC_own, peekC_dat, peekC_own, ev_var, ev_lit, ev_gc, ev_fnm, ev_bin, ev_not, ev_and, ev_or, ev_cmp, ev_chn, ev_ite, ev_tup, ev_lst, ev_idx, ev_vix, ev_vln, ev_vcl, ev_vcr, ev_slc, ev_rev, ev_app, ev_appP, ev_bi, ev_mn, ev_rgl, ev_rgt, ev_isi, ev_mth, ev_neg, evs_nil, evs_cons, evo_non, evo_som, evc_non, evc_som, evi_seq, evi_rng, callR_dat, callR_own, callR_ex, callA_eq, callP_own, callRp_ok, callRp_ex, putP_own, xss_nil, xss_cons, xs_set, stC_ok, bindS_some, xs_asg, xs_tpar, bind_nm, bind_tp, binds_nil, binds_cons, ownC_some, ownQ_own, ownAt_eq, xs_sti, xs_aug, xs_apd, xs_xtd, xs_exp, xs_iff, xs_for, xs_whl, xs_ret, xs_rse, xs_pas, xs_try, tryE_rt, tryE_nx, tryE_ex, fin_rt, fin_nx, fin_ex, finP_rt, finP_nx, op_addI, op_subI, cmp_lt, cmp_le, cmp_gt, cmp_ge, cmp_eqI, cmp_neI, cmp_eqB, cmp_neB, aug_add, ix_of, cmp_isN, cmp_isNotN, bi_lenL, bi_lenT, bi_listL, bi_listT, bi_tupL, bi_tupT, bi_sum, bi_int, bi_all, bi_any, items_L, items_T, dat_d, own_d, at0, at1, at2, al0, al1,  List.getD_cons_zero, List.getD_cons_succ, List.set_cons_zero, List.set_cons_succ, List.length_cons, List.length_nil, Option.map_some, Option.bind_some, Option.map_none, reduceIte, Nat.reduceLT, Nat.reduceAdd, wipeE, List.length_map, List.getElem?_cons_zero, List.getElem?_cons_succ, bind_dP, at0d, at1d, at2d, cut2d, ite_and, ite_or, ite_int], fun _ => ⟨_, by simp -implicitDefEqProofs only [evO_some, bnd_ok, bnd_ex, lift_some, liftC_dat, liftC_own, fl_ok, fl_ex, then_nx, then_rt, then_ex, data_dat, data_own, data_ex, truth_ok, truth_ex, readC_dat, readC_own, peekC_dat, peekC_own, ev_var, ev_lit, ev_gc, ev_fnm, ev_bin, ev_not, ev_and, ev_or, ev_cmp, ev_chn, ev_ite, ev_tup, ev_lst, ev_idx, ev_vix, ev_vln, ev_vcl, ev_vcr, ev_slc, ev_rev, ev_app, ev_appP, ev_bi, ev_mn, ev_rgl, ev_rgt, ev_isi, ev_mth, ev_neg, evs_nil, evs_cons, evo_non, evo_som, evc_non, evc_som, evi_seq, evi_rng, callR_dat, callR_own, callR_ex, callA_eq, callP_own, callRp_ok, callRp_ex, putP_own, xss_nil, xss_cons, xs_set, stC_ok, bindS_some, xs_asg, xs_tpar, bind_nm, bind_tp, binds_nil, binds_cons, ownC_some, ownQ_own, ownAt_eq, xs_sti, xs_aug, xs_apd, xs_xtd, xs_exp, xs_iff, xs_for, xs_whl, xs_ret, xs_rse, xs_pas, xs_try, tryE_rt, tryE_nx, tryE_ex, fin_rt, fin_nx, fin_ex, finP_rt, finP_nx, op_addI, op_subI, cmp_lt, cmp_le, cmp_gt, cmp_ge, cmp_eqI, cmp_neI, cmp_eqB, cmp_neB, aug_add, ix_of, cmp_isN, cmp_isNotN, bi_lenL, bi_lenT, bi_listL, bi_listT, bi_tupL, bi_tupT, bi_sum, bi_int, bi_all, bi_any, items_L, items_T, dat_d, own_d, at0, at1, at2, al0, al1,  List.getD_cons_zero, List.getD_cons_succ, List.set_cons_zero, List.set_cons_succ, List.length_cons, List.length_nil, Option.map_some, Option.bind_some, Option.map_none, reduceIte, Nat.reduceLT, Nat.reduceAdd, wipeE, List.length_map, List.getElem?_cons_zero, List.getElem?_cons_succ, bind_dP, at0d, at1d, at2d, cut2d, ite_and, ite_or, ite_int]; rfl, by simp -implicitDefEqProofs only [evO_some, bnd_ok, bnd_ex, lift_some, liftC_dat, liftC_own, fl_ok, fl_ex, then_nx, then_rt, then_ex, data_dat, data_own, data_ex, truth_ok, truth_ex, readC_dat, readC_own, peekC_dat, peekC_own, ev_var, ev_lit, ev_gc, ev_fnm, ev_bin, ev_not, ev_and, ev_or, ev_cmp, ev_chn, ev_ite, ev_tup, ev_lst, ev_idx, ev_vix, ev_vln, ev_vcl, ev_vcr, ev_slc, ev_rev, ev_app, ev_appP, ev_bi, ev_mn, ev_rgl, ev_rgt, ev_isi, ev_mth, ev_neg, evs_nil, evs_cons, evo_non, evo_som, evc_non, evc_som, evi_seq, evi_rng, callR_dat, callR_own, callR_ex, callA_eq, callP_own, callRp_ok, callRp_ex, putP_own, xss_nil, xss_cons, xs_set, stC_ok, bindS_some, xs_asg, xs_tpar, bind_nm, bind_tp, binds_nil, binds_cons, ownC_some, ownQ_own, ownAt_eq, xs_sti, xs_aug, xs_apd, xs_xtd, xs_exp, xs_iff, xs_for, xs_whl, xs_ret, xs_rse, xs_pas, xs_try, tryE_rt, tryE_nx, tryE_ex, fin_rt, fin_nx, fin_ex, finP_rt, finP_nx, op_addI, op_subI, cmp_lt, cmp_le, cmp_gt, cmp_ge, cmp_eqI, cmp_neI, cmp_eqB, cmp_neB, aug_add, ix_of, cmp_isN, cmp_isNotN, bi_lenL, bi_lenT, bi_listL, bi_listT, bi_tupL, bi_tupT, bi_sum, bi_int, bi_all, bi_any, items_L, items_T, dat_d, own_d, at0, at1, at2, al0, al1,  List.getD_cons_zero, List.getD_cons_succ, List.set_cons_zero, List.set_cons_succ, List.length_cons, List.length_nil, Option.map_some, Option.bind_some, Option.map_none, reduceIte, Nat.reduceLT, Nat.reduceAdd, wipeE, List.length_map, List.getElem?_cons_zero, List.getElem?_cons_succ, bind_dP, at0d, at1d, at2d, cut2d, ite_and, ite_or, ite_int]⟩⟩
  simp -implicitDefEqProofs only [evO_some, bnd_ok, bnd_ex, lift_some, liftC_dat, liftC_own, fl_ok, fl_ex, then_nx, then_rt, then_ex, data_dat, data_own, data_ex, truth_ok, truth_ex, readC_dat, readC_own, peekC_dat, peekC_own, ev_var, ev_lit, ev_gc, ev_fnm, ev_bin, ev_not, ev_and, ev_or, ev_cmp, ev_chn, ev_ite, ev_tup, ev_lst, ev_idx, ev_vix, ev_vln, ev_vcl, ev_vcr, ev_slc, ev_rev, ev_app, ev_appP, ev_bi, ev_mn, ev_rgl, ev_rgt, ev_isi, ev_mth, ev_neg, evs_nil, evs_cons, evo_non, evo_som, evc_non, evc_som, evi_seq, evi_rng, callR_dat, callR_own, callR_ex, callA_eq, callP_own, callRp_ok, callRp_ex, putP_own, xss_nil, xss_cons, xs_set, stC_ok, bindS_some, xs_asg, xs_tpar, bind_nm, bind_tp, binds_nil, binds_cons, ownC_some, ownQ_own, ownAt_eq, xs_sti, xs_aug, xs_apd, xs_xtd, xs_exp, xs_iff, xs_for, xs_whl, xs_ret, xs_rse, xs_pas, xs_try, tryE_rt, tryE_nx, tryE_ex, fin_rt, fin_nx, fin_ex, finP_rt, finP_nx, op_addI, op_subI, cmp_lt, cmp_le, cmp_gt, cmp_ge, cmp_eqI, cmp_neI, cmp_eqB, cmp_neB, aug_add, ix_of, cmp_isN, cmp_isNotN, bi_lenL, bi_lenT, bi_listL, bi_listT, bi_tupL, bi_tupT, bi_sum, bi_int, bi_all, bi_any, items_L, items_T, dat_d, own_d, at0, at1, at2, al0, al1,  List.getD_cons_zero, List.getD_cons_succ, List.set_cons_zero, List.set_cons_succ, List.length_cons, List.length_nil, Option.map_some, Option.bind_some, Option.map_none, reduceIte, Nat.reduceLT, Nat.reduceAdd, wipeE, List.length_map, List.getElem?_cons_zero, List.getElem?_cons_succ, bind_dP, at0d, at1d, at2d, cut2d, ite_and, ite_or, ite_int]
  rfl
theorem ux_lost {k : Nat} {a b : Dg} (hk : a.k ≠ b.m) : rn (k + 3) i_lost none [a.d, b.d] = .ex x_Unfit [] := by
  rw [st_lost, b_lost]
  simp -implicitDefEqProofs only [evO_some, bnd_ok, bnd_ex, lift_some, liftC_dat, liftC_own, fl_ok, fl_ex, then_nx, then_rt, then_ex, data_dat, data_own, data_ex, truth_ok, truth_ex, readC_dat, readC_own, peekC_dat, peekC_own, ev_var, ev_lit, ev_gc, ev_fnm, ev_bin, ev_not, ev_and, ev_or, ev_cmp, ev_chn, ev_ite, ev_tup, ev_lst, ev_idx, ev_vix, ev_vln, ev_vcl, ev_vcr, ev_slc, ev_rev, ev_app, ev_appP, ev_bi, ev_mn, ev_rgl, ev_rgt, ev_isi, ev_mth, ev_neg, evs_nil, evs_cons, evo_non, evo_som, evc_non, evc_som, evi_seq, evi_rng, callR_dat, callR_own, callR_ex, callA_eq, callP_own, callRp_ok, callRp_ex, putP_own, xss_nil, xss_cons, xs_set, stC_ok, bindS_some, xs_asg, xs_tpar, bind_nm, bind_tp, binds_nil, binds_cons, ownC_some, ownQ_own, ownAt_eq, xs_sti, xs_aug, xs_apd, xs_xtd, xs_exp, xs_iff, xs_for, xs_whl, xs_ret, xs_rse, xs_pas, xs_try, tryE_rt, tryE_nx, tryE_ex, fin_rt, fin_nx, fin_ex, finP_rt, finP_nx, op_addI, op_subI, cmp_lt, cmp_le, cmp_gt, cmp_ge, cmp_eqI, cmp_neI, cmp_eqB, cmp_neB, aug_add, ix_of, cmp_isN, cmp_isNotN, bi_lenL, bi_lenT, bi_listL, bi_listT, bi_tupL, bi_tupT, bi_sum, bi_int, bi_all, bi_any, items_L, items_T, dat_d, own_d, at0, at1, at2, al0, al1,  List.getD_cons_zero, List.getD_cons_succ, List.set_cons_zero, List.set_cons_succ, List.length_cons, List.length_nil, Option.map_some, Option.bind_some, Option.map_none, reduceIte, Nat.reduceLT, Nat.reduceAdd, wipeE, List.length_map, List.getElem?_cons_zero, List.getElem?_cons_succ, bind_dP, at0d, at1d, at2d, cut2d, ite_and, ite_or, ite_int]
  rw [ev]
  simp -implicitDefEqProofs only [evO_some, bnd_ok, bnd_ex, lift_some, liftC_dat, liftC_own, fl_ok, fl_ex, then_nx, then_rt, then_ex, data_dat, data_own, data_ex, truth_ok, truth_ex, readC_dat, readC_own, peekC_dat, peekC_own, ev_var, ev_lit, ev_gc, ev_fnm, ev_bin, ev_not, ev_and, ev_or, ev_cmp, ev_chn, ev_ite, ev_tup, ev_lst, ev_idx, ev_vix, ev_vln, ev_vcl, ev_vcr, ev_slc, ev_rev, ev_app, ev_appP, ev_bi, ev_mn, ev_rgl, ev_rgt, ev_isi, ev_mth, ev_neg, evs_nil, evs_cons, evo_non, evo_som, evc_non, evc_som, evi_seq, evi_rng, callR_dat, callR_own, callR_ex, callA_eq, callP_own, callRp_ok, callRp_ex, putP_own, xss_nil, xss_cons, xs_set, stC_ok, bindS_some, xs_asg, xs_tpar, bind_nm, bind_tp, binds_nil, binds_cons, ownC_some, ownQ_own, ownAt_eq, xs_sti, xs_aug, xs_apd, xs_xtd, xs_exp, xs_iff, xs_for, xs_whl, xs_ret, xs_rse, xs_pas, xs_try, tryE_rt, tryE_nx, tryE_ex, fin_rt, fin_nx, fin_ex, finP_rt, finP_nx, op_addI, op_subI, cmp_lt, cmp_le, cmp_gt, cmp_ge, cmp_eqI, cmp_neI, cmp_eqB, cmp_neB, aug_add, ix_of, cmp_isN, cmp_isNotN, bi_lenL, bi_lenT, bi_listL, bi_listT, bi_tupL, bi_tupT, bi_sum, bi_int, bi_all, bi_any, items_L, items_T, dat_d, own_d, at0, at1, at2, al0, al1,  List.getD_cons_zero, List.getD_cons_succ, List.set_cons_zero, List.set_cons_succ, List.length_cons, List.length_nil, Option.map_some, Option.bind_some, Option.map_none, reduceIte, Nat.reduceLT, Nat.reduceAdd, wipeE, List.length_map, List.getElem?_cons_zero, List.getElem?_cons_succ, bind_dP, at0d, at1d, at2d, cut2d, ite_and, ite_or, ite_int, ux_stacked hk]

theorem chain_step {k : Nat} {n q : Int} {l : List Dg} {X : DD} (h0 : 0 ≤ n) (h1 : n ≤ 100) (h : Fits n l q) : ∀ pre x post, l = pre ++ x :: post → ∀ e, (∃ c, e = [.dat (.int n), .dat X, .dat (chain n pre).d, c]) → ∃ e', forB (rn (k + 3)) nm.gv (.nm 3) (.cons (.set 2 (.app i_then none (.cons (.var 2) (.cons (.var 3) .nil)))) .nil) x.d e = .nx e' ∧ ∃ c, e' = [.dat (.int n), .dat X, .dat (chain n (pre ++ [x])).d, c] := by
  intro pre x post hx e he
  obtain ⟨c, rfl⟩ := he
  rw [hx, fits_app] at h
  obtain ⟨p, g1, g2⟩ := h
  have ok := chain_ok h0 h1 g1
  rw [forB_some (bind_nm (by simp))]
  simp -implicitDefEqProofs only [evO_some, bnd_ok, bnd_ex, lift_some, liftC_dat, liftC_own, fl_ok, fl_ex, then_nx, then_rt, then_ex, data_dat, data_own, data_ex, truth_ok, truth_ex, readC_dat, readC_own, peekC_dat, peekC_own, ev_var, ev_lit, ev_gc, ev_fnm, ev_bin, ev_not, ev_and, ev_or, ev_cmp, ev_chn, ev_ite, ev_tup, ev_lst, ev_idx, ev_vix, ev_vln, ev_vcl, ev_vcr, ev_slc, ev_rev, ev_app, ev_appP, ev_bi, ev_mn, ev_rgl, ev_rgt, ev_isi, ev_mth, ev_neg, evs_nil, evs_cons, evo_non, evo_som, evc_non, evc_som, evi_seq, evi_rng, callR_dat, callR_own, callR_ex, callA_eq, callP_own, callRp_ok, callRp_ex, putP_own, xss_nil, xss_cons, xs_set, stC_ok, bindS_some, xs_asg, xs_tpar, bind_nm, bind_tp, binds_nil, binds_cons, ownC_some, ownQ_own, ownAt_eq, xs_sti, xs_aug, xs_apd, xs_xtd, xs_exp, xs_iff, xs_for, xs_whl, xs_ret, xs_rse, xs_pas, xs_try, tryE_rt, tryE_nx, tryE_ex, fin_rt, fin_nx, fin_ex, finP_rt, finP_nx, op_addI, op_subI, cmp_lt, cmp_le, cmp_gt, cmp_ge, cmp_eqI, cmp_neI, cmp_eqB, cmp_neB, aug_add, ix_of, cmp_isN, cmp_isNotN, bi_lenL, bi_lenT, bi_listL, bi_listT, bi_tupL, bi_tupT, bi_sum, bi_int, bi_all, bi_any, items_L, items_T, dat_d, own_d, at0, at1, at2, al0, al1,  List.getD_cons_zero, List.getD_cons_succ, List.set_cons_zero, List.set_cons_succ, List.length_cons, List.length_nil, Option.map_some, Option.bind_some, Option.map_none, reduceIte, Nat.reduceLT, Nat.reduceAdd, wipeE, List.length_map, List.getElem?_cons_zero, List.getElem?_cons_succ, bind_dP, at0d, at1d, at2d, cut2d, ite_and, ite_or, ite_int, sp_then ok.1 g2.1 (ok.2.2.trans g2.2.1.symm)]
  rw [chain_snoc]
  exact ⟨_, rfl, _, rfl⟩
theorem sp_chain {k : Nat} {n q : Int} {l : List Dg} {X : DD} (h0 : 0 ≤ n) (h1 : n ≤ 100) (h : Fits n l q) (hX : itemsOf X = some (l.map Dg.d)) : rn (k + 4) i_chain none [.int n, X] = .ok (.dat (chain n l).d) [] := by
  rw [st_chain, b_chain]
  simp -implicitDefEqProofs only [evO_some, bnd_ok, bnd_ex, lift_some, liftC_dat, liftC_own, fl_ok, fl_ex, then_nx, then_rt, then_ex, data_dat, data_own, data_ex, truth_ok, truth_ex, readC_dat, readC_own, peekC_dat, peekC_own, ev_var, ev_lit, ev_gc, ev_fnm, ev_bin, ev_not, ev_and, ev_or, ev_cmp, ev_chn, ev_ite, ev_tup, ev_lst, ev_idx, ev_vix, ev_vln, ev_vcl, ev_vcr, ev_slc, ev_rev, ev_app, ev_appP, ev_bi, ev_mn, ev_rgl, ev_rgt, ev_isi, ev_mth, ev_neg, evs_nil, evs_cons, evo_non, evo_som, evc_non, evc_som, evi_seq, evi_rng, callR_dat, callR_own, callR_ex, callA_eq, callP_own, callRp_ok, callRp_ex, putP_own, xss_nil, xss_cons, xs_set, stC_ok, bindS_some, xs_asg, xs_tpar, bind_nm, bind_tp, binds_nil, binds_cons, ownC_some, ownQ_own, ownAt_eq, xs_sti, xs_aug, xs_apd, xs_xtd, xs_exp, xs_iff, xs_for, xs_whl, xs_ret, xs_rse, xs_pas, xs_try, tryE_rt, tryE_nx, tryE_ex, fin_rt, fin_nx, fin_ex, finP_rt, finP_nx, op_addI, op_subI, cmp_lt, cmp_le, cmp_gt, cmp_ge, cmp_eqI, cmp_neI, cmp_eqB, cmp_neB, aug_add, ix_of, cmp_isN, cmp_isNotN, bi_lenL, bi_lenT, bi_listL, bi_listT, bi_tupL, bi_tupT, bi_sum, bi_int, bi_all, bi_any, items_L, items_T, dat_d, own_d, at0, at1, at2, al0, al1,  List.getD_cons_zero, List.getD_cons_succ, List.set_cons_zero, List.set_cons_succ, List.length_cons, List.length_nil, Option.map_some, Option.bind_some, Option.map_none, reduceIte, Nat.reduceLT, Nat.reduceAdd, wipeE, List.length_map, List.getElem?_cons_zero, List.getElem?_cons_succ, bind_dP, at0d, at1d, at2d, cut2d, ite_and, ite_or, ite_int, sp_still h0 h1, hX]
  refine for_fin (enc := Dg.d) (xs := l) (fun pre e => ∃ c, e = [.dat (.int n), .dat X, .dat (chain n pre).d, c]) ⟨_, rfl⟩ (chain_step h0 h1 h) fun e he => ?_
  obtain ⟨c, rfl⟩ := he
  simp -implicitDefEqProofs only [evO_some, bnd_ok, bnd_ex, lift_some, liftC_dat, liftC_own, fl_ok, fl_ex, then_nx, then_rt, then_ex, data_dat, data_own, data_ex, truth_ok, truth_ex, readC_dat, readC_own, peekC_dat, peekC_own, ev_var, ev_lit, ev_gc, ev_fnm, ev_bin, ev_not, ev_and, ev_or, ev_cmp, ev_chn, ev_ite, ev_tup, ev_lst, ev_idx, ev_vix, ev_vln, ev_vcl, ev_vcr, ev_slc, ev_rev, ev_app, ev_appP, ev_bi, ev_mn, ev_rgl, ev_rgt, ev_isi, ev_mth, ev_neg, evs_nil, evs_cons, evo_non, evo_som, evc_non, evc_som, evi_seq, evi_rng, callR_dat, callR_own, callR_ex, callA_eq, callP_own, callRp_ok, callRp_ex, putP_own, xss_nil, xss_cons, xs_set, stC_ok, bindS_some, xs_asg, xs_tpar, bind_nm, bind_tp, binds_nil, binds_cons, ownC_some, ownQ_own, ownAt_eq, xs_sti, xs_aug, xs_apd, xs_xtd, xs_exp, xs_iff, xs_for, xs_whl, xs_ret, xs_rse, xs_pas, xs_try, tryE_rt, tryE_nx, tryE_ex, fin_rt, fin_nx, fin_ex, finP_rt, finP_nx, op_addI, op_subI, cmp_lt, cmp_le, cmp_gt, cmp_ge, cmp_eqI, cmp_neI, cmp_eqB, cmp_neB, aug_add, ix_of, cmp_isN, cmp_isNotN, bi_lenL, bi_lenT, bi_listL, bi_listT, bi_tupL, bi_tupT, bi_sum, bi_int, bi_all, bi_any, items_L, items_T, dat_d, own_d, at0, at1, at2, al0, al1,  List.getD_cons_zero, List.getD_cons_succ, List.set_cons_zero, List.set_cons_succ, List.length_cons, List.length_nil, Option.map_some, Option.bind_some, Option.map_none, reduceIte, Nat.reduceLT, Nat.reduceAdd, wipeE, List.length_map, List.getElem?_cons_zero, List.getElem?_cons_succ, bind_dP, at0d, at1d, at2d, cut2d, ite_and, ite_or, ite_int]
theorem ux_chain {k : Nat} {n q : Int} {l l' : List Dg} {b : Dg} {X : DD} (h0 : 0 ≤ n) (h1 : n ≤ 100) (h : Fits n l q) (hb : q ≠ b.m) (hX : itemsOf X = some ((l ++ b :: l').map Dg.d)) : rn (k + 4) i_chain none [.int n, X] = .ex x_Unfit [] := by
  rw [st_chain, b_chain]
  simp -implicitDefEqProofs only [evO_some, bnd_ok, bnd_ex, lift_some, liftC_dat, liftC_own, fl_ok, fl_ex, then_nx, then_rt, then_ex, data_dat, data_own, data_ex, truth_ok, truth_ex, readC_dat, readC_own, peekC_dat, peekC_own, ev_var, ev_lit, ev_gc, ev_fnm, ev_bin, ev_not, ev_and, ev_or, ev_cmp, ev_chn, ev_ite, ev_tup, ev_lst, ev_idx, ev_vix, ev_vln, ev_vcl, ev_vcr, ev_slc, ev_rev, ev_app, ev_appP, ev_bi, ev_mn, ev_rgl, ev_rgt, ev_isi, ev_mth, ev_neg, evs_nil, evs_cons, evo_non, evo_som, evc_non, evc_som, evi_seq, evi_rng, callR_dat, callR_own, callR_ex, callA_eq, callP_own, callRp_ok, callRp_ex, putP_own, xss_nil, xss_cons, xs_set, stC_ok, bindS_some, xs_asg, xs_tpar, bind_nm, bind_tp, binds_nil, binds_cons, ownC_some, ownQ_own, ownAt_eq, xs_sti, xs_aug, xs_apd, xs_xtd, xs_exp, xs_iff, xs_for, xs_whl, xs_ret, xs_rse, xs_pas, xs_try, tryE_rt, tryE_nx, tryE_ex, fin_rt, fin_nx, fin_ex, finP_rt, finP_nx, op_addI, op_subI, cmp_lt, cmp_le, cmp_gt, cmp_ge, cmp_eqI, cmp_neI, cmp_eqB, cmp_neB, aug_add, ix_of, cmp_isN, cmp_isNotN, bi_lenL, bi_lenT, bi_listL, bi_listT, bi_tupL, bi_tupT, bi_sum, bi_int, bi_all, bi_any, items_L, items_T, dat_d, own_d, at0, at1, at2, al0, al1,  List.getD_cons_zero, List.getD_cons_succ, List.set_cons_zero, List.set_cons_succ, List.length_cons, List.length_nil, Option.map_some, Option.bind_some, Option.map_none, reduceIte, Nat.reduceLT, Nat.reduceAdd, wipeE, List.length_map, List.getElem?_cons_zero, List.getElem?_cons_succ, bind_dP, at0d, at1d, at2d, cut2d, ite_and, ite_or, ite_int, sp_still h0 h1, hX]
  refine for_ex (enc := Dg.d) (xs := l) (zs := l') (fun pre e => ∃ c, e = [.dat (.int n), .dat X, .dat (chain n pre).d, c]) ⟨_, rfl⟩ (chain_step h0 h1 h) fun e he => ?_
  obtain ⟨c, rfl⟩ := he
  have ok := chain_ok h0 h1 h
  rw [forB_some (bind_nm (by simp))]
  simp -implicitDefEqProofs only [evO_some, bnd_ok, bnd_ex, lift_some, liftC_dat, liftC_own, fl_ok, fl_ex, then_nx, then_rt, then_ex, data_dat, data_own, data_ex, truth_ok, truth_ex, readC_dat, readC_own, peekC_dat, peekC_own, ev_var, ev_lit, ev_gc, ev_fnm, ev_bin, ev_not, ev_and, ev_or, ev_cmp, ev_chn, ev_ite, ev_tup, ev_lst, ev_idx, ev_vix, ev_vln, ev_vcl, ev_vcr, ev_slc, ev_rev, ev_app, ev_appP, ev_bi, ev_mn, ev_rgl, ev_rgt, ev_isi, ev_mth, ev_neg, evs_nil, evs_cons, evo_non, evo_som, evc_non, evc_som, evi_seq, evi_rng, callR_dat, callR_own, callR_ex, callA_eq, callP_own, callRp_ok, callRp_ex, putP_own, xss_nil, xss_cons, xs_set, stC_ok, bindS_some, xs_asg, xs_tpar, bind_nm, bind_tp, binds_nil, binds_cons, ownC_some, ownQ_own, ownAt_eq, xs_sti, xs_aug, xs_apd, xs_xtd, xs_exp, xs_iff, xs_for, xs_whl, xs_ret, xs_rse, xs_pas, xs_try, tryE_rt, tryE_nx, tryE_ex, fin_rt, fin_nx, fin_ex, finP_rt, finP_nx, op_addI, op_subI, cmp_lt, cmp_le, cmp_gt, cmp_ge, cmp_eqI, cmp_neI, cmp_eqB, cmp_neB, aug_add, ix_of, cmp_isN, cmp_isNotN, bi_lenL, bi_lenT, bi_listL, bi_listT, bi_tupL, bi_tupT, bi_sum, bi_int, bi_all, bi_any, items_L, items_T, dat_d, own_d, at0, at1, at2, al0, al1,  List.getD_cons_zero, List.getD_cons_succ, List.set_cons_zero, List.set_cons_succ, List.length_cons, List.length_nil, Option.map_some, Option.bind_some, Option.map_none, reduceIte, Nat.reduceLT, Nat.reduceAdd, wipeE, List.length_map, List.getElem?_cons_zero, List.getElem?_cons_succ, bind_dP, at0d, at1d, at2d, cut2d, ite_and, ite_or, ite_int, ux_then (a := chain n l) (b := b) (by rw [ok.2.2]; exact hb)]
  exact ⟨_, rfl⟩

theorem cl_step {k : Nat} {n q : Int} {l : List Dg} {X : DD} (h0 : 0 ≤ n) (h1 : n ≤ 100) (h : Fits n l q) : ∀ pre x post, l = pre ++ x :: post → ∀ e, (∃ c, e = [.dat (.int n), .dat X, .dat (chain n pre).d, .dat (.int (chainLost n pre)), c]) → ∃ e', forB (rn (k + 3)) nm.gv (.nm 4) (.cons (.aug 3 .Add (.app i_lost none (.cons (.var 2) (.cons (.var 4) .nil)))) <| .cons (.set 2 (.app i_then none (.cons (.var 2) (.cons (.var 4) .nil)))) .nil) x.d e = .nx e' ∧ ∃ c, e' = [.dat (.int n), .dat X, .dat (chain n (pre ++ [x])).d, .dat (.int (chainLost n (pre ++ [x]))), c] := by
  intro pre x post hx e he
  obtain ⟨c, rfl⟩ := he
  rw [hx, fits_app] at h
  obtain ⟨p, g1, g2⟩ := h
  have ok := chain_ok h0 h1 g1
  rw [forB_some (bind_nm (by simp))]
  simp -implicitDefEqProofs only [evO_some, bnd_ok, bnd_ex, lift_some, liftC_dat, liftC_own, fl_ok, fl_ex, then_nx, then_rt, then_ex, data_dat, data_own, data_ex, truth_ok, truth_ex, readC_dat, readC_own, peekC_dat, peekC_own, ev_var, ev_lit, ev_gc, ev_fnm, ev_bin, ev_not, ev_and, ev_or, ev_cmp, ev_chn, ev_ite, ev_tup, ev_lst, ev_idx, ev_vix, ev_vln, ev_vcl, ev_vcr, ev_slc, ev_rev, ev_app, ev_appP, ev_bi, ev_mn, ev_rgl, ev_rgt, ev_isi, ev_mth, ev_neg, evs_nil, evs_cons, evo_non, evo_som, evc_non, evc_som, evi_seq, evi_rng, callR_dat, callR_own, callR_ex, callA_eq, callP_own, callRp_ok, callRp_ex, putP_own, xss_nil, xss_cons, xs_set, stC_ok, bindS_some, xs_asg, xs_tpar, bind_nm, bind_tp, binds_nil, binds_cons, ownC_some, ownQ_own, ownAt_eq, xs_sti, xs_aug, xs_apd, xs_xtd, xs_exp, xs_iff, xs_for, xs_whl, xs_ret, xs_rse, xs_pas, xs_try, tryE_rt, tryE_nx, tryE_ex, fin_rt, fin_nx, fin_ex, finP_rt, finP_nx, op_addI, op_subI, cmp_lt, cmp_le, cmp_gt, cmp_ge, cmp_eqI, cmp_neI, cmp_eqB, cmp_neB, aug_add, ix_of, cmp_isN, cmp_isNotN, bi_lenL, bi_lenT, bi_listL, bi_listT, bi_tupL, bi_tupT, bi_sum, bi_int, bi_all, bi_any, items_L, items_T, dat_d, own_d, at0, at1, at2, al0, al1,  List.getD_cons_zero, List.getD_cons_succ, List.set_cons_zero, List.set_cons_succ, List.length_cons, List.length_nil, Option.map_some, Option.bind_some, Option.map_none, reduceIte, Nat.reduceLT, Nat.reduceAdd, wipeE, List.length_map, List.getElem?_cons_zero, List.getElem?_cons_succ, bind_dP, at0d, at1d, at2d, cut2d, ite_and, ite_or, ite_int, sp_then ok.1 g2.1 (ok.2.2.trans g2.2.1.symm), sp_lost ok.1 g2.1 (ok.2.2.trans g2.2.1.symm)]
  rw [chain_snoc, chainLost_snoc]
  exact ⟨_, rfl, _, rfl⟩
theorem sp_chain_lost {k : Nat} {n q : Int} {l : List Dg} {X : DD} (h0 : 0 ≤ n) (h1 : n ≤ 100) (h : Fits n l q) (hX : itemsOf X = some (l.map Dg.d)) : rn (k + 4) i_chain_lost none [.int n, X] = .ok (.dat (.int (chainLost n l))) [] := by
  rw [st_chain_lost, b_chain_lost]
  simp -implicitDefEqProofs only [evO_some, bnd_ok, bnd_ex, lift_some, liftC_dat, liftC_own, fl_ok, fl_ex, then_nx, then_rt, then_ex, data_dat, data_own, data_ex, truth_ok, truth_ex, readC_dat, readC_own, peekC_dat, peekC_own, ev_var, ev_lit, ev_gc, ev_fnm, ev_bin, ev_not, ev_and, ev_or, ev_cmp, ev_chn, ev_ite, ev_tup, ev_lst, ev_idx, ev_vix, ev_vln, ev_vcl, ev_vcr, ev_slc, ev_rev, ev_app, ev_appP, ev_bi, ev_mn, ev_rgl, ev_rgt, ev_isi, ev_mth, ev_neg, evs_nil, evs_cons, evo_non, evo_som, evc_non, evc_som, evi_seq, evi_rng, callR_dat, callR_own, callR_ex, callA_eq, callP_own, callRp_ok, callRp_ex, putP_own, xss_nil, xss_cons, xs_set, stC_ok, bindS_some, xs_asg, xs_tpar, bind_nm, bind_tp, binds_nil, binds_cons, ownC_some, ownQ_own, ownAt_eq, xs_sti, xs_aug, xs_apd, xs_xtd, xs_exp, xs_iff, xs_for, xs_whl, xs_ret, xs_rse, xs_pas, xs_try, tryE_rt, tryE_nx, tryE_ex, fin_rt, fin_nx, fin_ex, finP_rt, finP_nx, op_addI, op_subI, cmp_lt, cmp_le, cmp_gt, cmp_ge, cmp_eqI, cmp_neI, cmp_eqB, cmp_neB, aug_add, ix_of, cmp_isN, cmp_isNotN, bi_lenL, bi_lenT, bi_listL, bi_listT, bi_tupL, bi_tupT, bi_sum, bi_int, bi_all, bi_any, items_L, items_T, dat_d, own_d, at0, at1, at2, al0, al1,  List.getD_cons_zero, List.getD_cons_succ, List.set_cons_zero, List.set_cons_succ, List.length_cons, List.length_nil, Option.map_some, Option.bind_some, Option.map_none, reduceIte, Nat.reduceLT, Nat.reduceAdd, wipeE, List.length_map, List.getElem?_cons_zero, List.getElem?_cons_succ, bind_dP, at0d, at1d, at2d, cut2d, ite_and, ite_or, ite_int, sp_still h0 h1, hX]
  refine for_fin (enc := Dg.d) (xs := l) (fun pre e => ∃ c, e = [.dat (.int n), .dat X, .dat (chain n pre).d, .dat (.int (chainLost n pre)), c]) ⟨_, rfl⟩ (cl_step h0 h1 h) fun e he => ?_
  obtain ⟨c, rfl⟩ := he
  simp -implicitDefEqProofs only [evO_some, bnd_ok, bnd_ex, lift_some, liftC_dat, liftC_own, fl_ok, fl_ex, then_nx, then_rt, then_ex, data_dat, data_own, data_ex, truth_ok, truth_ex, readC_dat, readC_own, peekC_dat, peekC_own, ev_var, ev_lit, ev_gc, ev_fnm, ev_bin, ev_not, ev_and, ev_or, ev_cmp, ev_chn, ev_ite, ev_tup, ev_lst, ev_idx, ev_vix, ev_vln, ev_vcl, ev_vcr, ev_slc, ev_rev, ev_app, ev_appP, ev_bi, ev_mn, ev_rgl, ev_rgt, ev_isi, ev_mth, ev_neg, evs_nil, evs_cons, evo_non, evo_som, evc_non, evc_som, evi_seq, evi_rng, callR_dat, callR_own, callR_ex, callA_eq, callP_own, callRp_ok, callRp_ex, putP_own, xss_nil, xss_cons, xs_set, stC_ok, bindS_some, xs_asg, xs_tpar, bind_nm, bind_tp, binds_nil, binds_cons, ownC_some, ownQ_own, ownAt_eq, xs_sti, xs_aug, xs_apd, xs_xtd, xs_exp, xs_iff, xs_for, xs_whl, xs_ret, xs_rse, xs_pas, xs_try, tryE_rt, tryE_nx, tryE_ex, fin_rt, fin_nx, fin_ex, finP_rt, finP_nx, op_addI, op_subI, cmp_lt, cmp_le, cmp_gt, cmp_ge, cmp_eqI, cmp_neI, cmp_eqB, cmp_neB, aug_add, ix_of, cmp_isN, cmp_isNotN, bi_lenL, bi_lenT, bi_listL, bi_listT, bi_tupL, bi_tupT, bi_sum, bi_int, bi_all, bi_any, items_L, items_T, dat_d, own_d, at0, at1, at2, al0, al1,  List.getD_cons_zero, List.getD_cons_succ, List.set_cons_zero, List.set_cons_succ, List.length_cons, List.length_nil, Option.map_some, Option.bind_some, Option.map_none, reduceIte, Nat.reduceLT, Nat.reduceAdd, wipeE, List.length_map, List.getElem?_cons_zero, List.getElem?_cons_succ, bind_dP, at0d, at1d, at2d, cut2d, ite_and, ite_or, ite_int]
theorem ux_chain_lost {k : Nat} {n q : Int} {l l' : List Dg} {b : Dg} {X : DD} (h0 : 0 ≤ n) (h1 : n ≤ 100) (h : Fits n l q) (hb : q ≠ b.m) (hX : itemsOf X = some ((l ++ b :: l').map Dg.d)) : rn (k + 4) i_chain_lost none [.int n, X] = .ex x_Unfit [] := by
  rw [st_chain_lost, b_chain_lost]
  simp -implicitDefEqProofs only [evO_some, bnd_ok, bnd_ex, lift_some, liftC_dat, liftC_own, fl_ok, fl_ex, then_nx, then_rt, then_ex, data_dat, data_own, data_ex, truth_ok, truth_ex, readC_dat, readC_own, peekC_dat, peekC_own, ev_var, ev_lit, ev_gc, ev_fnm, ev_bin, ev_not, ev_and, ev_or, ev_cmp, ev_chn, ev_ite, ev_tup, ev_lst, ev_idx, ev_vix, ev_vln, ev_vcl, ev_vcr, ev_slc, ev_rev, ev_app, ev_appP, ev_bi, ev_mn, ev_rgl, ev_rgt, ev_isi, ev_mth, ev_neg, evs_nil, evs_cons, evo_non, evo_som, evc_non, evc_som, evi_seq, evi_rng, callR_dat, callR_own, callR_ex, callA_eq, callP_own, callRp_ok, callRp_ex, putP_own, xss_nil, xss_cons, xs_set, stC_ok, bindS_some, xs_asg, xs_tpar, bind_nm, bind_tp, binds_nil, binds_cons, ownC_some, ownQ_own, ownAt_eq, xs_sti, xs_aug, xs_apd, xs_xtd, xs_exp, xs_iff, xs_for, xs_whl, xs_ret, xs_rse, xs_pas, xs_try, tryE_rt, tryE_nx, tryE_ex, fin_rt, fin_nx, fin_ex, finP_rt, finP_nx, op_addI, op_subI, cmp_lt, cmp_le, cmp_gt, cmp_ge, cmp_eqI, cmp_neI, cmp_eqB, cmp_neB, aug_add, ix_of, cmp_isN, cmp_isNotN, bi_lenL, bi_lenT, bi_listL, bi_listT, bi_tupL, bi_tupT, bi_sum, bi_int, bi_all, bi_any, items_L, items_T, dat_d, own_d, at0, at1, at2, al0, al1,  List.getD_cons_zero, List.getD_cons_succ, List.set_cons_zero, List.set_cons_succ, List.length_cons, List.length_nil, Option.map_some, Option.bind_some, Option.map_none, reduceIte, Nat.reduceLT, Nat.reduceAdd, wipeE, List.length_map, List.getElem?_cons_zero, List.getElem?_cons_succ, bind_dP, at0d, at1d, at2d, cut2d, ite_and, ite_or, ite_int, sp_still h0 h1, hX]
  refine for_ex (enc := Dg.d) (xs := l) (zs := l') (fun pre e => ∃ c, e = [.dat (.int n), .dat X, .dat (chain n pre).d, .dat (.int (chainLost n pre)), c]) ⟨_, rfl⟩ (cl_step h0 h1 h) fun e he => ?_
  obtain ⟨c, rfl⟩ := he
  have ok := chain_ok h0 h1 h
  rw [forB_some (bind_nm (by simp))]
  simp -implicitDefEqProofs only [evO_some, bnd_ok, bnd_ex, lift_some, liftC_dat, liftC_own, fl_ok, fl_ex, then_nx, then_rt, then_ex, data_dat, data_own, data_ex, truth_ok, truth_ex, readC_dat, readC_own, peekC_dat, peekC_own, ev_var, ev_lit, ev_gc, ev_fnm, ev_bin, ev_not, ev_and, ev_or, ev_cmp, ev_chn, ev_ite, ev_tup, ev_lst, ev_idx, ev_vix, ev_vln, ev_vcl, ev_vcr, ev_slc, ev_rev, ev_app, ev_appP, ev_bi, ev_mn, ev_rgl, ev_rgt, ev_isi, ev_mth, ev_neg, evs_nil, evs_cons, evo_non, evo_som, evc_non, evc_som, evi_seq, evi_rng, callR_dat, callR_own, callR_ex, callA_eq, callP_own, callRp_ok, callRp_ex, putP_own, xss_nil, xss_cons, xs_set, stC_ok, bindS_some, xs_asg, xs_tpar, bind_nm, bind_tp, binds_nil, binds_cons, ownC_some, ownQ_own, ownAt_eq, xs_sti, xs_aug, xs_apd, xs_xtd, xs_exp, xs_iff, xs_for, xs_whl, xs_ret, xs_rse, xs_pas, xs_try, tryE_rt, tryE_nx, tryE_ex, fin_rt, fin_nx, fin_ex, finP_rt, finP_nx, op_addI, op_subI, cmp_lt, cmp_le, cmp_gt, cmp_ge, cmp_eqI, cmp_neI, cmp_eqB, cmp_neB, aug_add, ix_of, cmp_isN, cmp_isNotN, bi_lenL, bi_lenT, bi_listL, bi_listT, bi_tupL, bi_tupT, bi_sum, bi_int, bi_all, bi_any, items_L, items_T, dat_d, own_d, at0, at1, at2, al0, al1,  List.getD_cons_zero, List.getD_cons_succ, List.set_cons_zero, List.set_cons_succ, List.length_cons, List.length_nil, Option.map_some, Option.bind_some, Option.map_none, reduceIte, Nat.reduceLT, Nat.reduceAdd, wipeE, List.length_map, List.getElem?_cons_zero, List.getElem?_cons_succ, bind_dP, at0d, at1d, at2d, cut2d, ite_and, ite_or, ite_int, ux_lost (a := chain n l) (b := b) (by rw [ok.2.2]; exact hb)]
  exact ⟨_, rfl⟩

theorem sp_power {k : Nat} {a : Dg} {j : Nat} (ha : a.Ok) (hk : a.m = a.k) (hj : j ≤ 1000) : rn (k + 5) i_power none [a.d, .int j] = .ok (.dat (chain a.m (List.replicate j a)).d) [] := by
  rw [st_power, b_power]
  have e1 : (!decide (a.m = a.k)) = false := by simp [hk]
  have hf : ∀ j, Fits a.m (List.replicate j a) a.m := fun j => by
    induction j with
    | zero => rfl
    | succ j ih => exact ⟨ha, rfl, hk ▸ ih⟩
  have e2 : opD .Mult (.lst [a.d]) (.int (j : Int)) = some (.own false ((List.replicate j a).map Dg.d)) := by
    show (if (0 : Int) ≤ j && (j : Int) ≤ 1000000 && [a.d].length * (j : Int).toNat ≤ LIM then some (Cl.own false (List.replicate (j : Int).toNat [a.d]).flatten) else none) = _
    rw [if_pos (by unfold LIM; simp; omega)]
    congr 2
    rw [Int.toNat_natCast]
    clear hj
    induction j with
    | zero => rfl
    | succ j ih =>
      rw [List.replicate_succ, List.replicate_succ, List.flatten_cons, ih]
      rfl
  simp -implicitDefEqProofs only [evO_some, bnd_ok, bnd_ex, lift_some, liftC_dat, liftC_own, fl_ok, fl_ex, then_nx, then_rt, then_ex, data_dat, data_own, data_ex, truth_ok, truth_ex, readC_dat, readC_own, peekC_dat, peekC_own, ev_var, ev_lit, ev_gc, ev_fnm, ev_bin, ev_not, ev_and, ev_or, ev_cmp, ev_chn, ev_ite, ev_tup, ev_lst, ev_idx, ev_vix, ev_vln, ev_vcl, ev_vcr, ev_slc, ev_rev, ev_app, ev_appP, ev_bi, ev_mn, ev_rgl, ev_rgt, ev_isi, ev_mth, ev_neg, evs_nil, evs_cons, evo_non, evo_som, evc_non, evc_som, evi_seq, evi_rng, callR_dat, callR_own, callR_ex, callA_eq, callP_own, callRp_ok, callRp_ex, putP_own, xss_nil, xss_cons, xs_set, stC_ok, bindS_some, xs_asg, xs_tpar, bind_nm, bind_tp, binds_nil, binds_cons, ownC_some, ownQ_own, ownAt_eq, xs_sti, xs_aug, xs_apd, xs_xtd, xs_exp, xs_iff, xs_for, xs_whl, xs_ret, xs_rse, xs_pas, xs_try, tryE_rt, tryE_nx, tryE_ex, fin_rt, fin_nx, fin_ex, finP_rt, finP_nx, op_addI, op_subI, cmp_lt, cmp_le, cmp_gt, cmp_ge, cmp_eqI, cmp_neI, cmp_eqB, cmp_neB, aug_add, ix_of, cmp_isN, cmp_isNotN, bi_lenL, bi_lenT, bi_listL, bi_listT, bi_tupL, bi_tupT, bi_sum, bi_int, bi_all, bi_any, items_L, items_T, dat_d, own_d, at0, at1, at2, al0, al1,  List.getD_cons_zero, List.getD_cons_succ, List.set_cons_zero, List.set_cons_succ, List.length_cons, List.length_nil, Option.map_some, Option.bind_some, Option.map_none, reduceIte, Nat.reduceLT, Nat.reduceAdd, wipeE, List.length_map, List.getElem?_cons_zero, List.getElem?_cons_succ, bind_dP, at0d, at1d, at2d, cut2d, ite_and, ite_or, ite_int, e1, sp_is_whole, Bool.not_true, Bool.or_self, Bool.false_eq_true, e2]
  rw [sp_chain ha.m0 ha.m1 (hf j) rfl]
  simp -implicitDefEqProofs only [evO_some, bnd_ok, bnd_ex, lift_some, liftC_dat, liftC_own, fl_ok, fl_ex, then_nx, then_rt, then_ex, data_dat, data_own, data_ex, truth_ok, truth_ex, readC_dat, readC_own, peekC_dat, peekC_own, ev_var, ev_lit, ev_gc, ev_fnm, ev_bin, ev_not, ev_and, ev_or, ev_cmp, ev_chn, ev_ite, ev_tup, ev_lst, ev_idx, ev_vix, ev_vln, ev_vcl, ev_vcr, ev_slc, ev_rev, ev_app, ev_appP, ev_bi, ev_mn, ev_rgl, ev_rgt, ev_isi, ev_mth, ev_neg, evs_nil, evs_cons, evo_non, evo_som, evc_non, evc_som, evi_seq, evi_rng, callR_dat, callR_own, callR_ex, callA_eq, callP_own, callRp_ok, callRp_ex, putP_own, xss_nil, xss_cons, xs_set, stC_ok, bindS_some, xs_asg, xs_tpar, bind_nm, bind_tp, binds_nil, binds_cons, ownC_some, ownQ_own, ownAt_eq, xs_sti, xs_aug, xs_apd, xs_xtd, xs_exp, xs_iff, xs_for, xs_whl, xs_ret, xs_rse, xs_pas, xs_try, tryE_rt, tryE_nx, tryE_ex, fin_rt, fin_nx, fin_ex, finP_rt, finP_nx, op_addI, op_subI, cmp_lt, cmp_le, cmp_gt, cmp_ge, cmp_eqI, cmp_neI, cmp_eqB, cmp_neB, aug_add, ix_of, cmp_isN, cmp_isNotN, bi_lenL, bi_lenT, bi_listL, bi_listT, bi_tupL, bi_tupT, bi_sum, bi_int, bi_all, bi_any, items_L, items_T, dat_d, own_d, at0, at1, at2, al0, al1,  List.getD_cons_zero, List.getD_cons_succ, List.set_cons_zero, List.set_cons_succ, List.length_cons, List.length_nil, Option.map_some, Option.bind_some, Option.map_none, reduceIte, Nat.reduceLT, Nat.reduceAdd, wipeE, List.length_map, List.getElem?_cons_zero, List.getElem?_cons_succ, bind_dP, at0d, at1d, at2d, cut2d, ite_and, ite_or, ite_int]
theorem ux_power {k : Nat} {a : Dg} {j : DD} (hk : a.m ≠ a.k) : rn (k + 5) i_power none [a.d, j] = .ex x_Unfit [] := by
  rw [st_power, b_power]
  have e1 : (!decide (a.m = a.k)) = true := by simp [hk]
  simp -implicitDefEqProofs only [evO_some, bnd_ok, bnd_ex, lift_some, liftC_dat, liftC_own, fl_ok, fl_ex, then_nx, then_rt, then_ex, data_dat, data_own, data_ex, truth_ok, truth_ex, readC_dat, readC_own, peekC_dat, peekC_own, ev_var, ev_lit, ev_gc, ev_fnm, ev_bin, ev_not, ev_and, ev_or, ev_cmp, ev_chn, ev_ite, ev_tup, ev_lst, ev_idx, ev_vix, ev_vln, ev_vcl, ev_vcr, ev_slc, ev_rev, ev_app, ev_appP, ev_bi, ev_mn, ev_rgl, ev_rgt, ev_isi, ev_mth, ev_neg, evs_nil, evs_cons, evo_non, evo_som, evc_non, evc_som, evi_seq, evi_rng, callR_dat, callR_own, callR_ex, callA_eq, callP_own, callRp_ok, callRp_ex, putP_own, xss_nil, xss_cons, xs_set, stC_ok, bindS_some, xs_asg, xs_tpar, bind_nm, bind_tp, binds_nil, binds_cons, ownC_some, ownQ_own, ownAt_eq, xs_sti, xs_aug, xs_apd, xs_xtd, xs_exp, xs_iff, xs_for, xs_whl, xs_ret, xs_rse, xs_pas, xs_try, tryE_rt, tryE_nx, tryE_ex, fin_rt, fin_nx, fin_ex, finP_rt, finP_nx, op_addI, op_subI, cmp_lt, cmp_le, cmp_gt, cmp_ge, cmp_eqI, cmp_neI, cmp_eqB, cmp_neB, aug_add, ix_of, cmp_isN, cmp_isNotN, bi_lenL, bi_lenT, bi_listL, bi_listT, bi_tupL, bi_tupT, bi_sum, bi_int, bi_all, bi_any, items_L, items_T, dat_d, own_d, at0, at1, at2, al0, al1,  List.getD_cons_zero, List.getD_cons_succ, List.set_cons_zero, List.set_cons_succ, List.length_cons, List.length_nil, Option.map_some, Option.bind_some, Option.map_none, reduceIte, Nat.reduceLT, Nat.reduceAdd, wipeE, List.length_map, List.getElem?_cons_zero, List.getElem?_cons_succ, bind_dP, at0d, at1d, at2d, cut2d, ite_and, ite_or, ite_int, e1]

theorem same_flat {T : Nat → Fn} (a b : DD) (ha : okD 0 a = true ∨ ∃ ds, a = .tup ds ∨ a = .lst ds) (hb : okD 0 b = true) : finF false (xss T nm.gv b__law_same [.dat a, .dat b, .no]) = .ok (.dat (.bl (decide (a = b)))) [] := by
  rw [b__law_same]
  have hs : ∀ x : PySem.Str, okD 0 (.str x) = true → D.sh 60 (.str x) = true := fun x h => h
  cases b <;> first | (cases hb; done) | skip
  all_goals (rcases ha with ha | ⟨ds, rfl | rfl⟩)
  all_goals first | (cases a <;> first | (cases ha; done) | skip) | skip
  all_goals simp -implicitDefEqProofs only [evO_some, bnd_ok, bnd_ex, lift_some, liftC_dat, liftC_own, fl_ok, fl_ex, then_nx, then_rt, then_ex, data_dat, data_own, data_ex, truth_ok, truth_ex, readC_dat, readC_own, peekC_dat, peekC_own, ev_var, ev_lit, ev_gc, ev_fnm, ev_bin, ev_not, ev_and, ev_or, ev_cmp, ev_chn, ev_ite, ev_tup, ev_lst, ev_idx, ev_vix, ev_vln, ev_vcl, ev_vcr, ev_slc, ev_rev, ev_app, ev_appP, ev_bi, ev_mn, ev_rgl, ev_rgt, ev_isi, ev_mth, ev_neg, evs_nil, evs_cons, evo_non, evo_som, evc_non, evc_som, evi_seq, evi_rng, callR_dat, callR_own, callR_ex, callA_eq, callP_own, callRp_ok, callRp_ex, putP_own, xss_nil, xss_cons, xs_set, stC_ok, bindS_some, xs_asg, xs_tpar, bind_nm, bind_tp, binds_nil, binds_cons, ownC_some, ownQ_own, ownAt_eq, xs_sti, xs_aug, xs_apd, xs_xtd, xs_exp, xs_iff, xs_for, xs_whl, xs_ret, xs_rse, xs_pas, xs_try, tryE_rt, tryE_nx, tryE_ex, fin_rt, fin_nx, fin_ex, finP_rt, finP_nx, op_addI, op_subI, cmp_lt, cmp_le, cmp_gt, cmp_ge, cmp_eqI, cmp_neI, cmp_eqB, cmp_neB, aug_add, ix_of, cmp_isN, cmp_isNotN, bi_lenL, bi_lenT, bi_listL, bi_listT, bi_tupL, bi_tupT, bi_sum, bi_int, bi_all, bi_any, items_L, items_T, dat_d, own_d, at0, at1, at2, al0, al1,  List.getD_cons_zero, List.getD_cons_succ, List.set_cons_zero, List.set_cons_succ, List.length_cons, List.length_nil, Option.map_some, Option.bind_some, Option.map_none, reduceIte, Nat.reduceLT, Nat.reduceAdd, wipeE, List.length_map, List.getElem?_cons_zero, List.getElem?_cons_succ, bind_dP, at0d, at1d, at2d, cut2d, ite_and, ite_or, ite_int, ownC_own, ownD_some, set5_1, set5_2, set5_3, at5_0, at5_1, at5_2, at5_3, at5_4, Int.reduceLT, Int.reduceLE, Int.reduceNeg, and_self, true_and, op_mulI, op_mod, op_div, decide_true, decide_false, Bool.false_eq_true, if_false, if_true, isD, Bool.or_self, Bool.or_false, Bool.false_or, Bool.or_true, Bool.true_or, isNon, cmp_eqB, ite_and, Bool.true_and, Bool.false_and, beq_self_eq_true, Bool.not_true, reduceCtorEq]
  case bl.inl.bl b a => by_cases q : a = b <;> simp [q]
  case int.inl.int b a => by_cases q : a = b <;> simp [q]
  case str.inl.str b a =>
    rw [cmp_eq (hs _ ha) (hs _ hb)]
    simp -implicitDefEqProofs only [evO_some, bnd_ok, bnd_ex, lift_some, liftC_dat, liftC_own, fl_ok, fl_ex, then_nx, then_rt, then_ex, data_dat, data_own, data_ex, truth_ok, truth_ex, readC_dat, readC_own, peekC_dat, peekC_own, ev_var, ev_lit, ev_gc, ev_fnm, ev_bin, ev_not, ev_and, ev_or, ev_cmp, ev_chn, ev_ite, ev_tup, ev_lst, ev_idx, ev_vix, ev_vln, ev_vcl, ev_vcr, ev_slc, ev_rev, ev_app, ev_appP, ev_bi, ev_mn, ev_rgl, ev_rgt, ev_isi, ev_mth, ev_neg, evs_nil, evs_cons, evo_non, evo_som, evc_non, evc_som, evi_seq, evi_rng, callR_dat, callR_own, callR_ex, callA_eq, callP_own, callRp_ok, callRp_ex, putP_own, xss_nil, xss_cons, xs_set, stC_ok, bindS_some, xs_asg, xs_tpar, bind_nm, bind_tp, binds_nil, binds_cons, ownC_some, ownQ_own, ownAt_eq, xs_sti, xs_aug, xs_apd, xs_xtd, xs_exp, xs_iff, xs_for, xs_whl, xs_ret, xs_rse, xs_pas, xs_try, tryE_rt, tryE_nx, tryE_ex, fin_rt, fin_nx, fin_ex, finP_rt, finP_nx, op_addI, op_subI, cmp_lt, cmp_le, cmp_gt, cmp_ge, cmp_eqI, cmp_neI, cmp_eqB, cmp_neB, aug_add, ix_of, cmp_isN, cmp_isNotN, bi_lenL, bi_lenT, bi_listL, bi_listT, bi_tupL, bi_tupT, bi_sum, bi_int, bi_all, bi_any, items_L, items_T, dat_d, own_d, at0, at1, at2, al0, al1,  List.getD_cons_zero, List.getD_cons_succ, List.set_cons_zero, List.set_cons_succ, List.length_cons, List.length_nil, Option.map_some, Option.bind_some, Option.map_none, reduceIte, Nat.reduceLT, Nat.reduceAdd, wipeE, List.length_map, List.getElem?_cons_zero, List.getElem?_cons_succ, bind_dP, at0d, at1d, at2d, cut2d, ite_and, ite_or, ite_int, ownC_own, ownD_some, set5_1, set5_2, set5_3, at5_0, at5_1, at5_2, at5_3, at5_4, Int.reduceLT, Int.reduceLE, Int.reduceNeg, and_self, true_and, op_mulI, op_mod, op_div, decide_true, decide_false, Bool.false_eq_true, if_false, if_true]
    have e : D.eq (.str a) (.str b) = (a == b) := rfl
    rw [e]
    by_cases q : a = b <;> simp [q]
theorem same_tail {T : Nat → Fn} {xs ys : List DD} {A B : DD} (hxs : ∀ i : Int, 0 ≤ i → i < xs.length → atD A (.int i) = some (xs.getD i.toNat .non)) (hys : ∀ i : Int, 0 ≤ i → i < ys.length → atD B (.int i) = some (ys.getD i.toNat .non)) (hB : biD .len B = some (.dat (.int ys.length))) (hl : xs.length = ys.length) (hlen : ys.length ≤ 1000000)
    (ih : ∀ x ∈ xs, ∀ y ∈ ys, T i__law_same none [x, y] = .ok (.dat (.bl (decide (x = y)))) []) :
    ∃ zs, ev T nm.gv (.cm1 (.var 2) (.nm 2) (.rng (.cons (.bi .len (.var 1)) .nil)) (.som (.not (.app i__law_same none (.cons (.idx (.var 0) (.var 2)) (.cons (.idx (.var 1) (.var 2)) .nil))))) [2]) [.dat A, .dat B, .no] = .ok (.own false zs) [.dat A, .dat B, .no] ∧ decide ((zs.length : Int) = 0) = decide (xs = ys) := by
  refine ⟨_, ev_filterS (rng ys.length) .int (fun i => ¬ xs.getD i.toNat .non = ys.getD i.toNat .non) .int ?h1 fun i hi => ?h2, ?h3⟩
  case h1 =>
    simp -implicitDefEqProofs only [evO_some, bnd_ok, bnd_ex, lift_some, liftC_dat, liftC_own, fl_ok, fl_ex, then_nx, then_rt, then_ex, data_dat, data_own, data_ex, truth_ok, truth_ex, readC_dat, readC_own, peekC_dat, peekC_own, ev_var, ev_lit, ev_gc, ev_fnm, ev_bin, ev_not, ev_and, ev_or, ev_cmp, ev_chn, ev_ite, ev_tup, ev_lst, ev_idx, ev_vix, ev_vln, ev_vcl, ev_vcr, ev_slc, ev_rev, ev_app, ev_appP, ev_bi, ev_mn, ev_rgl, ev_rgt, ev_isi, ev_mth, ev_neg, evs_nil, evs_cons, evo_non, evo_som, evc_non, evc_som, evi_seq, evi_rng, callR_dat, callR_own, callR_ex, callA_eq, callP_own, callRp_ok, callRp_ex, putP_own, xss_nil, xss_cons, xs_set, stC_ok, bindS_some, xs_asg, xs_tpar, bind_nm, bind_tp, binds_nil, binds_cons, ownC_some, ownQ_own, ownAt_eq, xs_sti, xs_aug, xs_apd, xs_xtd, xs_exp, xs_iff, xs_for, xs_whl, xs_ret, xs_rse, xs_pas, xs_try, tryE_rt, tryE_nx, tryE_ex, fin_rt, fin_nx, fin_ex, finP_rt, finP_nx, op_addI, op_subI, cmp_lt, cmp_le, cmp_gt, cmp_ge, cmp_eqI, cmp_neI, cmp_eqB, cmp_neB, aug_add, ix_of, cmp_isN, cmp_isNotN, bi_lenL, bi_lenT, bi_listL, bi_listT, bi_tupL, bi_tupT, bi_sum, bi_int, bi_all, bi_any, items_L, items_T, dat_d, own_d, at0, at1, at2, al0, al1,  List.getD_cons_zero, List.getD_cons_succ, List.set_cons_zero, List.set_cons_succ, List.length_cons, List.length_nil, Option.map_some, Option.bind_some, Option.map_none, reduceIte, Nat.reduceLT, Nat.reduceAdd, wipeE, List.length_map, List.getElem?_cons_zero, List.getElem?_cons_succ, bind_dP, at0d, at1d, at2d, cut2d, ite_and, ite_or, ite_int, hB]
    rw [rngD_one (by omega) (by omega)]
    simp -implicitDefEqProofs only [evO_some, bnd_ok, bnd_ex, lift_some, liftC_dat, liftC_own, fl_ok, fl_ex, then_nx, then_rt, then_ex, data_dat, data_own, data_ex, truth_ok, truth_ex, readC_dat, readC_own, peekC_dat, peekC_own, ev_var, ev_lit, ev_gc, ev_fnm, ev_bin, ev_not, ev_and, ev_or, ev_cmp, ev_chn, ev_ite, ev_tup, ev_lst, ev_idx, ev_vix, ev_vln, ev_vcl, ev_vcr, ev_slc, ev_rev, ev_app, ev_appP, ev_bi, ev_mn, ev_rgl, ev_rgt, ev_isi, ev_mth, ev_neg, evs_nil, evs_cons, evo_non, evo_som, evc_non, evc_som, evi_seq, evi_rng, callR_dat, callR_own, callR_ex, callA_eq, callP_own, callRp_ok, callRp_ex, putP_own, xss_nil, xss_cons, xs_set, stC_ok, bindS_some, xs_asg, xs_tpar, bind_nm, bind_tp, binds_nil, binds_cons, ownC_some, ownQ_own, ownAt_eq, xs_sti, xs_aug, xs_apd, xs_xtd, xs_exp, xs_iff, xs_for, xs_whl, xs_ret, xs_rse, xs_pas, xs_try, tryE_rt, tryE_nx, tryE_ex, fin_rt, fin_nx, fin_ex, finP_rt, finP_nx, op_addI, op_subI, cmp_lt, cmp_le, cmp_gt, cmp_ge, cmp_eqI, cmp_neI, cmp_eqB, cmp_neB, aug_add, ix_of, cmp_isN, cmp_isNotN, bi_lenL, bi_lenT, bi_listL, bi_listT, bi_tupL, bi_tupT, bi_sum, bi_int, bi_all, bi_any, items_L, items_T, dat_d, own_d, at0, at1, at2, al0, al1,  List.getD_cons_zero, List.getD_cons_succ, List.set_cons_zero, List.set_cons_succ, List.length_cons, List.length_nil, Option.map_some, Option.bind_some, Option.map_none, reduceIte, Nat.reduceLT, Nat.reduceAdd, wipeE, List.length_map, List.getElem?_cons_zero, List.getElem?_cons_succ, bind_dP, at0d, at1d, at2d, cut2d, ite_and, ite_or, ite_int]
  case h2 =>
    have hi' := mem_rng.mp hi
    have g1 := hxs i hi'.1 (by omega)
    have g2 := hys i hi'.1 (by omega)
    have m1 : xs.getD i.toNat .non ∈ xs := by rw [List.getD_eq_getElem?_getD, List.getElem?_eq_getElem (by omega)]; exact List.getElem_mem _
    have m2 : ys.getD i.toNat .non ∈ ys := by rw [List.getD_eq_getElem?_getD, List.getElem?_eq_getElem (by omega)]; exact List.getElem_mem _
    have g3 := ih _ m1 _ m2
    have g4 : (!decide (xs.getD i.toNat .non = ys.getD i.toNat .non)) = decide (¬ xs.getD i.toNat .non = ys.getD i.toNat .non) := (decide_not).symm
    exact ⟨_, by simp -implicitDefEqProofs only [evO_some, bnd_ok, bnd_ex, lift_some, liftC_dat, liftC_own, fl_ok, fl_ex, then_nx, then_rt, then_ex, data_dat, data_own, data_ex, truth_ok, truth_ex, readC_dat, readC_own, peekC_dat, peekC_own, ev_var, ev_lit, ev_gc, ev_fnm, ev_bin, ev_not, ev_and, ev_or, ev_cmp, ev_chn, ev_ite, ev_tup, ev_lst, ev_idx, ev_vix, ev_vln, ev_vcl, ev_vcr, ev_slc, ev_rev, ev_app, ev_appP, ev_bi, ev_mn, ev_rgl, ev_rgt, ev_isi, ev_mth, ev_neg, evs_nil, evs_cons, evo_non, evo_som, evc_non, evc_som, evi_seq, evi_rng, callR_dat, callR_own, callR_ex, callA_eq, callP_own, callRp_ok, callRp_ex, putP_own, xss_nil, xss_cons, xs_set, stC_ok, bindS_some, xs_asg, xs_tpar, bind_nm, bind_tp, binds_nil, binds_cons, ownC_some, ownQ_own, ownAt_eq, xs_sti, xs_aug, xs_apd, xs_xtd, xs_exp, xs_iff, xs_for, xs_whl, xs_ret, xs_rse, xs_pas, xs_try, tryE_rt, tryE_nx, tryE_ex, fin_rt, fin_nx, fin_ex, finP_rt, finP_nx, op_addI, op_subI, cmp_lt, cmp_le, cmp_gt, cmp_ge, cmp_eqI, cmp_neI, cmp_eqB, cmp_neB, aug_add, ix_of, cmp_isN, cmp_isNotN, bi_lenL, bi_lenT, bi_listL, bi_listT, bi_tupL, bi_tupT, bi_sum, bi_int, bi_all, bi_any, items_L, items_T, dat_d, own_d, at0, at1, at2, al0, al1,  List.getD_cons_zero, List.getD_cons_succ, List.set_cons_zero, List.set_cons_succ, List.length_cons, List.length_nil, Option.map_some, Option.bind_some, Option.map_none, reduceIte, Nat.reduceLT, Nat.reduceAdd, wipeE, List.length_map, List.getElem?_cons_zero, List.getElem?_cons_succ, bind_dP, at0d, at1d, at2d, cut2d, ite_and, ite_or, ite_int, g1, g2, g3, g4]; rfl, by simp -implicitDefEqProofs only [evO_some, bnd_ok, bnd_ex, lift_some, liftC_dat, liftC_own, fl_ok, fl_ex, then_nx, then_rt, then_ex, data_dat, data_own, data_ex, truth_ok, truth_ex, readC_dat, readC_own, peekC_dat, peekC_own, ev_var, ev_lit, ev_gc, ev_fnm, ev_bin, ev_not, ev_and, ev_or, ev_cmp, ev_chn, ev_ite, ev_tup, ev_lst, ev_idx, ev_vix, ev_vln, ev_vcl, ev_vcr, ev_slc, ev_rev, ev_app, ev_appP, ev_bi, ev_mn, ev_rgl, ev_rgt, ev_isi, ev_mth, ev_neg, evs_nil, evs_cons, evo_non, evo_som, evc_non, evc_som, evi_seq, evi_rng, callR_dat, callR_own, callR_ex, callA_eq, callP_own, callRp_ok, callRp_ex, putP_own, xss_nil, xss_cons, xs_set, stC_ok, bindS_some, xs_asg, xs_tpar, bind_nm, bind_tp, binds_nil, binds_cons, ownC_some, ownQ_own, ownAt_eq, xs_sti, xs_aug, xs_apd, xs_xtd, xs_exp, xs_iff, xs_for, xs_whl, xs_ret, xs_rse, xs_pas, xs_try, tryE_rt, tryE_nx, tryE_ex, fin_rt, fin_nx, fin_ex, finP_rt, finP_nx, op_addI, op_subI, cmp_lt, cmp_le, cmp_gt, cmp_ge, cmp_eqI, cmp_neI, cmp_eqB, cmp_neB, aug_add, ix_of, cmp_isN, cmp_isNotN, bi_lenL, bi_lenT, bi_listL, bi_listT, bi_tupL, bi_tupT, bi_sum, bi_int, bi_all, bi_any, items_L, items_T, dat_d, own_d, at0, at1, at2, al0, al1,  List.getD_cons_zero, List.getD_cons_succ, List.set_cons_zero, List.set_cons_succ, List.length_cons, List.length_nil, Option.map_some, Option.bind_some, Option.map_none, reduceIte, Nat.reduceLT, Nat.reduceAdd, wipeE, List.length_map, List.getElem?_cons_zero, List.getElem?_cons_succ, bind_dP, at0d, at1d, at2d, cut2d, ite_and, ite_or, ite_int], fun _ => ⟨_, by simp -implicitDefEqProofs only [evO_some, bnd_ok, bnd_ex, lift_some, liftC_dat, liftC_own, fl_ok, fl_ex, then_nx, then_rt, then_ex, data_dat, data_own, data_ex, truth_ok, truth_ex, readC_dat, readC_own, peekC_dat, peekC_own, ev_var, ev_lit, ev_gc, ev_fnm, ev_bin, ev_not, ev_and, ev_or, ev_cmp, ev_chn, ev_ite, ev_tup, ev_lst, ev_idx, ev_vix, ev_vln, ev_vcl, ev_vcr, ev_slc, ev_rev, ev_app, ev_appP, ev_bi, ev_mn, ev_rgl, ev_rgt, ev_isi, ev_mth, ev_neg, evs_nil, evs_cons, evo_non, evo_som, evc_non, evc_som, evi_seq, evi_rng, callR_dat, callR_own, callR_ex, callA_eq, callP_own, callRp_ok, callRp_ex, putP_own, xss_nil, xss_cons, xs_set, stC_ok, bindS_some, xs_asg, xs_tpar, bind_nm, bind_tp, binds_nil, binds_cons, ownC_some, ownQ_own, ownAt_eq, xs_sti, xs_aug, xs_apd, xs_xtd, xs_exp, xs_iff, xs_for, xs_whl, xs_ret, xs_rse, xs_pas, xs_try, tryE_rt, tryE_nx, tryE_ex, fin_rt, fin_nx, fin_ex, finP_rt, finP_nx, op_addI, op_subI, cmp_lt, cmp_le, cmp_gt, cmp_ge, cmp_eqI, cmp_neI, cmp_eqB, cmp_neB, aug_add, ix_of, cmp_isN, cmp_isNotN, bi_lenL, bi_lenT, bi_listL, bi_listT, bi_tupL, bi_tupT, bi_sum, bi_int, bi_all, bi_any, items_L, items_T, dat_d, own_d, at0, at1, at2, al0, al1,  List.getD_cons_zero, List.getD_cons_succ, List.set_cons_zero, List.set_cons_succ, List.length_cons, List.length_nil, Option.map_some, Option.bind_some, Option.map_none, reduceIte, Nat.reduceLT, Nat.reduceAdd, wipeE, List.length_map, List.getElem?_cons_zero, List.getElem?_cons_succ, bind_dP, at0d, at1d, at2d, cut2d, ite_and, ite_or, ite_int]; rfl, by simp -implicitDefEqProofs only [evO_some, bnd_ok, bnd_ex, lift_some, liftC_dat, liftC_own, fl_ok, fl_ex, then_nx, then_rt, then_ex, data_dat, data_own, data_ex, truth_ok, truth_ex, readC_dat, readC_own, peekC_dat, peekC_own, ev_var, ev_lit, ev_gc, ev_fnm, ev_bin, ev_not, ev_and, ev_or, ev_cmp, ev_chn, ev_ite, ev_tup, ev_lst, ev_idx, ev_vix, ev_vln, ev_vcl, ev_vcr, ev_slc, ev_rev, ev_app, ev_appP, ev_bi, ev_mn, ev_rgl, ev_rgt, ev_isi, ev_mth, ev_neg, evs_nil, evs_cons, evo_non, evo_som, evc_non, evc_som, evi_seq, evi_rng, callR_dat, callR_own, callR_ex, callA_eq, callP_own, callRp_ok, callRp_ex, putP_own, xss_nil, xss_cons, xs_set, stC_ok, bindS_some, xs_asg, xs_tpar, bind_nm, bind_tp, binds_nil, binds_cons, ownC_some, ownQ_own, ownAt_eq, xs_sti, xs_aug, xs_apd, xs_xtd, xs_exp, xs_iff, xs_for, xs_whl, xs_ret, xs_rse, xs_pas, xs_try, tryE_rt, tryE_nx, tryE_ex, fin_rt, fin_nx, fin_ex, finP_rt, finP_nx, op_addI, op_subI, cmp_lt, cmp_le, cmp_gt, cmp_ge, cmp_eqI, cmp_neI, cmp_eqB, cmp_neB, aug_add, ix_of, cmp_isN, cmp_isNotN, bi_lenL, bi_lenT, bi_listL, bi_listT, bi_tupL, bi_tupT, bi_sum, bi_int, bi_all, bi_any, items_L, items_T, dat_d, own_d, at0, at1, at2, al0, al1,  List.getD_cons_zero, List.getD_cons_succ, List.set_cons_zero, List.set_cons_succ, List.length_cons, List.length_nil, Option.map_some, Option.bind_some, Option.map_none, reduceIte, Nat.reduceLT, Nat.reduceAdd, wipeE, List.length_map, List.getElem?_cons_zero, List.getElem?_cons_succ, bind_dP, at0d, at1d, at2d, cut2d, ite_and, ite_or, ite_int]⟩⟩
  case h3 =>
    rw [List.length_map, filter_len_zero]
    refine decide_eq_decide.mpr ⟨fun h => ?_, fun h i _ => by subst h; simp⟩
    refine List.ext_getElem hl fun i h1 h2 => ?_
    have := h (i : Int) (mem_rng.mpr ⟨by omega, by omega⟩)
    rw [Classical.not_not, Int.toNat_natCast, List.getD_eq_getElem?_getD, List.getD_eq_getElem?_getD, List.getElem?_eq_getElem h1, List.getElem?_eq_getElem h2] at this
    exact this
theorem atT {ds : List DD} {i : Int} (h0 : 0 ≤ i) (h : i < ds.length) : atD (.tup ds) (.int i) = some (ds.getD i.toNat .non) := at_tup h0 (by rw [List.getD_eq_getElem?_getD, List.getElem?_eq_getElem (by omega)]; rfl)
theorem atLs {ds : List DD} {i : Int} (h0 : 0 ≤ i) (h : i < ds.length) : atD (.lst ds) (.int i) = some (ds.getD i.toNat .non) := at_lst h0 (by rw [List.getD_eq_getElem?_getD, List.getElem?_eq_getElem (by omega)]; rfl)
theorem okD_items {n : Nat} {ds : List DD} {d : DD} (hd : d = .tup ds ∨ d = .lst ds) (h : okD (n + 1) d = true) : ds.length ≤ 1000000 ∧ ∀ x ∈ ds, okD n x = true := by
  have h' : (decide (ds.length ≤ 1000000) && okDs n ds) = true := by rcases hd with rfl | rfl <;> exact h
  rw [Bool.and_eq_true, decide_eq_true_eq] at h'
  exact ⟨h'.1, okDs_mem h'.2⟩
theorem sp__law_same : ∀ (n : Nat) {k : Nat} (a b : DD), okD n a = true → okD n b = true → rn (k + n + 1) i__law_same none [a, b] = .ok (.dat (.bl (decide (a = b)))) [] := by
  intro n
  induction n with
  | zero =>
    intro k a b ha hb
    rw [st__law_same]
    exact same_flat a b (.inl ha) hb
  | succ n ih =>
    intro k a b ha hb
    rw [st__law_same]
    have flat : okD 0 b = true → finF false (xss (rn (k + (n + 1))) nm.gv b__law_same [.dat a, .dat b, .no]) = .ok (.dat (.bl (decide (a = b)))) [] := fun hb0 => by
      refine same_flat a b ?_ hb0
      cases a <;> first | exact .inl rfl | exact .inl ha | exact .inr ⟨_, .inl rfl⟩ | exact .inr ⟨_, .inr rfl⟩
    cases b with
    | tup ys =>
      have hy := okD_items (.inl rfl) hb
      cases a with
      | tup xs =>
        have hx := okD_items (.inl rfl) ha
        rw [b__law_same]
        by_cases hl : xs.length = ys.length
        · have e1 : (!decide ((xs.length : Int) = ys.length)) = false := by simp [hl]
          obtain ⟨zs, h, h'⟩ := same_tail (T := rn (k + (n + 1))) (xs := xs) (ys := ys) (A := .tup xs) (B := .tup ys) (fun i a b => atT a b) (fun i a b => atT a b) rfl hl hy.1 fun x h1 y h2 => ih x y (hx.2 x h1) (hy.2 y h2)
          have e2 : decide (Z.D.tup xs = .tup ys) = decide (xs = ys) := decide_eq_decide.mpr ⟨fun h => by injection h, fun h => by rw [h]⟩
          simp -implicitDefEqProofs only [evO_some, bnd_ok, bnd_ex, lift_some, liftC_dat, liftC_own, fl_ok, fl_ex, then_nx, then_rt, then_ex, data_dat, data_own, data_ex, truth_ok, truth_ex, readC_dat, readC_own, peekC_dat, peekC_own, ev_var, ev_lit, ev_gc, ev_fnm, ev_bin, ev_not, ev_and, ev_or, ev_cmp, ev_chn, ev_ite, ev_tup, ev_lst, ev_idx, ev_vix, ev_vln, ev_vcl, ev_vcr, ev_slc, ev_rev, ev_app, ev_appP, ev_bi, ev_mn, ev_rgl, ev_rgt, ev_isi, ev_mth, ev_neg, evs_nil, evs_cons, evo_non, evo_som, evc_non, evc_som, evi_seq, evi_rng, callR_dat, callR_own, callR_ex, callA_eq, callP_own, callRp_ok, callRp_ex, putP_own, xss_nil, xss_cons, xs_set, stC_ok, bindS_some, xs_asg, xs_tpar, bind_nm, bind_tp, binds_nil, binds_cons, ownC_some, ownQ_own, ownAt_eq, xs_sti, xs_aug, xs_apd, xs_xtd, xs_exp, xs_iff, xs_for, xs_whl, xs_ret, xs_rse, xs_pas, xs_try, tryE_rt, tryE_nx, tryE_ex, fin_rt, fin_nx, fin_ex, finP_rt, finP_nx, op_addI, op_subI, cmp_lt, cmp_le, cmp_gt, cmp_ge, cmp_eqI, cmp_neI, cmp_eqB, cmp_neB, aug_add, ix_of, cmp_isN, cmp_isNotN, bi_lenL, bi_lenT, bi_listL, bi_listT, bi_tupL, bi_tupT, bi_sum, bi_int, bi_all, bi_any, items_L, items_T, dat_d, own_d, at0, at1, at2, al0, al1,  List.getD_cons_zero, List.getD_cons_succ, List.set_cons_zero, List.set_cons_succ, List.length_cons, List.length_nil, Option.map_some, Option.bind_some, Option.map_none, reduceIte, Nat.reduceLT, Nat.reduceAdd, wipeE, List.length_map, List.getElem?_cons_zero, List.getElem?_cons_succ, bind_dP, at0d, at1d, at2d, cut2d, ite_and, ite_or, ite_int, ownC_own, ownD_some, set5_1, set5_2, set5_3, at5_0, at5_1, at5_2, at5_3, at5_4, Int.reduceLT, Int.reduceLE, Int.reduceNeg, and_self, true_and, op_mulI, op_mod, op_div, decide_true, decide_false, Bool.false_eq_true, if_false, if_true, isD, Bool.or_false, Bool.or_true, Bool.true_or, e1, beq_self_eq_true, Bool.not_true, Bool.or_self, h, h', e2]
        · have e1 : (!decide ((xs.length : Int) = ys.length)) = true := by simp; omega
          have e2 : decide (Z.D.tup xs = .tup ys) = false := decide_eq_false fun h => hl (by injection h with h; rw [h])
          simp -implicitDefEqProofs only [evO_some, bnd_ok, bnd_ex, lift_some, liftC_dat, liftC_own, fl_ok, fl_ex, then_nx, then_rt, then_ex, data_dat, data_own, data_ex, truth_ok, truth_ex, readC_dat, readC_own, peekC_dat, peekC_own, ev_var, ev_lit, ev_gc, ev_fnm, ev_bin, ev_not, ev_and, ev_or, ev_cmp, ev_chn, ev_ite, ev_tup, ev_lst, ev_idx, ev_vix, ev_vln, ev_vcl, ev_vcr, ev_slc, ev_rev, ev_app, ev_appP, ev_bi, ev_mn, ev_rgl, ev_rgt, ev_isi, ev_mth, ev_neg, evs_nil, evs_cons, evo_non, evo_som, evc_non, evc_som, evi_seq, evi_rng, callR_dat, callR_own, callR_ex, callA_eq, callP_own, callRp_ok, callRp_ex, putP_own, xss_nil, xss_cons, xs_set, stC_ok, bindS_some, xs_asg, xs_tpar, bind_nm, bind_tp, binds_nil, binds_cons, ownC_some, ownQ_own, ownAt_eq, xs_sti, xs_aug, xs_apd, xs_xtd, xs_exp, xs_iff, xs_for, xs_whl, xs_ret, xs_rse, xs_pas, xs_try, tryE_rt, tryE_nx, tryE_ex, fin_rt, fin_nx, fin_ex, finP_rt, finP_nx, op_addI, op_subI, cmp_lt, cmp_le, cmp_gt, cmp_ge, cmp_eqI, cmp_neI, cmp_eqB, cmp_neB, aug_add, ix_of, cmp_isN, cmp_isNotN, bi_lenL, bi_lenT, bi_listL, bi_listT, bi_tupL, bi_tupT, bi_sum, bi_int, bi_all, bi_any, items_L, items_T, dat_d, own_d, at0, at1, at2, al0, al1,  List.getD_cons_zero, List.getD_cons_succ, List.set_cons_zero, List.set_cons_succ, List.length_cons, List.length_nil, Option.map_some, Option.bind_some, Option.map_none, reduceIte, Nat.reduceLT, Nat.reduceAdd, wipeE, List.length_map, List.getElem?_cons_zero, List.getElem?_cons_succ, bind_dP, at0d, at1d, at2d, cut2d, ite_and, ite_or, ite_int, ownC_own, ownD_some, set5_1, set5_2, set5_3, at5_0, at5_1, at5_2, at5_3, at5_4, Int.reduceLT, Int.reduceLE, Int.reduceNeg, and_self, true_and, op_mulI, op_mod, op_div, decide_true, decide_false, Bool.false_eq_true, if_false, if_true, isD, Bool.or_false, Bool.or_true, Bool.true_or, e1, beq_self_eq_true, Bool.not_true, Bool.or_self, e2]
      | fn f => cases ha
      | _ =>
        rw [b__law_same]
        simp -implicitDefEqProofs only [evO_some, bnd_ok, bnd_ex, lift_some, liftC_dat, liftC_own, fl_ok, fl_ex, then_nx, then_rt, then_ex, data_dat, data_own, data_ex, truth_ok, truth_ex, readC_dat, readC_own, peekC_dat, peekC_own, ev_var, ev_lit, ev_gc, ev_fnm, ev_bin, ev_not, ev_and, ev_or, ev_cmp, ev_chn, ev_ite, ev_tup, ev_lst, ev_idx, ev_vix, ev_vln, ev_vcl, ev_vcr, ev_slc, ev_rev, ev_app, ev_appP, ev_bi, ev_mn, ev_rgl, ev_rgt, ev_isi, ev_mth, ev_neg, evs_nil, evs_cons, evo_non, evo_som, evc_non, evc_som, evi_seq, evi_rng, callR_dat, callR_own, callR_ex, callA_eq, callP_own, callRp_ok, callRp_ex, putP_own, xss_nil, xss_cons, xs_set, stC_ok, bindS_some, xs_asg, xs_tpar, bind_nm, bind_tp, binds_nil, binds_cons, ownC_some, ownQ_own, ownAt_eq, xs_sti, xs_aug, xs_apd, xs_xtd, xs_exp, xs_iff, xs_for, xs_whl, xs_ret, xs_rse, xs_pas, xs_try, tryE_rt, tryE_nx, tryE_ex, fin_rt, fin_nx, fin_ex, finP_rt, finP_nx, op_addI, op_subI, cmp_lt, cmp_le, cmp_gt, cmp_ge, cmp_eqI, cmp_neI, cmp_eqB, cmp_neB, aug_add, ix_of, cmp_isN, cmp_isNotN, bi_lenL, bi_lenT, bi_listL, bi_listT, bi_tupL, bi_tupT, bi_sum, bi_int, bi_all, bi_any, items_L, items_T, dat_d, own_d, at0, at1, at2, al0, al1,  List.getD_cons_zero, List.getD_cons_succ, List.set_cons_zero, List.set_cons_succ, List.length_cons, List.length_nil, Option.map_some, Option.bind_some, Option.map_none, reduceIte, Nat.reduceLT, Nat.reduceAdd, wipeE, List.length_map, List.getElem?_cons_zero, List.getElem?_cons_succ, bind_dP, at0d, at1d, at2d, cut2d, ite_and, ite_or, ite_int, ownC_own, ownD_some, set5_1, set5_2, set5_3, at5_0, at5_1, at5_2, at5_3, at5_4, Int.reduceLT, Int.reduceLE, Int.reduceNeg, and_self, true_and, op_mulI, op_mod, op_div, decide_true, decide_false, Bool.false_eq_true, if_false, if_true, isD, Bool.or_false, Bool.or_true, Bool.true_or, Bool.not_true, Bool.or_self, Bool.not_false, Bool.true_beq, Bool.false_beq, reduceCtorEq]
    | lst ys =>
      have hy := okD_items (.inr rfl) hb
      cases a with
      | lst xs =>
        have hx := okD_items (.inr rfl) ha
        rw [b__law_same]
        by_cases hl : xs.length = ys.length
        · have e1 : (!decide ((xs.length : Int) = ys.length)) = false := by simp [hl]
          obtain ⟨zs, h, h'⟩ := same_tail (T := rn (k + (n + 1))) (xs := xs) (ys := ys) (A := .lst xs) (B := .lst ys) (fun i a b => atLs a b) (fun i a b => atLs a b) rfl hl hy.1 fun x h1 y h2 => ih x y (hx.2 x h1) (hy.2 y h2)
          have e2 : decide (Z.D.lst xs = .lst ys) = decide (xs = ys) := decide_eq_decide.mpr ⟨fun h => by injection h, fun h => by rw [h]⟩
          simp -implicitDefEqProofs only [evO_some, bnd_ok, bnd_ex, lift_some, liftC_dat, liftC_own, fl_ok, fl_ex, then_nx, then_rt, then_ex, data_dat, data_own, data_ex, truth_ok, truth_ex, readC_dat, readC_own, peekC_dat, peekC_own, ev_var, ev_lit, ev_gc, ev_fnm, ev_bin, ev_not, ev_and, ev_or, ev_cmp, ev_chn, ev_ite, ev_tup, ev_lst, ev_idx, ev_vix, ev_vln, ev_vcl, ev_vcr, ev_slc, ev_rev, ev_app, ev_appP, ev_bi, ev_mn, ev_rgl, ev_rgt, ev_isi, ev_mth, ev_neg, evs_nil, evs_cons, evo_non, evo_som, evc_non, evc_som, evi_seq, evi_rng, callR_dat, callR_own, callR_ex, callA_eq, callP_own, callRp_ok, callRp_ex, putP_own, xss_nil, xss_cons, xs_set, stC_ok, bindS_some, xs_asg, xs_tpar, bind_nm, bind_tp, binds_nil, binds_cons, ownC_some, ownQ_own, ownAt_eq, xs_sti, xs_aug, xs_apd, xs_xtd, xs_exp, xs_iff, xs_for, xs_whl, xs_ret, xs_rse, xs_pas, xs_try, tryE_rt, tryE_nx, tryE_ex, fin_rt, fin_nx, fin_ex, finP_rt, finP_nx, op_addI, op_subI, cmp_lt, cmp_le, cmp_gt, cmp_ge, cmp_eqI, cmp_neI, cmp_eqB, cmp_neB, aug_add, ix_of, cmp_isN, cmp_isNotN, bi_lenL, bi_lenT, bi_listL, bi_listT, bi_tupL, bi_tupT, bi_sum, bi_int, bi_all, bi_any, items_L, items_T, dat_d, own_d, at0, at1, at2, al0, al1,  List.getD_cons_zero, List.getD_cons_succ, List.set_cons_zero, List.set_cons_succ, List.length_cons, List.length_nil, Option.map_some, Option.bind_some, Option.map_none, reduceIte, Nat.reduceLT, Nat.reduceAdd, wipeE, List.length_map, List.getElem?_cons_zero, List.getElem?_cons_succ, bind_dP, at0d, at1d, at2d, cut2d, ite_and, ite_or, ite_int, ownC_own, ownD_some, set5_1, set5_2, set5_3, at5_0, at5_1, at5_2, at5_3, at5_4, Int.reduceLT, Int.reduceLE, Int.reduceNeg, and_self, true_and, op_mulI, op_mod, op_div, decide_true, decide_false, Bool.false_eq_true, if_false, if_true, isD, Bool.or_false, Bool.or_true, Bool.true_or, Bool.false_or, e1, beq_self_eq_true, Bool.not_true, Bool.or_self, h, h', e2]
        · have e1 : (!decide ((xs.length : Int) = ys.length)) = true := by simp; omega
          have e2 : decide (Z.D.lst xs = .lst ys) = false := decide_eq_false fun h => hl (by injection h with h; rw [h])
          simp -implicitDefEqProofs only [evO_some, bnd_ok, bnd_ex, lift_some, liftC_dat, liftC_own, fl_ok, fl_ex, then_nx, then_rt, then_ex, data_dat, data_own, data_ex, truth_ok, truth_ex, readC_dat, readC_own, peekC_dat, peekC_own, ev_var, ev_lit, ev_gc, ev_fnm, ev_bin, ev_not, ev_and, ev_or, ev_cmp, ev_chn, ev_ite, ev_tup, ev_lst, ev_idx, ev_vix, ev_vln, ev_vcl, ev_vcr, ev_slc, ev_rev, ev_app, ev_appP, ev_bi, ev_mn, ev_rgl, ev_rgt, ev_isi, ev_mth, ev_neg, evs_nil, evs_cons, evo_non, evo_som, evc_non, evc_som, evi_seq, evi_rng, callR_dat, callR_own, callR_ex, callA_eq, callP_own, callRp_ok, callRp_ex, putP_own, xss_nil, xss_cons, xs_set, stC_ok, bindS_some, xs_asg, xs_tpar, bind_nm, bind_tp, binds_nil, binds_cons, ownC_some, ownQ_own, ownAt_eq, xs_sti, xs_aug, xs_apd, xs_xtd, xs_exp, xs_iff, xs_for, xs_whl, xs_ret, xs_rse, xs_pas, xs_try, tryE_rt, tryE_nx, tryE_ex, fin_rt, fin_nx, fin_ex, finP_rt, finP_nx, op_addI, op_subI, cmp_lt, cmp_le, cmp_gt, cmp_ge, cmp_eqI, cmp_neI, cmp_eqB, cmp_neB, aug_add, ix_of, cmp_isN, cmp_isNotN, bi_lenL, bi_lenT, bi_listL, bi_listT, bi_tupL, bi_tupT, bi_sum, bi_int, bi_all, bi_any, items_L, items_T, dat_d, own_d, at0, at1, at2, al0, al1,  List.getD_cons_zero, List.getD_cons_succ, List.set_cons_zero, List.set_cons_succ, List.length_cons, List.length_nil, Option.map_some, Option.bind_some, Option.map_none, reduceIte, Nat.reduceLT, Nat.reduceAdd, wipeE, List.length_map, List.getElem?_cons_zero, List.getElem?_cons_succ, bind_dP, at0d, at1d, at2d, cut2d, ite_and, ite_or, ite_int, ownC_own, ownD_some, set5_1, set5_2, set5_3, at5_0, at5_1, at5_2, at5_3, at5_4, Int.reduceLT, Int.reduceLE, Int.reduceNeg, and_self, true_and, op_mulI, op_mod, op_div, decide_true, decide_false, Bool.false_eq_true, if_false, if_true, isD, Bool.or_false, Bool.or_true, Bool.true_or, Bool.false_or, e1, beq_self_eq_true, Bool.not_true, Bool.or_self, e2]
      | fn f => cases ha
      | _ =>
        rw [b__law_same]
        simp -implicitDefEqProofs only [evO_some, bnd_ok, bnd_ex, lift_some, liftC_dat, liftC_own, fl_ok, fl_ex, then_nx, then_rt, then_ex, data_dat, data_own, data_ex, truth_ok, truth_ex, readC_dat, readC_own, peekC_dat, peekC_own, ev_var, ev_lit, ev_gc, ev_fnm, ev_bin, ev_not, ev_and, ev_or, ev_cmp, ev_chn, ev_ite, ev_tup, ev_lst, ev_idx, ev_vix, ev_vln, ev_vcl, ev_vcr, ev_slc, ev_rev, ev_app, ev_appP, ev_bi, ev_mn, ev_rgl, ev_rgt, ev_isi, ev_mth, ev_neg, evs_nil, evs_cons, evo_non, evo_som, evc_non, evc_som, evi_seq, evi_rng, callR_dat, callR_own, callR_ex, callA_eq, callP_own, callRp_ok, callRp_ex, putP_own, xss_nil, xss_cons, xs_set, stC_ok, bindS_some, xs_asg, xs_tpar, bind_nm, bind_tp, binds_nil, binds_cons, ownC_some, ownQ_own, ownAt_eq, xs_sti, xs_aug, xs_apd, xs_xtd, xs_exp, xs_iff, xs_for, xs_whl, xs_ret, xs_rse, xs_pas, xs_try, tryE_rt, tryE_nx, tryE_ex, fin_rt, fin_nx, fin_ex, finP_rt, finP_nx, op_addI, op_subI, cmp_lt, cmp_le, cmp_gt, cmp_ge, cmp_eqI, cmp_neI, cmp_eqB, cmp_neB, aug_add, ix_of, cmp_isN, cmp_isNotN, bi_lenL, bi_lenT, bi_listL, bi_listT, bi_tupL, bi_tupT, bi_sum, bi_int, bi_all, bi_any, items_L, items_T, dat_d, own_d, at0, at1, at2, al0, al1,  List.getD_cons_zero, List.getD_cons_succ, List.set_cons_zero, List.set_cons_succ, List.length_cons, List.length_nil, Option.map_some, Option.bind_some, Option.map_none, reduceIte, Nat.reduceLT, Nat.reduceAdd, wipeE, List.length_map, List.getElem?_cons_zero, List.getElem?_cons_succ, bind_dP, at0d, at1d, at2d, cut2d, ite_and, ite_or, ite_int, ownC_own, ownD_some, set5_1, set5_2, set5_3, at5_0, at5_1, at5_2, at5_3, at5_4, Int.reduceLT, Int.reduceLE, Int.reduceNeg, and_self, true_and, op_mulI, op_mod, op_div, decide_true, decide_false, Bool.false_eq_true, if_false, if_true, isD, Bool.or_false, Bool.or_true, Bool.true_or, Bool.false_or, Bool.not_true, Bool.or_self, Bool.not_false, Bool.true_beq, Bool.false_beq, reduceCtorEq, beq_self_eq_true]
    | fn f => cases hb
    | _ => exact flat hb

theorem sp__law_pool {k : Nat} {ns : List Int} : ∃ q, rn (k + 1) i__law_pool none [.lst (ns.map .int)] = .ok (.own false q) [] ∧ PoolOk q := by
  rw [st__law_pool, b__law_pool]
  have ec : cutD (.lst (ns.map Z.D.int)) none (some 63) = some (.own false ((ns.take 63).map .int)) := by
    show some (Cl.own false (cutL (ns.map Z.D.int) none (some 63))) = _
    unfold cutL sIx
    simp only [List.drop_zero]
    rw [if_neg (by decide), List.map_take, Nat.sub_zero, List.length_map]
    congr 2
    have e : min (Int.toNat 63) ns.length = min 63 ns.length := rfl
    rw [e]
    rcases Nat.le_total 63 ns.length with h | h
    · rw [Nat.min_eq_left h]
    · rw [Nat.min_eq_right h, List.take_of_length_le (by rw [List.length_map]; exact Nat.le_refl _), List.take_of_length_le (by rw [List.length_map]; exact h)]
  simp -implicitDefEqProofs only [evO_some, bnd_ok, bnd_ex, lift_some, liftC_dat, liftC_own, fl_ok, fl_ex, then_nx, then_rt, then_ex, data_dat, data_own, data_ex, truth_ok, truth_ex, readC_dat, readC_own, peekC_dat, peekC_own, ev_var, ev_lit, ev_gc, ev_fnm, ev_bin, ev_not, ev_and, ev_or, ev_cmp, ev_chn, ev_ite, ev_tup, ev_lst, ev_idx, ev_vix, ev_vln, ev_vcl, ev_vcr, ev_slc, ev_rev, ev_app, ev_appP, ev_bi, ev_mn, ev_rgl, ev_rgt, ev_isi, ev_mth, ev_neg, evs_nil, evs_cons, evo_non, evo_som, evc_non, evc_som, evi_seq, evi_rng, callR_dat, callR_own, callR_ex, callA_eq, callP_own, callRp_ok, callRp_ex, putP_own, xss_nil, xss_cons, xs_set, stC_ok, bindS_some, xs_asg, xs_tpar, bind_nm, bind_tp, binds_nil, binds_cons, ownC_some, ownQ_own, ownAt_eq, xs_sti, xs_aug, xs_apd, xs_xtd, xs_exp, xs_iff, xs_for, xs_whl, xs_ret, xs_rse, xs_pas, xs_try, tryE_rt, tryE_nx, tryE_ex, fin_rt, fin_nx, fin_ex, finP_rt, finP_nx, op_addI, op_subI, cmp_lt, cmp_le, cmp_gt, cmp_ge, cmp_eqI, cmp_neI, cmp_eqB, cmp_neB, aug_add, ix_of, cmp_isN, cmp_isNotN, bi_lenL, bi_lenT, bi_listL, bi_listT, bi_tupL, bi_tupT, bi_sum, bi_int, bi_all, bi_any, items_L, items_T, dat_d, own_d, at0, at1, at2, al0, al1,  List.getD_cons_zero, List.getD_cons_succ, List.set_cons_zero, List.set_cons_succ, List.length_cons, List.length_nil, Option.map_some, Option.bind_some, Option.map_none, reduceIte, Nat.reduceLT, Nat.reduceAdd, wipeE, List.length_map, List.getElem?_cons_zero, List.getElem?_cons_succ, bind_dP, at0d, at1d, at2d, cut2d, ite_and, ite_or, ite_int, ownC_own, ownD_some, set5_1, set5_2, set5_3, at5_0, at5_1, at5_2, at5_3, at5_4, Int.reduceLT, Int.reduceLE, Int.reduceNeg, and_self, true_and, op_mulI, op_mod, op_div, decide_true, decide_false, Bool.false_eq_true, if_false, if_true, ec]
  obtain ⟨e', h1, s, c, rfl⟩ := forL_ok (f := forB (rn k) nm.gv (.nm 2) (.cons (.set 1 (.bin .Mod (.bi .int (.bin .Add (.bin .Mult (.var 1) (.lit (.int 31))) (.var 2))) (.lit (.int 1000003)))) .nil)) (enc := Z.D.int) (xs := ns.take 63) (e := [.dat (.lst (ns.map .int)), .dat (.int 7), .no])
    (I := fun _ e => ∃ s c, e = [.dat (.lst (ns.map .int)), .dat (.int s), c]) ⟨_, _, rfl⟩ (fun pre x post hx e he => by
      obtain ⟨s, c, rfl⟩ := he
      rw [forB_some (bind_nm (by simp))]
      simp -implicitDefEqProofs only [evO_some, bnd_ok, bnd_ex, lift_some, liftC_dat, liftC_own, fl_ok, fl_ex, then_nx, then_rt, then_ex, data_dat, data_own, data_ex, truth_ok, truth_ex, readC_dat, readC_own, peekC_dat, peekC_own, ev_var, ev_lit, ev_gc, ev_fnm, ev_bin, ev_not, ev_and, ev_or, ev_cmp, ev_chn, ev_ite, ev_tup, ev_lst, ev_idx, ev_vix, ev_vln, ev_vcl, ev_vcr, ev_slc, ev_rev, ev_app, ev_appP, ev_bi, ev_mn, ev_rgl, ev_rgt, ev_isi, ev_mth, ev_neg, evs_nil, evs_cons, evo_non, evo_som, evc_non, evc_som, evi_seq, evi_rng, callR_dat, callR_own, callR_ex, callA_eq, callP_own, callRp_ok, callRp_ex, putP_own, xss_nil, xss_cons, xs_set, stC_ok, bindS_some, xs_asg, xs_tpar, bind_nm, bind_tp, binds_nil, binds_cons, ownC_some, ownQ_own, ownAt_eq, xs_sti, xs_aug, xs_apd, xs_xtd, xs_exp, xs_iff, xs_for, xs_whl, xs_ret, xs_rse, xs_pas, xs_try, tryE_rt, tryE_nx, tryE_ex, fin_rt, fin_nx, fin_ex, finP_rt, finP_nx, op_addI, op_subI, cmp_lt, cmp_le, cmp_gt, cmp_ge, cmp_eqI, cmp_neI, cmp_eqB, cmp_neB, aug_add, ix_of, cmp_isN, cmp_isNotN, bi_lenL, bi_lenT, bi_listL, bi_listT, bi_tupL, bi_tupT, bi_sum, bi_int, bi_all, bi_any, items_L, items_T, dat_d, own_d, at0, at1, at2, al0, al1,  List.getD_cons_zero, List.getD_cons_succ, List.set_cons_zero, List.set_cons_succ, List.length_cons, List.length_nil, Option.map_some, Option.bind_some, Option.map_none, reduceIte, Nat.reduceLT, Nat.reduceAdd, wipeE, List.length_map, List.getElem?_cons_zero, List.getElem?_cons_succ, bind_dP, at0d, at1d, at2d, cut2d, ite_and, ite_or, ite_int, ownC_own, ownD_some, set5_1, set5_2, set5_3, at5_0, at5_1, at5_2, at5_3, at5_4, Int.reduceLT, Int.reduceLE, Int.reduceNeg, and_self, true_and, op_mulI, op_mod, op_div, decide_true, decide_false, Bool.false_eq_true, if_false, if_true]
      exact ⟨_, rfl, _, _, rfl⟩)
  rw [h1]
  simp -implicitDefEqProofs only [evO_some, bnd_ok, bnd_ex, lift_some, liftC_dat, liftC_own, fl_ok, fl_ex, then_nx, then_rt, then_ex, data_dat, data_own, data_ex, truth_ok, truth_ex, readC_dat, readC_own, peekC_dat, peekC_own, ev_var, ev_lit, ev_gc, ev_fnm, ev_bin, ev_not, ev_and, ev_or, ev_cmp, ev_chn, ev_ite, ev_tup, ev_lst, ev_idx, ev_vix, ev_vln, ev_vcl, ev_vcr, ev_slc, ev_rev, ev_app, ev_appP, ev_bi, ev_mn, ev_rgl, ev_rgt, ev_isi, ev_mth, ev_neg, evs_nil, evs_cons, evo_non, evo_som, evc_non, evc_som, evi_seq, evi_rng, callR_dat, callR_own, callR_ex, callA_eq, callP_own, callRp_ok, callRp_ex, putP_own, xss_nil, xss_cons, xs_set, stC_ok, bindS_some, xs_asg, xs_tpar, bind_nm, bind_tp, binds_nil, binds_cons, ownC_some, ownQ_own, ownAt_eq, xs_sti, xs_aug, xs_apd, xs_xtd, xs_exp, xs_iff, xs_for, xs_whl, xs_ret, xs_rse, xs_pas, xs_try, tryE_rt, tryE_nx, tryE_ex, fin_rt, fin_nx, fin_ex, finP_rt, finP_nx, op_addI, op_subI, cmp_lt, cmp_le, cmp_gt, cmp_ge, cmp_eqI, cmp_neI, cmp_eqB, cmp_neB, aug_add, ix_of, cmp_isN, cmp_isNotN, bi_lenL, bi_lenT, bi_listL, bi_listT, bi_tupL, bi_tupT, bi_sum, bi_int, bi_all, bi_any, items_L, items_T, dat_d, own_d, at0, at1, at2, al0, al1,  List.getD_cons_zero, List.getD_cons_succ, List.set_cons_zero, List.set_cons_succ, List.length_cons, List.length_nil, Option.map_some, Option.bind_some, Option.map_none, reduceIte, Nat.reduceLT, Nat.reduceAdd, wipeE, List.length_map, List.getElem?_cons_zero, List.getElem?_cons_succ, bind_dP, at0d, at1d, at2d, cut2d, ite_and, ite_or, ite_int, ownC_own, ownD_some, set5_1, set5_2, set5_3, at5_0, at5_1, at5_2, at5_3, at5_4, Int.reduceLT, Int.reduceLE, Int.reduceNeg, and_self, true_and, op_mulI, op_mod, op_div, decide_true, decide_false, Bool.false_eq_true, if_false, if_true]
  exact ⟨_, rfl, ns, 0, 0, 0, s, rfl, by decide⟩

theorem sp__law_spread {k : Nat} {c : Int} : ∃ v : Int, rn (k + 1) i__law_spread none [.int c] = .ok (.dat (.int v)) [] := by
  rw [st__law_spread, b__law_spread]
  simp -implicitDefEqProofs only [evO_some, bnd_ok, bnd_ex, lift_some, liftC_dat, liftC_own, fl_ok, fl_ex, then_nx, then_rt, then_ex, data_dat, data_own, data_ex, truth_ok, truth_ex, readC_dat, readC_own, peekC_dat, peekC_own, ev_var, ev_lit, ev_gc, ev_fnm, ev_bin, ev_not, ev_and, ev_or, ev_cmp, ev_chn, ev_ite, ev_tup, ev_lst, ev_idx, ev_vix, ev_vln, ev_vcl, ev_vcr, ev_slc, ev_rev, ev_app, ev_appP, ev_bi, ev_mn, ev_rgl, ev_rgt, ev_isi, ev_mth, ev_neg, evs_nil, evs_cons, evo_non, evo_som, evc_non, evc_som, evi_seq, evi_rng, callR_dat, callR_own, callR_ex, callA_eq, callP_own, callRp_ok, callRp_ex, putP_own, xss_nil, xss_cons, xs_set, stC_ok, bindS_some, xs_asg, xs_tpar, bind_nm, bind_tp, binds_nil, binds_cons, ownC_some, ownQ_own, ownAt_eq, xs_sti, xs_aug, xs_apd, xs_xtd, xs_exp, xs_iff, xs_for, xs_whl, xs_ret, xs_rse, xs_pas, xs_try, tryE_rt, tryE_nx, tryE_ex, fin_rt, fin_nx, fin_ex, finP_rt, finP_nx, op_addI, op_subI, cmp_lt, cmp_le, cmp_gt, cmp_ge, cmp_eqI, cmp_neI, cmp_eqB, cmp_neB, aug_add, ix_of, cmp_isN, cmp_isNotN, bi_lenL, bi_lenT, bi_listL, bi_listT, bi_tupL, bi_tupT, bi_sum, bi_int, bi_all, bi_any, items_L, items_T, dat_d, own_d, at0, at1, at2, al0, al1,  List.getD_cons_zero, List.getD_cons_succ, List.set_cons_zero, List.set_cons_succ, List.length_cons, List.length_nil, Option.map_some, Option.bind_some, Option.map_none, reduceIte, Nat.reduceLT, Nat.reduceAdd, wipeE, List.length_map, List.getElem?_cons_zero, List.getElem?_cons_succ, bind_dP, at0d, at1d, at2d, cut2d, ite_and, ite_or, ite_int, ownC_own, ownD_some, set5_1, set5_2, set5_3, at5_0, at5_1, at5_2, at5_3, at5_4, Int.reduceLT, Int.reduceLE, Int.reduceNeg, and_self, true_and, op_mulI, op_mod, op_div, decide_true, decide_false, Bool.false_eq_true, if_false, if_true]
  rw [rngD_one (by decide) (by decide)]
  simp -implicitDefEqProofs only [evO_some, bnd_ok, bnd_ex, lift_some, liftC_dat, liftC_own, fl_ok, fl_ex, then_nx, then_rt, then_ex, data_dat, data_own, data_ex, truth_ok, truth_ex, readC_dat, readC_own, peekC_dat, peekC_own, ev_var, ev_lit, ev_gc, ev_fnm, ev_bin, ev_not, ev_and, ev_or, ev_cmp, ev_chn, ev_ite, ev_tup, ev_lst, ev_idx, ev_vix, ev_vln, ev_vcl, ev_vcr, ev_slc, ev_rev, ev_app, ev_appP, ev_bi, ev_mn, ev_rgl, ev_rgt, ev_isi, ev_mth, ev_neg, evs_nil, evs_cons, evo_non, evo_som, evc_non, evc_som, evi_seq, evi_rng, callR_dat, callR_own, callR_ex, callA_eq, callP_own, callRp_ok, callRp_ex, putP_own, xss_nil, xss_cons, xs_set, stC_ok, bindS_some, xs_asg, xs_tpar, bind_nm, bind_tp, binds_nil, binds_cons, ownC_some, ownQ_own, ownAt_eq, xs_sti, xs_aug, xs_apd, xs_xtd, xs_exp, xs_iff, xs_for, xs_whl, xs_ret, xs_rse, xs_pas, xs_try, tryE_rt, tryE_nx, tryE_ex, fin_rt, fin_nx, fin_ex, finP_rt, finP_nx, op_addI, op_subI, cmp_lt, cmp_le, cmp_gt, cmp_ge, cmp_eqI, cmp_neI, cmp_eqB, cmp_neB, aug_add, ix_of, cmp_isN, cmp_isNotN, bi_lenL, bi_lenT, bi_listL, bi_listT, bi_tupL, bi_tupT, bi_sum, bi_int, bi_all, bi_any, items_L, items_T, dat_d, own_d, at0, at1, at2, al0, al1,  List.getD_cons_zero, List.getD_cons_succ, List.set_cons_zero, List.set_cons_succ, List.length_cons, List.length_nil, Option.map_some, Option.bind_some, Option.map_none, reduceIte, Nat.reduceLT, Nat.reduceAdd, wipeE, List.length_map, List.getElem?_cons_zero, List.getElem?_cons_succ, bind_dP, at0d, at1d, at2d, cut2d, ite_and, ite_or, ite_int, ownC_own, ownD_some, set5_1, set5_2, set5_3, at5_0, at5_1, at5_2, at5_3, at5_4, Int.reduceLT, Int.reduceLE, Int.reduceNeg, and_self, true_and, op_mulI, op_mod, op_div, decide_true, decide_false, Bool.false_eq_true, if_false, if_true]
  obtain ⟨e', h1, s, t, c', rfl⟩ := forL_ok (f := forB (rn k) nm.gv (.nm 3) (.cons (.set 1 (.bin .Mod (.bi .int (.bin .Add (.bin .Add (.bin .Mult (.var 1) (.lit (.int 48271))) (.lit (.int 12345))) (.var 3))) (.lit (.int 2147483647)))) <| .cons (.set 2 (.bin .Add (.bin .Mult (.var 2) (.lit (.int 2147483647))) (.var 1))) .nil)) (enc := Z.D.int) (xs := rng 4) (e := [.dat (.int c), .dat (.int (c % 2147483647)), .dat (.int 1), .no])
    (I := fun _ e => ∃ s t c', e = [.dat (.int c), .dat (.int s), .dat (.int t), c']) ⟨_, _, _, rfl⟩ (fun pre x post hx e he => by
      obtain ⟨s, t, c', rfl⟩ := he
      rw [forB_some (bind_nm (by simp))]
      simp -implicitDefEqProofs only [evO_some, bnd_ok, bnd_ex, lift_some, liftC_dat, liftC_own, fl_ok, fl_ex, then_nx, then_rt, then_ex, data_dat, data_own, data_ex, truth_ok, truth_ex, readC_dat, readC_own, peekC_dat, peekC_own, ev_var, ev_lit, ev_gc, ev_fnm, ev_bin, ev_not, ev_and, ev_or, ev_cmp, ev_chn, ev_ite, ev_tup, ev_lst, ev_idx, ev_vix, ev_vln, ev_vcl, ev_vcr, ev_slc, ev_rev, ev_app, ev_appP, ev_bi, ev_mn, ev_rgl, ev_rgt, ev_isi, ev_mth, ev_neg, evs_nil, evs_cons, evo_non, evo_som, evc_non, evc_som, evi_seq, evi_rng, callR_dat, callR_own, callR_ex, callA_eq, callP_own, callRp_ok, callRp_ex, putP_own, xss_nil, xss_cons, xs_set, stC_ok, bindS_some, xs_asg, xs_tpar, bind_nm, bind_tp, binds_nil, binds_cons, ownC_some, ownQ_own, ownAt_eq, xs_sti, xs_aug, xs_apd, xs_xtd, xs_exp, xs_iff, xs_for, xs_whl, xs_ret, xs_rse, xs_pas, xs_try, tryE_rt, tryE_nx, tryE_ex, fin_rt, fin_nx, fin_ex, finP_rt, finP_nx, op_addI, op_subI, cmp_lt, cmp_le, cmp_gt, cmp_ge, cmp_eqI, cmp_neI, cmp_eqB, cmp_neB, aug_add, ix_of, cmp_isN, cmp_isNotN, bi_lenL, bi_lenT, bi_listL, bi_listT, bi_tupL, bi_tupT, bi_sum, bi_int, bi_all, bi_any, items_L, items_T, dat_d, own_d, at0, at1, at2, al0, al1,  List.getD_cons_zero, List.getD_cons_succ, List.set_cons_zero, List.set_cons_succ, List.length_cons, List.length_nil, Option.map_some, Option.bind_some, Option.map_none, reduceIte, Nat.reduceLT, Nat.reduceAdd, wipeE, List.length_map, List.getElem?_cons_zero, List.getElem?_cons_succ, bind_dP, at0d, at1d, at2d, cut2d, ite_and, ite_or, ite_int, ownC_own, ownD_some, set5_1, set5_2, set5_3, at5_0, at5_1, at5_2, at5_3, at5_4, Int.reduceLT, Int.reduceLE, Int.reduceNeg, and_self, true_and, op_mulI, op_mod, op_div, decide_true, decide_false, Bool.false_eq_true, if_false, if_true]
      exact ⟨_, rfl, _, _, _, rfl⟩)
  rw [h1]
  simp -implicitDefEqProofs only [evO_some, bnd_ok, bnd_ex, lift_some, liftC_dat, liftC_own, fl_ok, fl_ex, then_nx, then_rt, then_ex, data_dat, data_own, data_ex, truth_ok, truth_ex, readC_dat, readC_own, peekC_dat, peekC_own, ev_var, ev_lit, ev_gc, ev_fnm, ev_bin, ev_not, ev_and, ev_or, ev_cmp, ev_chn, ev_ite, ev_tup, ev_lst, ev_idx, ev_vix, ev_vln, ev_vcl, ev_vcr, ev_slc, ev_rev, ev_app, ev_appP, ev_bi, ev_mn, ev_rgl, ev_rgt, ev_isi, ev_mth, ev_neg, evs_nil, evs_cons, evo_non, evo_som, evc_non, evc_som, evi_seq, evi_rng, callR_dat, callR_own, callR_ex, callA_eq, callP_own, callRp_ok, callRp_ex, putP_own, xss_nil, xss_cons, xs_set, stC_ok, bindS_some, xs_asg, xs_tpar, bind_nm, bind_tp, binds_nil, binds_cons, ownC_some, ownQ_own, ownAt_eq, xs_sti, xs_aug, xs_apd, xs_xtd, xs_exp, xs_iff, xs_for, xs_whl, xs_ret, xs_rse, xs_pas, xs_try, tryE_rt, tryE_nx, tryE_ex, fin_rt, fin_nx, fin_ex, finP_rt, finP_nx, op_addI, op_subI, cmp_lt, cmp_le, cmp_gt, cmp_ge, cmp_eqI, cmp_neI, cmp_eqB, cmp_neB, aug_add, ix_of, cmp_isN, cmp_isNotN, bi_lenL, bi_lenT, bi_listL, bi_listT, bi_tupL, bi_tupT, bi_sum, bi_int, bi_all, bi_any, items_L, items_T, dat_d, own_d, at0, at1, at2, al0, al1,  List.getD_cons_zero, List.getD_cons_succ, List.set_cons_zero, List.set_cons_succ, List.length_cons, List.length_nil, Option.map_some, Option.bind_some, Option.map_none, reduceIte, Nat.reduceLT, Nat.reduceAdd, wipeE, List.length_map, List.getElem?_cons_zero, List.getElem?_cons_succ, bind_dP, at0d, at1d, at2d, cut2d, ite_and, ite_or, ite_int, ownC_own, ownD_some, set5_1, set5_2, set5_3, at5_0, at5_1, at5_2, at5_3, at5_4, Int.reduceLT, Int.reduceLE, Int.reduceNeg, and_self, true_and, op_mulI, op_mod, op_div, decide_true, decide_false, Bool.false_eq_true, if_false, if_true]
  exact ⟨_, rfl⟩

theorem sp__law_draw {k : Nat} {q : List DD} {many : Int} (h : PoolOk q) (h0 : 0 < many) (h1 : many < 1000000) : ∃ (v : Int) (q' : List DD), rn (k + 2) i__law_draw (some q) [.int many] = .ok (.dat (.int v)) q' ∧ 0 ≤ v ∧ v < many ∧ PoolOk q' := by
  obtain ⟨ns, a, b, c, s, rfl, ha⟩ := h
  rw [st__law_draw, b__law_draw]
  have h2 : many < 1073741824 := by omega
  -- the last part
  have last : ∀ (a b : Int) (x y : Cl), 0 ≤ a → ∃ (v : Int) (q' : List DD), finF true ((xss (rn (k + 1)) nm.gv (.cons (.sti 0 (.lit (.int 3)) (.bin .Add (.vix 0 (.lit (.int 3))) (.lit (.int 1)))) <|
  .cons (.iff (.cmp .LtE (.vix 0 (.lit (.int 2))) (.lit (.int 0))) (.cons (.set 4 (.bin .Mod (.bi .int (.bin .Add (.bin .Add (.bin .Mult (.vix 0 (.lit (.int 4))) (.lit (.int 48271))) (.bin .Mult (.vix 0 (.lit (.int 3))) (.lit (.int 69621)))) (.lit (.int 1)))) (.lit (.int 2147483647)))) <|
    .cons (.set 4 (.bin .Mod (.bi .int (.bin .Add (.bin .Mult (.var 4) (.lit (.int 16807))) (.vix 0 (.lit (.int 3))))) (.lit (.int 2147483629)))) <|
    .cons (.ret (.bin .Mod (.bin .FloorDiv (.var 4) (.lit (.int 5))) (.var 1))) <|
    .nil)
    (.nil)) <|
  .cons (.set 2 (.bin .Mod (.bi .int (.vix 0 (.lit (.int 2)))) (.var 1))) <|
  .cons (.sti 0 (.lit (.int 2)) (.bin .FloorDiv (.vix 0 (.lit (.int 2))) (.var 1))) <|
  .cons (.ret (.var 2)) <|
  .nil) [.own true [.lst (ns.map .int), .int a, .int b, .int c, .int s], .dat (.int many), .no, x, y])) = .ok (.dat (.int v)) q' ∧ 0 ≤ v ∧ v < many ∧ PoolOk q' := by
    intro a b x y ha
    by_cases hb : b ≤ 0
    · simp -implicitDefEqProofs only [evO_some, bnd_ok, bnd_ex, lift_some, liftC_dat, liftC_own, fl_ok, fl_ex, then_nx, then_rt, then_ex, data_dat, data_own, data_ex, truth_ok, truth_ex, readC_dat, readC_own, peekC_dat, peekC_own, ev_var, ev_lit, ev_gc, ev_fnm, ev_bin, ev_not, ev_and, ev_or, ev_cmp, ev_chn, ev_ite, ev_tup, ev_lst, ev_idx, ev_vix, ev_vln, ev_vcl, ev_vcr, ev_slc, ev_rev, ev_app, ev_appP, ev_bi, ev_mn, ev_rgl, ev_rgt, ev_isi, ev_mth, ev_neg, evs_nil, evs_cons, evo_non, evo_som, evc_non, evc_som, evi_seq, evi_rng, callR_dat, callR_own, callR_ex, callA_eq, callP_own, callRp_ok, callRp_ex, putP_own, xss_nil, xss_cons, xs_set, stC_ok, bindS_some, xs_asg, xs_tpar, bind_nm, bind_tp, binds_nil, binds_cons, ownC_some, ownQ_own, ownAt_eq, xs_sti, xs_aug, xs_apd, xs_xtd, xs_exp, xs_iff, xs_for, xs_whl, xs_ret, xs_rse, xs_pas, xs_try, tryE_rt, tryE_nx, tryE_ex, fin_rt, fin_nx, fin_ex, finP_rt, finP_nx, op_addI, op_subI, cmp_lt, cmp_le, cmp_gt, cmp_ge, cmp_eqI, cmp_neI, cmp_eqB, cmp_neB, aug_add, ix_of, cmp_isN, cmp_isNotN, bi_lenL, bi_lenT, bi_listL, bi_listT, bi_tupL, bi_tupT, bi_sum, bi_int, bi_all, bi_any, items_L, items_T, dat_d, own_d, at0, at1, at2, al0, al1,  List.getD_cons_zero, List.getD_cons_succ, List.set_cons_zero, List.set_cons_succ, List.length_cons, List.length_nil, Option.map_some, Option.bind_some, Option.map_none, reduceIte, Nat.reduceLT, Nat.reduceAdd, wipeE, List.length_map, List.getElem?_cons_zero, List.getElem?_cons_succ, bind_dP, at0d, at1d, at2d, cut2d, ite_and, ite_or, ite_int, ownC_own, ownD_some, set5_1, set5_2, set5_3, at5_0, at5_1, at5_2, at5_3, at5_4, Int.reduceLT, Int.reduceLE, Int.reduceNeg, and_self, true_and, op_mulI, op_mod, op_div, decide_true, decide_false, Bool.false_eq_true, if_false, if_true, hb, h0, h2]
      exact ⟨_, _, rfl, Int.emod_nonneg _ (by omega), Int.emod_lt_of_pos _ h0, ns, a, b, _, s, rfl, ha⟩
    · simp -implicitDefEqProofs only [evO_some, bnd_ok, bnd_ex, lift_some, liftC_dat, liftC_own, fl_ok, fl_ex, then_nx, then_rt, then_ex, data_dat, data_own, data_ex, truth_ok, truth_ex, readC_dat, readC_own, peekC_dat, peekC_own, ev_var, ev_lit, ev_gc, ev_fnm, ev_bin, ev_not, ev_and, ev_or, ev_cmp, ev_chn, ev_ite, ev_tup, ev_lst, ev_idx, ev_vix, ev_vln, ev_vcl, ev_vcr, ev_slc, ev_rev, ev_app, ev_appP, ev_bi, ev_mn, ev_rgl, ev_rgt, ev_isi, ev_mth, ev_neg, evs_nil, evs_cons, evo_non, evo_som, evc_non, evc_som, evi_seq, evi_rng, callR_dat, callR_own, callR_ex, callA_eq, callP_own, callRp_ok, callRp_ex, putP_own, xss_nil, xss_cons, xs_set, stC_ok, bindS_some, xs_asg, xs_tpar, bind_nm, bind_tp, binds_nil, binds_cons, ownC_some, ownQ_own, ownAt_eq, xs_sti, xs_aug, xs_apd, xs_xtd, xs_exp, xs_iff, xs_for, xs_whl, xs_ret, xs_rse, xs_pas, xs_try, tryE_rt, tryE_nx, tryE_ex, fin_rt, fin_nx, fin_ex, finP_rt, finP_nx, op_addI, op_subI, cmp_lt, cmp_le, cmp_gt, cmp_ge, cmp_eqI, cmp_neI, cmp_eqB, cmp_neB, aug_add, ix_of, cmp_isN, cmp_isNotN, bi_lenL, bi_lenT, bi_listL, bi_listT, bi_tupL, bi_tupT, bi_sum, bi_int, bi_all, bi_any, items_L, items_T, dat_d, own_d, at0, at1, at2, al0, al1,  List.getD_cons_zero, List.getD_cons_succ, List.set_cons_zero, List.set_cons_succ, List.length_cons, List.length_nil, Option.map_some, Option.bind_some, Option.map_none, reduceIte, Nat.reduceLT, Nat.reduceAdd, wipeE, List.length_map, List.getElem?_cons_zero, List.getElem?_cons_succ, bind_dP, at0d, at1d, at2d, cut2d, ite_and, ite_or, ite_int, ownC_own, ownD_some, set5_1, set5_2, set5_3, at5_0, at5_1, at5_2, at5_3, at5_4, Int.reduceLT, Int.reduceLE, Int.reduceNeg, and_self, true_and, op_mulI, op_mod, op_div, decide_true, decide_false, Bool.false_eq_true, if_false, if_true, hb, h0, h2]
      exact ⟨_, _, rfl, Int.emod_nonneg _ (by omega), Int.emod_lt_of_pos _ h0, ns, a, _, _, s, rfl, ha⟩
  by_cases hb : b ≤ 0
  · by_cases hl : a < ns.length
    · have g1 : atD (.lst (ns.map Z.D.int)) (.int a) = some (.int (at' ns a)) := atD_int ha hl
      by_cases hc : at' ns a < 1000000000000000000
      · obtain ⟨v, hv⟩ := sp__law_spread (k := k) (c := at' ns a)
        rw [xss_cons]
        simp -implicitDefEqProofs only [evO_some, bnd_ok, bnd_ex, lift_some, liftC_dat, liftC_own, fl_ok, fl_ex, then_nx, then_rt, then_ex, data_dat, data_own, data_ex, truth_ok, truth_ex, readC_dat, readC_own, peekC_dat, peekC_own, ev_var, ev_lit, ev_gc, ev_fnm, ev_bin, ev_not, ev_and, ev_or, ev_cmp, ev_chn, ev_ite, ev_tup, ev_lst, ev_idx, ev_vix, ev_vln, ev_vcl, ev_vcr, ev_slc, ev_rev, ev_app, ev_appP, ev_bi, ev_mn, ev_rgl, ev_rgt, ev_isi, ev_mth, ev_neg, evs_nil, evs_cons, evo_non, evo_som, evc_non, evc_som, evi_seq, evi_rng, callR_dat, callR_own, callR_ex, callA_eq, callP_own, callRp_ok, callRp_ex, putP_own, xss_nil, xss_cons, xs_set, stC_ok, bindS_some, xs_asg, xs_tpar, bind_nm, bind_tp, binds_nil, binds_cons, ownC_some, ownQ_own, ownAt_eq, xs_sti, xs_aug, xs_apd, xs_xtd, xs_exp, xs_iff, xs_for, xs_whl, xs_ret, xs_rse, xs_pas, xs_try, tryE_rt, tryE_nx, tryE_ex, fin_rt, fin_nx, fin_ex, finP_rt, finP_nx, op_addI, op_subI, cmp_lt, cmp_le, cmp_gt, cmp_ge, cmp_eqI, cmp_neI, cmp_eqB, cmp_neB, aug_add, ix_of, cmp_isN, cmp_isNotN, bi_lenL, bi_lenT, bi_listL, bi_listT, bi_tupL, bi_tupT, bi_sum, bi_int, bi_all, bi_any, items_L, items_T, dat_d, own_d, at0, at1, at2, al0, al1,  List.getD_cons_zero, List.getD_cons_succ, List.set_cons_zero, List.set_cons_succ, List.length_cons, List.length_nil, Option.map_some, Option.bind_some, Option.map_none, reduceIte, Nat.reduceLT, Nat.reduceAdd, wipeE, List.length_map, List.getElem?_cons_zero, List.getElem?_cons_succ, bind_dP, at0d, at1d, at2d, cut2d, ite_and, ite_or, ite_int, ownC_own, ownD_some, set5_1, set5_2, set5_3, at5_0, at5_1, at5_2, at5_3, at5_4, Int.reduceLT, Int.reduceLE, Int.reduceNeg, and_self, true_and, op_mulI, op_mod, op_div, decide_true, decide_false, Bool.false_eq_true, if_false, if_true, hb, hl, g1, hc, hv]
        have := last (a + 1) v (.dat (.int (at' ns a))) .no (by omega)
        simp -implicitDefEqProofs only [evO_some, bnd_ok, bnd_ex, lift_some, liftC_dat, liftC_own, fl_ok, fl_ex, then_nx, then_rt, then_ex, data_dat, data_own, data_ex, truth_ok, truth_ex, readC_dat, readC_own, peekC_dat, peekC_own, ev_var, ev_lit, ev_gc, ev_fnm, ev_bin, ev_not, ev_and, ev_or, ev_cmp, ev_chn, ev_ite, ev_tup, ev_lst, ev_idx, ev_vix, ev_vln, ev_vcl, ev_vcr, ev_slc, ev_rev, ev_app, ev_appP, ev_bi, ev_mn, ev_rgl, ev_rgt, ev_isi, ev_mth, ev_neg, evs_nil, evs_cons, evo_non, evo_som, evc_non, evc_som, evi_seq, evi_rng, callR_dat, callR_own, callR_ex, callA_eq, callP_own, callRp_ok, callRp_ex, putP_own, xss_nil, xss_cons, xs_set, stC_ok, bindS_some, xs_asg, xs_tpar, bind_nm, bind_tp, binds_nil, binds_cons, ownC_some, ownQ_own, ownAt_eq, xs_sti, xs_aug, xs_apd, xs_xtd, xs_exp, xs_iff, xs_for, xs_whl, xs_ret, xs_rse, xs_pas, xs_try, tryE_rt, tryE_nx, tryE_ex, fin_rt, fin_nx, fin_ex, finP_rt, finP_nx, op_addI, op_subI, cmp_lt, cmp_le, cmp_gt, cmp_ge, cmp_eqI, cmp_neI, cmp_eqB, cmp_neB, aug_add, ix_of, cmp_isN, cmp_isNotN, bi_lenL, bi_lenT, bi_listL, bi_listT, bi_tupL, bi_tupT, bi_sum, bi_int, bi_all, bi_any, items_L, items_T, dat_d, own_d, at0, at1, at2, al0, al1,  List.getD_cons_zero, List.getD_cons_succ, List.set_cons_zero, List.set_cons_succ, List.length_cons, List.length_nil, Option.map_some, Option.bind_some, Option.map_none, reduceIte, Nat.reduceLT, Nat.reduceAdd, wipeE, List.length_map, List.getElem?_cons_zero, List.getElem?_cons_succ, bind_dP, at0d, at1d, at2d, cut2d, ite_and, ite_or, ite_int, ownC_own, ownD_some, set5_1, set5_2, set5_3, at5_0, at5_1, at5_2, at5_3, at5_4, Int.reduceLT, Int.reduceLE, Int.reduceNeg, and_self, true_and, op_mulI, op_mod, op_div, decide_true, decide_false, Bool.false_eq_true, if_false, if_true] at this
        exact this
      · rw [xss_cons]
        simp -implicitDefEqProofs only [evO_some, bnd_ok, bnd_ex, lift_some, liftC_dat, liftC_own, fl_ok, fl_ex, then_nx, then_rt, then_ex, data_dat, data_own, data_ex, truth_ok, truth_ex, readC_dat, readC_own, peekC_dat, peekC_own, ev_var, ev_lit, ev_gc, ev_fnm, ev_bin, ev_not, ev_and, ev_or, ev_cmp, ev_chn, ev_ite, ev_tup, ev_lst, ev_idx, ev_vix, ev_vln, ev_vcl, ev_vcr, ev_slc, ev_rev, ev_app, ev_appP, ev_bi, ev_mn, ev_rgl, ev_rgt, ev_isi, ev_mth, ev_neg, evs_nil, evs_cons, evo_non, evo_som, evc_non, evc_som, evi_seq, evi_rng, callR_dat, callR_own, callR_ex, callA_eq, callP_own, callRp_ok, callRp_ex, putP_own, xss_nil, xss_cons, xs_set, stC_ok, bindS_some, xs_asg, xs_tpar, bind_nm, bind_tp, binds_nil, binds_cons, ownC_some, ownQ_own, ownAt_eq, xs_sti, xs_aug, xs_apd, xs_xtd, xs_exp, xs_iff, xs_for, xs_whl, xs_ret, xs_rse, xs_pas, xs_try, tryE_rt, tryE_nx, tryE_ex, fin_rt, fin_nx, fin_ex, finP_rt, finP_nx, op_addI, op_subI, cmp_lt, cmp_le, cmp_gt, cmp_ge, cmp_eqI, cmp_neI, cmp_eqB, cmp_neB, aug_add, ix_of, cmp_isN, cmp_isNotN, bi_lenL, bi_lenT, bi_listL, bi_listT, bi_tupL, bi_tupT, bi_sum, bi_int, bi_all, bi_any, items_L, items_T, dat_d, own_d, at0, at1, at2, al0, al1,  List.getD_cons_zero, List.getD_cons_succ, List.set_cons_zero, List.set_cons_succ, List.length_cons, List.length_nil, Option.map_some, Option.bind_some, Option.map_none, reduceIte, Nat.reduceLT, Nat.reduceAdd, wipeE, List.length_map, List.getElem?_cons_zero, List.getElem?_cons_succ, bind_dP, at0d, at1d, at2d, cut2d, ite_and, ite_or, ite_int, ownC_own, ownD_some, set5_1, set5_2, set5_3, at5_0, at5_1, at5_2, at5_3, at5_4, Int.reduceLT, Int.reduceLE, Int.reduceNeg, and_self, true_and, op_mulI, op_mod, op_div, decide_true, decide_false, Bool.false_eq_true, if_false, if_true, hb, hl, g1, hc]
        have := last (a + 1) (at' ns a) (.dat (.int (at' ns a))) .no (by omega)
        simp -implicitDefEqProofs only [evO_some, bnd_ok, bnd_ex, lift_some, liftC_dat, liftC_own, fl_ok, fl_ex, then_nx, then_rt, then_ex, data_dat, data_own, data_ex, truth_ok, truth_ex, readC_dat, readC_own, peekC_dat, peekC_own, ev_var, ev_lit, ev_gc, ev_fnm, ev_bin, ev_not, ev_and, ev_or, ev_cmp, ev_chn, ev_ite, ev_tup, ev_lst, ev_idx, ev_vix, ev_vln, ev_vcl, ev_vcr, ev_slc, ev_rev, ev_app, ev_appP, ev_bi, ev_mn, ev_rgl, ev_rgt, ev_isi, ev_mth, ev_neg, evs_nil, evs_cons, evo_non, evo_som, evc_non, evc_som, evi_seq, evi_rng, callR_dat, callR_own, callR_ex, callA_eq, callP_own, callRp_ok, callRp_ex, putP_own, xss_nil, xss_cons, xs_set, stC_ok, bindS_some, xs_asg, xs_tpar, bind_nm, bind_tp, binds_nil, binds_cons, ownC_some, ownQ_own, ownAt_eq, xs_sti, xs_aug, xs_apd, xs_xtd, xs_exp, xs_iff, xs_for, xs_whl, xs_ret, xs_rse, xs_pas, xs_try, tryE_rt, tryE_nx, tryE_ex, fin_rt, fin_nx, fin_ex, finP_rt, finP_nx, op_addI, op_subI, cmp_lt, cmp_le, cmp_gt, cmp_ge, cmp_eqI, cmp_neI, cmp_eqB, cmp_neB, aug_add, ix_of, cmp_isN, cmp_isNotN, bi_lenL, bi_lenT, bi_listL, bi_listT, bi_tupL, bi_tupT, bi_sum, bi_int, bi_all, bi_any, items_L, items_T, dat_d, own_d, at0, at1, at2, al0, al1,  List.getD_cons_zero, List.getD_cons_succ, List.set_cons_zero, List.set_cons_succ, List.length_cons, List.length_nil, Option.map_some, Option.bind_some, Option.map_none, reduceIte, Nat.reduceLT, Nat.reduceAdd, wipeE, List.length_map, List.getElem?_cons_zero, List.getElem?_cons_succ, bind_dP, at0d, at1d, at2d, cut2d, ite_and, ite_or, ite_int, ownC_own, ownD_some, set5_1, set5_2, set5_3, at5_0, at5_1, at5_2, at5_3, at5_4, Int.reduceLT, Int.reduceLE, Int.reduceNeg, and_self, true_and, op_mulI, op_mod, op_div, decide_true, decide_false, Bool.false_eq_true, if_false, if_true] at this
        exact this
    · rw [xss_cons]
      simp -implicitDefEqProofs only [evO_some, bnd_ok, bnd_ex, lift_some, liftC_dat, liftC_own, fl_ok, fl_ex, then_nx, then_rt, then_ex, data_dat, data_own, data_ex, truth_ok, truth_ex, readC_dat, readC_own, peekC_dat, peekC_own, ev_var, ev_lit, ev_gc, ev_fnm, ev_bin, ev_not, ev_and, ev_or, ev_cmp, ev_chn, ev_ite, ev_tup, ev_lst, ev_idx, ev_vix, ev_vln, ev_vcl, ev_vcr, ev_slc, ev_rev, ev_app, ev_appP, ev_bi, ev_mn, ev_rgl, ev_rgt, ev_isi, ev_mth, ev_neg, evs_nil, evs_cons, evo_non, evo_som, evc_non, evc_som, evi_seq, evi_rng, callR_dat, callR_own, callR_ex, callA_eq, callP_own, callRp_ok, callRp_ex, putP_own, xss_nil, xss_cons, xs_set, stC_ok, bindS_some, xs_asg, xs_tpar, bind_nm, bind_tp, binds_nil, binds_cons, ownC_some, ownQ_own, ownAt_eq, xs_sti, xs_aug, xs_apd, xs_xtd, xs_exp, xs_iff, xs_for, xs_whl, xs_ret, xs_rse, xs_pas, xs_try, tryE_rt, tryE_nx, tryE_ex, fin_rt, fin_nx, fin_ex, finP_rt, finP_nx, op_addI, op_subI, cmp_lt, cmp_le, cmp_gt, cmp_ge, cmp_eqI, cmp_neI, cmp_eqB, cmp_neB, aug_add, ix_of, cmp_isN, cmp_isNotN, bi_lenL, bi_lenT, bi_listL, bi_listT, bi_tupL, bi_tupT, bi_sum, bi_int, bi_all, bi_any, items_L, items_T, dat_d, own_d, at0, at1, at2, al0, al1,  List.getD_cons_zero, List.getD_cons_succ, List.set_cons_zero, List.set_cons_succ, List.length_cons, List.length_nil, Option.map_some, Option.bind_some, Option.map_none, reduceIte, Nat.reduceLT, Nat.reduceAdd, wipeE, List.length_map, List.getElem?_cons_zero, List.getElem?_cons_succ, bind_dP, at0d, at1d, at2d, cut2d, ite_and, ite_or, ite_int, ownC_own, ownD_some, set5_1, set5_2, set5_3, at5_0, at5_1, at5_2, at5_3, at5_4, Int.reduceLT, Int.reduceLE, Int.reduceNeg, and_self, true_and, op_mulI, op_mod, op_div, decide_true, decide_false, Bool.false_eq_true, if_false, if_true, hb, hl]
      have := last a b .no .no ha
      simp -implicitDefEqProofs only [evO_some, bnd_ok, bnd_ex, lift_some, liftC_dat, liftC_own, fl_ok, fl_ex, then_nx, then_rt, then_ex, data_dat, data_own, data_ex, truth_ok, truth_ex, readC_dat, readC_own, peekC_dat, peekC_own, ev_var, ev_lit, ev_gc, ev_fnm, ev_bin, ev_not, ev_and, ev_or, ev_cmp, ev_chn, ev_ite, ev_tup, ev_lst, ev_idx, ev_vix, ev_vln, ev_vcl, ev_vcr, ev_slc, ev_rev, ev_app, ev_appP, ev_bi, ev_mn, ev_rgl, ev_rgt, ev_isi, ev_mth, ev_neg, evs_nil, evs_cons, evo_non, evo_som, evc_non, evc_som, evi_seq, evi_rng, callR_dat, callR_own, callR_ex, callA_eq, callP_own, callRp_ok, callRp_ex, putP_own, xss_nil, xss_cons, xs_set, stC_ok, bindS_some, xs_asg, xs_tpar, bind_nm, bind_tp, binds_nil, binds_cons, ownC_some, ownQ_own, ownAt_eq, xs_sti, xs_aug, xs_apd, xs_xtd, xs_exp, xs_iff, xs_for, xs_whl, xs_ret, xs_rse, xs_pas, xs_try, tryE_rt, tryE_nx, tryE_ex, fin_rt, fin_nx, fin_ex, finP_rt, finP_nx, op_addI, op_subI, cmp_lt, cmp_le, cmp_gt, cmp_ge, cmp_eqI, cmp_neI, cmp_eqB, cmp_neB, aug_add, ix_of, cmp_isN, cmp_isNotN, bi_lenL, bi_lenT, bi_listL, bi_listT, bi_tupL, bi_tupT, bi_sum, bi_int, bi_all, bi_any, items_L, items_T, dat_d, own_d, at0, at1, at2, al0, al1,  List.getD_cons_zero, List.getD_cons_succ, List.set_cons_zero, List.set_cons_succ, List.length_cons, List.length_nil, Option.map_some, Option.bind_some, Option.map_none, reduceIte, Nat.reduceLT, Nat.reduceAdd, wipeE, List.length_map, List.getElem?_cons_zero, List.getElem?_cons_succ, bind_dP, at0d, at1d, at2d, cut2d, ite_and, ite_or, ite_int, ownC_own, ownD_some, set5_1, set5_2, set5_3, at5_0, at5_1, at5_2, at5_3, at5_4, Int.reduceLT, Int.reduceLE, Int.reduceNeg, and_self, true_and, op_mulI, op_mod, op_div, decide_true, decide_false, Bool.false_eq_true, if_false, if_true, hb] at this
      exact this
  · rw [xss_cons]
    simp -implicitDefEqProofs only [evO_some, bnd_ok, bnd_ex, lift_some, liftC_dat, liftC_own, fl_ok, fl_ex, then_nx, then_rt, then_ex, data_dat, data_own, data_ex, truth_ok, truth_ex, readC_dat, readC_own, peekC_dat, peekC_own, ev_var, ev_lit, ev_gc, ev_fnm, ev_bin, ev_not, ev_and, ev_or, ev_cmp, ev_chn, ev_ite, ev_tup, ev_lst, ev_idx, ev_vix, ev_vln, ev_vcl, ev_vcr, ev_slc, ev_rev, ev_app, ev_appP, ev_bi, ev_mn, ev_rgl, ev_rgt, ev_isi, ev_mth, ev_neg, evs_nil, evs_cons, evo_non, evo_som, evc_non, evc_som, evi_seq, evi_rng, callR_dat, callR_own, callR_ex, callA_eq, callP_own, callRp_ok, callRp_ex, putP_own, xss_nil, xss_cons, xs_set, stC_ok, bindS_some, xs_asg, xs_tpar, bind_nm, bind_tp, binds_nil, binds_cons, ownC_some, ownQ_own, ownAt_eq, xs_sti, xs_aug, xs_apd, xs_xtd, xs_exp, xs_iff, xs_for, xs_whl, xs_ret, xs_rse, xs_pas, xs_try, tryE_rt, tryE_nx, tryE_ex, fin_rt, fin_nx, fin_ex, finP_rt, finP_nx, op_addI, op_subI, cmp_lt, cmp_le, cmp_gt, cmp_ge, cmp_eqI, cmp_neI, cmp_eqB, cmp_neB, aug_add, ix_of, cmp_isN, cmp_isNotN, bi_lenL, bi_lenT, bi_listL, bi_listT, bi_tupL, bi_tupT, bi_sum, bi_int, bi_all, bi_any, items_L, items_T, dat_d, own_d, at0, at1, at2, al0, al1,  List.getD_cons_zero, List.getD_cons_succ, List.set_cons_zero, List.set_cons_succ, List.length_cons, List.length_nil, Option.map_some, Option.bind_some, Option.map_none, reduceIte, Nat.reduceLT, Nat.reduceAdd, wipeE, List.length_map, List.getElem?_cons_zero, List.getElem?_cons_succ, bind_dP, at0d, at1d, at2d, cut2d, ite_and, ite_or, ite_int, ownC_own, ownD_some, set5_1, set5_2, set5_3, at5_0, at5_1, at5_2, at5_3, at5_4, Int.reduceLT, Int.reduceLE, Int.reduceNeg, and_self, true_and, op_mulI, op_mod, op_div, decide_true, decide_false, Bool.false_eq_true, if_false, if_true, hb]
    have := last a b .no .no ha
    simp -implicitDefEqProofs only [evO_some, bnd_ok, bnd_ex, lift_some, liftC_dat, liftC_own, fl_ok, fl_ex, then_nx, then_rt, then_ex, data_dat, data_own, data_ex, truth_ok, truth_ex, readC_dat, readC_own, peekC_dat, peekC_own, ev_var, ev_lit, ev_gc, ev_fnm, ev_bin, ev_not, ev_and, ev_or, ev_cmp, ev_chn, ev_ite, ev_tup, ev_lst, ev_idx, ev_vix, ev_vln, ev_vcl, ev_vcr, ev_slc, ev_rev, ev_app, ev_appP, ev_bi, ev_mn, ev_rgl, ev_rgt, ev_isi, ev_mth, ev_neg, evs_nil, evs_cons, evo_non, evo_som, evc_non, evc_som, evi_seq, evi_rng, callR_dat, callR_own, callR_ex, callA_eq, callP_own, callRp_ok, callRp_ex, putP_own, xss_nil, xss_cons, xs_set, stC_ok, bindS_some, xs_asg, xs_tpar, bind_nm, bind_tp, binds_nil, binds_cons, ownC_some, ownQ_own, ownAt_eq, xs_sti, xs_aug, xs_apd, xs_xtd, xs_exp, xs_iff, xs_for, xs_whl, xs_ret, xs_rse, xs_pas, xs_try, tryE_rt, tryE_nx, tryE_ex, fin_rt, fin_nx, fin_ex, finP_rt, finP_nx, op_addI, op_subI, cmp_lt, cmp_le, cmp_gt, cmp_ge, cmp_eqI, cmp_neI, cmp_eqB, cmp_neB, aug_add, ix_of, cmp_isN, cmp_isNotN, bi_lenL, bi_lenT, bi_listL, bi_listT, bi_tupL, bi_tupT, bi_sum, bi_int, bi_all, bi_any, items_L, items_T, dat_d, own_d, at0, at1, at2, al0, al1,  List.getD_cons_zero, List.getD_cons_succ, List.set_cons_zero, List.set_cons_succ, List.length_cons, List.length_nil, Option.map_some, Option.bind_some, Option.map_none, reduceIte, Nat.reduceLT, Nat.reduceAdd, wipeE, List.length_map, List.getElem?_cons_zero, List.getElem?_cons_succ, bind_dP, at0d, at1d, at2d, cut2d, ite_and, ite_or, ite_int, ownC_own, ownD_some, set5_1, set5_2, set5_3, at5_0, at5_1, at5_2, at5_3, at5_4, Int.reduceLT, Int.reduceLE, Int.reduceNeg, and_self, true_and, op_mulI, op_mod, op_div, decide_true, decide_false, Bool.false_eq_true, if_false, if_true, hb] at this
    exact this

theorem sp__law_shuffled {k : Nat} {q : List DD} {X : DD} {ns : List Int} (h : PoolOk q) (hX : itemsOf X = some (ns.map .int)) (hn : ns.length ≤ 1000) : ∃ (ms : List Int) (q' : List DD), rn (k + 3) i__law_shuffled (some q) [X] = .ok (.dat (dI ms)) q' ∧ ms.Perm ns ∧ PoolOk q' := by
  rw [st__law_shuffled, b__law_shuffled]
  have hl : biD .list X = some (.own false (ns.map .int)) := by
    cases X <;> first | (cases hX; done) | (injection hX with e; rw [e]; rfl)
  simp -implicitDefEqProofs only [evO_some, bnd_ok, bnd_ex, lift_some, liftC_dat, liftC_own, fl_ok, fl_ex, then_nx, then_rt, then_ex, data_dat, data_own, data_ex, truth_ok, truth_ex, readC_dat, readC_own, peekC_dat, peekC_own, ev_var, ev_lit, ev_gc, ev_fnm, ev_bin, ev_not, ev_and, ev_or, ev_cmp, ev_chn, ev_ite, ev_tup, ev_lst, ev_idx, ev_vix, ev_vln, ev_vcl, ev_vcr, ev_slc, ev_rev, ev_app, ev_appP, ev_bi, ev_mn, ev_rgl, ev_rgt, ev_isi, ev_mth, ev_neg, evs_nil, evs_cons, evo_non, evo_som, evc_non, evc_som, evi_seq, evi_rng, callR_dat, callR_own, callR_ex, callA_eq, callP_own, callRp_ok, callRp_ex, putP_own, xss_nil, xss_cons, xs_set, stC_ok, bindS_some, xs_asg, xs_tpar, bind_nm, bind_tp, binds_nil, binds_cons, ownC_some, ownQ_own, ownAt_eq, xs_sti, xs_aug, xs_apd, xs_xtd, xs_exp, xs_iff, xs_for, xs_whl, xs_ret, xs_rse, xs_pas, xs_try, tryE_rt, tryE_nx, tryE_ex, fin_rt, fin_nx, fin_ex, finP_rt, finP_nx, op_addI, op_subI, cmp_lt, cmp_le, cmp_gt, cmp_ge, cmp_eqI, cmp_neI, cmp_eqB, cmp_neB, aug_add, ix_of, cmp_isN, cmp_isNotN, bi_lenL, bi_lenT, bi_listL, bi_listT, bi_tupL, bi_tupT, bi_sum, bi_int, bi_all, bi_any, items_L, items_T, dat_d, own_d, at0, at1, at2, al0, al1,  List.getD_cons_zero, List.getD_cons_succ, List.set_cons_zero, List.set_cons_succ, List.length_cons, List.length_nil, Option.map_some, Option.bind_some, Option.map_none, reduceIte, Nat.reduceLT, Nat.reduceAdd, wipeE, List.length_map, List.getElem?_cons_zero, List.getElem?_cons_succ, bind_dP, at0d, at1d, at2d, cut2d, ite_and, ite_or, ite_int, ownC_own, ownD_some, set5_1, set5_2, set5_3, at5_0, at5_1, at5_2, at5_3, at5_4, Int.reduceLT, Int.reduceLE, Int.reduceNeg, and_self, true_and, op_mulI, op_mod, op_div, decide_true, decide_false, Bool.false_eq_true, if_false, if_true, hl]
  obtain ⟨e', h1, ms, q', c, rfl, p, hq⟩ := whlE_ok (T := rn (k + 2)) (G := nm.gv) (c := .cmp .Gt (.bi .len (.var 2)) (.lit (.int 0))) (u := .cons (.set 4 (.app i__law_draw (some 0) (.cons (.bi .len (.var 2)) .nil))) <|
    .cons (.apd 3 (.idx (.var 2) (.var 4))) <|
    .cons (.set 2 (.bin .Add (.slc (.var 2) .non (.som (.var 4))) (.slc (.var 2) (.som (.bin .Add (.var 4) (.lit (.int 1)))) .non))) <|
    .nil) (n := ns.length) (e := [.own true q, .dat X, .own false (ns.map .int), .own false [], .no])
    (I := fun n e => ∃ (ls ms : List Int) (q' : List DD) (c : Cl), e = [.own true q', .dat X, .own false (ls.map .int), .own false (ms.map .int), c] ∧ (ls ++ ms).Perm ns ∧ PoolOk q' ∧ n = ls.length)
    (Dn := fun e => ∃ (ms : List Int) (q' : List DD) (c : Cl), e = [.own true q', .dat X, .dat (.lst []), .own false (ms.map .int), c] ∧ ms.Perm ns ∧ PoolOk q')
    (fun n e he => by
      obtain ⟨ls, ms, q', c, rfl, p, hq, rfl⟩ := he
      cases ls with
      | nil =>
        refine .inl ⟨_, ?_, ms, q', c, rfl, by simpa using p, hq⟩
        simp -implicitDefEqProofs only [evO_some, bnd_ok, bnd_ex, lift_some, liftC_dat, liftC_own, fl_ok, fl_ex, then_nx, then_rt, then_ex, data_dat, data_own, data_ex, truth_ok, truth_ex, readC_dat, readC_own, peekC_dat, peekC_own, ev_var, ev_lit, ev_gc, ev_fnm, ev_bin, ev_not, ev_and, ev_or, ev_cmp, ev_chn, ev_ite, ev_tup, ev_lst, ev_idx, ev_vix, ev_vln, ev_vcl, ev_vcr, ev_slc, ev_rev, ev_app, ev_appP, ev_bi, ev_mn, ev_rgl, ev_rgt, ev_isi, ev_mth, ev_neg, evs_nil, evs_cons, evo_non, evo_som, evc_non, evc_som, evi_seq, evi_rng, callR_dat, callR_own, callR_ex, callA_eq, callP_own, callRp_ok, callRp_ex, putP_own, xss_nil, xss_cons, xs_set, stC_ok, bindS_some, xs_asg, xs_tpar, bind_nm, bind_tp, binds_nil, binds_cons, ownC_some, ownQ_own, ownAt_eq, xs_sti, xs_aug, xs_apd, xs_xtd, xs_exp, xs_iff, xs_for, xs_whl, xs_ret, xs_rse, xs_pas, xs_try, tryE_rt, tryE_nx, tryE_ex, fin_rt, fin_nx, fin_ex, finP_rt, finP_nx, op_addI, op_subI, cmp_lt, cmp_le, cmp_gt, cmp_ge, cmp_eqI, cmp_neI, cmp_eqB, cmp_neB, aug_add, ix_of, cmp_isN, cmp_isNotN, bi_lenL, bi_lenT, bi_listL, bi_listT, bi_tupL, bi_tupT, bi_sum, bi_int, bi_all, bi_any, items_L, items_T, dat_d, own_d, at0, at1, at2, al0, al1,  List.getD_cons_zero, List.getD_cons_succ, List.set_cons_zero, List.set_cons_succ, List.length_cons, List.length_nil, Option.map_some, Option.bind_some, Option.map_none, reduceIte, Nat.reduceLT, Nat.reduceAdd, wipeE, List.length_map, List.getElem?_cons_zero, List.getElem?_cons_succ, bind_dP, at0d, at1d, at2d, cut2d, ite_and, ite_or, ite_int, ownC_own, ownD_some, set5_1, set5_2, set5_3, at5_0, at5_1, at5_2, at5_3, at5_4, Int.reduceLT, Int.reduceLE, Int.reduceNeg, and_self, true_and, op_mulI, op_mod, op_div, decide_true, decide_false, Bool.false_eq_true, if_false, if_true]
        rfl
      | cons x ls =>
        right
        have hlen : (x :: ls).length ≤ 1000 := by have := p.length_eq; simp only [List.length_append] at this; omega
        have h0 : (0 : Int) < ((x :: ls).length : Int) := by rw [List.length_cons]; omega
        obtain ⟨v, q2, d1, d2, d3, d4⟩ := sp__law_draw (k := k) hq h0 (by omega)
        have hv : v.toNat < (x :: ls).length := by omega
        have g1 : atD (.lst ((x :: ls).map Z.D.int)) (.int v) = some (.int ((x :: ls)[v.toNat])) := at_lst d2 (by rw [List.getElem?_map, List.getElem?_eq_getElem hv]; rfl)
        have g2 : decide ((0 : Int) < ((x :: ls).length : Int)) = true := by simpa using h0
        have g3 := cut_takeL (ds := (x :: ls).map Z.D.int) d2
        have g4 := cut_dropL (ds := (x :: ls).map Z.D.int) (i := v + 1) (by omega)
        have g5 : ms.length ≤ 1000 := by have := p.length_eq; simp only [List.length_append] at this; omega
        have ev1 : (v + 1).toNat = v.toNat + 1 := by omega
        have g6 : opD .Add (.lst (((x :: ls).map Z.D.int).take v.toNat)) (.lst (((x :: ls).map Z.D.int).drop (v.toNat + 1))) = some (.own false (((x :: ls).take v.toNat ++ (x :: ls).drop (v.toNat + 1)).map .int)) := by
          rw [op_addL (by rw [List.length_take, List.length_drop, List.length_map]; omega), List.map_append, List.map_take, List.map_drop]
        have hlist : (x :: ls) = (x :: ls).take v.toNat ++ (x :: ls)[v.toNat] :: (x :: ls).drop (v.toNat + 1) := by
          rw [List.getElem_cons_drop, List.take_append_drop]
        have hml : (ms.map Z.D.int).length < LIM := by rw [List.length_map]; unfold LIM; omega
        rw [ev1] at g4
        have d1' : Z.run Pt nm.gv (k + 2) i__law_draw (some q') [.int ((ls.length + 1 : Nat) : Int)] = .ok (.dat (.int v)) q2 := d1
        refine ⟨[.own true q', .dat X, .dat (.lst ((x :: ls).map .int)), .own false (ms.map .int), c], [.own true q2, .dat X, .own false (((x :: ls).take v.toNat ++ (x :: ls).drop (v.toNat + 1)).map .int), .own false ((ms ++ [(x :: ls)[v.toNat]]).map .int), .dat (.int v)], ls.length, ?_, ?_, by rw [List.length_cons]; omega, _, _, _, _, rfl, ?_, d4, ?_⟩
        · rw [List.length_cons] at g2
          simp -implicitDefEqProofs only [evO_some, bnd_ok, bnd_ex, lift_some, liftC_dat, liftC_own, fl_ok, fl_ex, then_nx, then_rt, then_ex, data_dat, data_own, data_ex, truth_ok, truth_ex, readC_dat, readC_own, peekC_dat, peekC_own, ev_var, ev_lit, ev_gc, ev_fnm, ev_bin, ev_not, ev_and, ev_or, ev_cmp, ev_chn, ev_ite, ev_tup, ev_lst, ev_idx, ev_vix, ev_vln, ev_vcl, ev_vcr, ev_slc, ev_rev, ev_app, ev_appP, ev_bi, ev_mn, ev_rgl, ev_rgt, ev_isi, ev_mth, ev_neg, evs_nil, evs_cons, evo_non, evo_som, evc_non, evc_som, evi_seq, evi_rng, callR_dat, callR_own, callR_ex, callA_eq, callP_own, callRp_ok, callRp_ex, putP_own, xss_nil, xss_cons, xs_set, stC_ok, bindS_some, xs_asg, xs_tpar, bind_nm, bind_tp, binds_nil, binds_cons, ownC_some, ownQ_own, ownAt_eq, xs_sti, xs_aug, xs_apd, xs_xtd, xs_exp, xs_iff, xs_for, xs_whl, xs_ret, xs_rse, xs_pas, xs_try, tryE_rt, tryE_nx, tryE_ex, fin_rt, fin_nx, fin_ex, finP_rt, finP_nx, op_addI, op_subI, cmp_lt, cmp_le, cmp_gt, cmp_ge, cmp_eqI, cmp_neI, cmp_eqB, cmp_neB, aug_add, ix_of, cmp_isN, cmp_isNotN, bi_lenL, bi_lenT, bi_listL, bi_listT, bi_tupL, bi_tupT, bi_sum, bi_int, bi_all, bi_any, items_L, items_T, dat_d, own_d, at0, at1, at2, al0, al1,  List.getD_cons_zero, List.getD_cons_succ, List.set_cons_zero, List.set_cons_succ, List.length_cons, List.length_nil, Option.map_some, Option.bind_some, Option.map_none, reduceIte, Nat.reduceLT, Nat.reduceAdd, wipeE, List.length_map, List.getElem?_cons_zero, List.getElem?_cons_succ, bind_dP, at0d, at1d, at2d, cut2d, ite_and, ite_or, ite_int, ownC_own, ownD_some, set5_1, set5_2, set5_3, at5_0, at5_1, at5_2, at5_3, at5_4, Int.reduceLT, Int.reduceLE, Int.reduceNeg, and_self, true_and, op_mulI, op_mod, op_div, decide_true, decide_false, Bool.false_eq_true, if_false, if_true, g2]
        · have hms : ms.length < LIM := by unfold LIM; omega
          rw [List.map_append (f := Z.D.int) (l₁ := ms)]
          simp -implicitDefEqProofs only [evO_some, bnd_ok, bnd_ex, lift_some, liftC_dat, liftC_own, fl_ok, fl_ex, then_nx, then_rt, then_ex, data_dat, data_own, data_ex, truth_ok, truth_ex, readC_dat, readC_own, peekC_dat, peekC_own, ev_var, ev_lit, ev_gc, ev_fnm, ev_bin, ev_not, ev_and, ev_or, ev_cmp, ev_chn, ev_ite, ev_tup, ev_lst, ev_idx, ev_vix, ev_vln, ev_vcl, ev_vcr, ev_slc, ev_rev, ev_app, ev_appP, ev_bi, ev_mn, ev_rgl, ev_rgt, ev_isi, ev_mth, ev_neg, evs_nil, evs_cons, evo_non, evo_som, evc_non, evc_som, evi_seq, evi_rng, callR_dat, callR_own, callR_ex, callA_eq, callP_own, callRp_ok, callRp_ex, putP_own, xss_nil, xss_cons, xs_set, stC_ok, bindS_some, xs_asg, xs_tpar, bind_nm, bind_tp, binds_nil, binds_cons, ownC_some, ownQ_own, ownAt_eq, xs_sti, xs_aug, xs_apd, xs_xtd, xs_exp, xs_iff, xs_for, xs_whl, xs_ret, xs_rse, xs_pas, xs_try, tryE_rt, tryE_nx, tryE_ex, fin_rt, fin_nx, fin_ex, finP_rt, finP_nx, op_addI, op_subI, cmp_lt, cmp_le, cmp_gt, cmp_ge, cmp_eqI, cmp_neI, cmp_eqB, cmp_neB, aug_add, ix_of, cmp_isN, cmp_isNotN, bi_lenL, bi_lenT, bi_listL, bi_listT, bi_tupL, bi_tupT, bi_sum, bi_int, bi_all, bi_any, items_L, items_T, dat_d, own_d, at0, at1, at2, al0, al1,  List.getD_cons_zero, List.getD_cons_succ, List.set_cons_zero, List.set_cons_succ, List.length_cons, List.length_nil, Option.map_some, Option.bind_some, Option.map_none, reduceIte, Nat.reduceLT, Nat.reduceAdd, wipeE, List.length_map, List.getElem?_cons_zero, List.getElem?_cons_succ, bind_dP, at0d, at1d, at2d, cut2d, ite_and, ite_or, ite_int, ownC_own, ownD_some, set5_1, set5_2, set5_3, at5_0, at5_1, at5_2, at5_3, at5_4, Int.reduceLT, Int.reduceLE, Int.reduceNeg, and_self, true_and, op_mulI, op_mod, op_div, decide_true, decide_false, Bool.false_eq_true, if_false, if_true, d1', g1, g3, g4, ev1, g6, hms]
          rfl
        · have hp : ((x :: ls).take v.toNat ++ (x :: ls)[v.toNat] :: (x :: ls).drop (v.toNat + 1)).Perm ((x :: ls)[v.toNat] :: ((x :: ls).take v.toNat ++ (x :: ls).drop (v.toNat + 1))) := List.perm_middle
          rw [← hlist] at hp
          refine List.Perm.trans ?_ p
          refine List.Perm.trans ?_ (hp.append_right ms).symm
          rw [← List.append_assoc]
          exact List.perm_append_singleton _ _
        · rw [List.length_append, List.length_take, List.length_drop, List.length_cons] at *
          omega) ⟨ns, [], q, .no, rfl, by simp, h, rfl⟩ (by omega)
  rw [h1]
  simp -implicitDefEqProofs only [evO_some, bnd_ok, bnd_ex, lift_some, liftC_dat, liftC_own, fl_ok, fl_ex, then_nx, then_rt, then_ex, data_dat, data_own, data_ex, truth_ok, truth_ex, readC_dat, readC_own, peekC_dat, peekC_own, ev_var, ev_lit, ev_gc, ev_fnm, ev_bin, ev_not, ev_and, ev_or, ev_cmp, ev_chn, ev_ite, ev_tup, ev_lst, ev_idx, ev_vix, ev_vln, ev_vcl, ev_vcr, ev_slc, ev_rev, ev_app, ev_appP, ev_bi, ev_mn, ev_rgl, ev_rgt, ev_isi, ev_mth, ev_neg, evs_nil, evs_cons, evo_non, evo_som, evc_non, evc_som, evi_seq, evi_rng, callR_dat, callR_own, callR_ex, callA_eq, callP_own, callRp_ok, callRp_ex, putP_own, xss_nil, xss_cons, xs_set, stC_ok, bindS_some, xs_asg, xs_tpar, bind_nm, bind_tp, binds_nil, binds_cons, ownC_some, ownQ_own, ownAt_eq, xs_sti, xs_aug, xs_apd, xs_xtd, xs_exp, xs_iff, xs_for, xs_whl, xs_ret, xs_rse, xs_pas, xs_try, tryE_rt, tryE_nx, tryE_ex, fin_rt, fin_nx, fin_ex, finP_rt, finP_nx, op_addI, op_subI, cmp_lt, cmp_le, cmp_gt, cmp_ge, cmp_eqI, cmp_neI, cmp_eqB, cmp_neB, aug_add, ix_of, cmp_isN, cmp_isNotN, bi_lenL, bi_lenT, bi_listL, bi_listT, bi_tupL, bi_tupT, bi_sum, bi_int, bi_all, bi_any, items_L, items_T, dat_d, own_d, at0, at1, at2, al0, al1,  List.getD_cons_zero, List.getD_cons_succ, List.set_cons_zero, List.set_cons_succ, List.length_cons, List.length_nil, Option.map_some, Option.bind_some, Option.map_none, reduceIte, Nat.reduceLT, Nat.reduceAdd, wipeE, List.length_map, List.getElem?_cons_zero, List.getElem?_cons_succ, bind_dP, at0d, at1d, at2d, cut2d, ite_and, ite_or, ite_int, ownC_own, ownD_some, set5_1, set5_2, set5_3, at5_0, at5_1, at5_2, at5_3, at5_4, Int.reduceLT, Int.reduceLE, Int.reduceNeg, and_self, true_and, op_mulI, op_mod, op_div, decide_true, decide_false, Bool.false_eq_true, if_false, if_true]
  exact ⟨_, _, rfl, p, hq⟩

theorem sp__law_merge {k : Nat} {n : Int} {L : Ln} {X : DD} (h0 : 0 ≤ n) (h1 : n ≤ 1000) (hL : inR n L) (hX : itemsOf X = some (L.map dP)) : rn (k + 1) i__law_merge none [.int n, X] = .ok (.dat (dB (blocks n (Gen n (rl L))))) [] := by
  rw [st__law_merge, b__law_merge]
  simp -implicitDefEqProofs only [evO_some, bnd_ok, bnd_ex, lift_some, liftC_dat, liftC_own, fl_ok, fl_ex, then_nx, then_rt, then_ex, data_dat, data_own, data_ex, truth_ok, truth_ex, readC_dat, readC_own, peekC_dat, peekC_own, ev_var, ev_lit, ev_gc, ev_fnm, ev_bin, ev_not, ev_and, ev_or, ev_cmp, ev_chn, ev_ite, ev_tup, ev_lst, ev_idx, ev_vix, ev_vln, ev_vcl, ev_vcr, ev_slc, ev_rev, ev_app, ev_appP, ev_bi, ev_mn, ev_rgl, ev_rgt, ev_isi, ev_mth, ev_neg, evs_nil, evs_cons, evo_non, evo_som, evc_non, evc_som, evi_seq, evi_rng, callR_dat, callR_own, callR_ex, callA_eq, callP_own, callRp_ok, callRp_ex, putP_own, xss_nil, xss_cons, xs_set, stC_ok, bindS_some, xs_asg, xs_tpar, bind_nm, bind_tp, binds_nil, binds_cons, ownC_some, ownQ_own, ownAt_eq, xs_sti, xs_aug, xs_apd, xs_xtd, xs_exp, xs_iff, xs_for, xs_whl, xs_ret, xs_rse, xs_pas, xs_try, tryE_rt, tryE_nx, tryE_ex, fin_rt, fin_nx, fin_ex, finP_rt, finP_nx, op_addI, op_subI, cmp_lt, cmp_le, cmp_gt, cmp_ge, cmp_eqI, cmp_neI, cmp_eqB, cmp_neB, aug_add, ix_of, cmp_isN, cmp_isNotN, bi_lenL, bi_lenT, bi_listL, bi_listT, bi_tupL, bi_tupT, bi_sum, bi_int, bi_all, bi_any, items_L, items_T, dat_d, own_d, at0, at1, at2, al0, al1,  List.getD_cons_zero, List.getD_cons_succ, List.set_cons_zero, List.set_cons_succ, List.length_cons, List.length_nil, Option.map_some, Option.bind_some, Option.map_none, reduceIte, Nat.reduceLT, Nat.reduceAdd, wipeE, List.length_map, List.getElem?_cons_zero, List.getElem?_cons_succ, bind_dP, at0d, at1d, at2d, cut2d, ite_and, ite_or, ite_int]
  rw [ev_mapS (rng n) .int (fun x => dL [x]) ?h1 fun y hy => ?h2]
  case h1 => simp -implicitDefEqProofs only [evO_some, bnd_ok, bnd_ex, lift_some, liftC_dat, liftC_own, fl_ok, fl_ex, then_nx, then_rt, then_ex, data_dat, data_own, data_ex, truth_ok, truth_ex, readC_dat, readC_own, peekC_dat, peekC_own, ev_var, ev_lit, ev_gc, ev_fnm, ev_bin, ev_not, ev_and, ev_or, ev_cmp, ev_chn, ev_ite, ev_tup, ev_lst, ev_idx, ev_vix, ev_vln, ev_vcl, ev_vcr, ev_slc, ev_rev, ev_app, ev_appP, ev_bi, ev_mn, ev_rgl, ev_rgt, ev_isi, ev_mth, ev_neg, evs_nil, evs_cons, evo_non, evo_som, evc_non, evc_som, evi_seq, evi_rng, callR_dat, callR_own, callR_ex, callA_eq, callP_own, callRp_ok, callRp_ex, putP_own, xss_nil, xss_cons, xs_set, stC_ok, bindS_some, xs_asg, xs_tpar, bind_nm, bind_tp, binds_nil, binds_cons, ownC_some, ownQ_own, ownAt_eq, xs_sti, xs_aug, xs_apd, xs_xtd, xs_exp, xs_iff, xs_for, xs_whl, xs_ret, xs_rse, xs_pas, xs_try, tryE_rt, tryE_nx, tryE_ex, fin_rt, fin_nx, fin_ex, finP_rt, finP_nx, op_addI, op_subI, cmp_lt, cmp_le, cmp_gt, cmp_ge, cmp_eqI, cmp_neI, cmp_eqB, cmp_neB, aug_add, ix_of, cmp_isN, cmp_isNotN, bi_lenL, bi_lenT, bi_listL, bi_listT, bi_tupL, bi_tupT, bi_sum, bi_int, bi_all, bi_any, items_L, items_T, dat_d, own_d, at0, at1, at2, al0, al1,  List.getD_cons_zero, List.getD_cons_succ, List.set_cons_zero, List.set_cons_succ, List.length_cons, List.length_nil, Option.map_some, Option.bind_some, Option.map_none, reduceIte, Nat.reduceLT, Nat.reduceAdd, wipeE, List.length_map, List.getElem?_cons_zero, List.getElem?_cons_succ, bind_dP, at0d, at1d, at2d, cut2d, ite_and, ite_or, ite_int]; rw [rngD_one (by omega) (by omega)]; simp -implicitDefEqProofs only [evO_some, bnd_ok, bnd_ex, lift_some, liftC_dat, liftC_own, fl_ok, fl_ex, then_nx, then_rt, then_ex, data_dat, data_own, data_ex, truth_ok, truth_ex, readC_dat, readC_own, peekC_dat, peekC_own, ev_var, ev_lit, ev_gc, ev_fnm, ev_bin, ev_not, ev_and, ev_or, ev_cmp, ev_chn, ev_ite, ev_tup, ev_lst, ev_idx, ev_vix, ev_vln, ev_vcl, ev_vcr, ev_slc, ev_rev, ev_app, ev_appP, ev_bi, ev_mn, ev_rgl, ev_rgt, ev_isi, ev_mth, ev_neg, evs_nil, evs_cons, evo_non, evo_som, evc_non, evc_som, evi_seq, evi_rng, callR_dat, callR_own, callR_ex, callA_eq, callP_own, callRp_ok, callRp_ex, putP_own, xss_nil, xss_cons, xs_set, stC_ok, bindS_some, xs_asg, xs_tpar, bind_nm, bind_tp, binds_nil, binds_cons, ownC_some, ownQ_own, ownAt_eq, xs_sti, xs_aug, xs_apd, xs_xtd, xs_exp, xs_iff, xs_for, xs_whl, xs_ret, xs_rse, xs_pas, xs_try, tryE_rt, tryE_nx, tryE_ex, fin_rt, fin_nx, fin_ex, finP_rt, finP_nx, op_addI, op_subI, cmp_lt, cmp_le, cmp_gt, cmp_ge, cmp_eqI, cmp_neI, cmp_eqB, cmp_neB, aug_add, ix_of, cmp_isN, cmp_isNotN, bi_lenL, bi_lenT, bi_listL, bi_listT, bi_tupL, bi_tupT, bi_sum, bi_int, bi_all, bi_any, items_L, items_T, dat_d, own_d, at0, at1, at2, al0, al1,  List.getD_cons_zero, List.getD_cons_succ, List.set_cons_zero, List.set_cons_succ, List.length_cons, List.length_nil, Option.map_some, Option.bind_some, Option.map_none, reduceIte, Nat.reduceLT, Nat.reduceAdd, wipeE, List.length_map, List.getElem?_cons_zero, List.getElem?_cons_succ, bind_dP, at0d, at1d, at2d, cut2d, ite_and, ite_or, ite_int]
  case h2 => exact ⟨_, by simp -implicitDefEqProofs only [evO_some, bnd_ok, bnd_ex, lift_some, liftC_dat, liftC_own, fl_ok, fl_ex, then_nx, then_rt, then_ex, data_dat, data_own, data_ex, truth_ok, truth_ex, readC_dat, readC_own, peekC_dat, peekC_own, ev_var, ev_lit, ev_gc, ev_fnm, ev_bin, ev_not, ev_and, ev_or, ev_cmp, ev_chn, ev_ite, ev_tup, ev_lst, ev_idx, ev_vix, ev_vln, ev_vcl, ev_vcr, ev_slc, ev_rev, ev_app, ev_appP, ev_bi, ev_mn, ev_rgl, ev_rgt, ev_isi, ev_mth, ev_neg, evs_nil, evs_cons, evo_non, evo_som, evc_non, evc_som, evi_seq, evi_rng, callR_dat, callR_own, callR_ex, callA_eq, callP_own, callRp_ok, callRp_ex, putP_own, xss_nil, xss_cons, xs_set, stC_ok, bindS_some, xs_asg, xs_tpar, bind_nm, bind_tp, binds_nil, binds_cons, ownC_some, ownQ_own, ownAt_eq, xs_sti, xs_aug, xs_apd, xs_xtd, xs_exp, xs_iff, xs_for, xs_whl, xs_ret, xs_rse, xs_pas, xs_try, tryE_rt, tryE_nx, tryE_ex, fin_rt, fin_nx, fin_ex, finP_rt, finP_nx, op_addI, op_subI, cmp_lt, cmp_le, cmp_gt, cmp_ge, cmp_eqI, cmp_neI, cmp_eqB, cmp_neB, aug_add, ix_of, cmp_isN, cmp_isNotN, bi_lenL, bi_lenT, bi_listL, bi_listT, bi_tupL, bi_tupT, bi_sum, bi_int, bi_all, bi_any, items_L, items_T, dat_d, own_d, at0, at1, at2, al0, al1,  List.getD_cons_zero, List.getD_cons_succ, List.set_cons_zero, List.set_cons_succ, List.length_cons, List.length_nil, Option.map_some, Option.bind_some, Option.map_none, reduceIte, Nat.reduceLT, Nat.reduceAdd, wipeE, List.length_map, List.getElem?_cons_zero, List.getElem?_cons_succ, bind_dP, at0d, at1d, at2d, cut2d, ite_and, ite_or, ite_int]; rfl, by simp -implicitDefEqProofs only [evO_some, bnd_ok, bnd_ex, lift_some, liftC_dat, liftC_own, fl_ok, fl_ex, then_nx, then_rt, then_ex, data_dat, data_own, data_ex, truth_ok, truth_ex, readC_dat, readC_own, peekC_dat, peekC_own, ev_var, ev_lit, ev_gc, ev_fnm, ev_bin, ev_not, ev_and, ev_or, ev_cmp, ev_chn, ev_ite, ev_tup, ev_lst, ev_idx, ev_vix, ev_vln, ev_vcl, ev_vcr, ev_slc, ev_rev, ev_app, ev_appP, ev_bi, ev_mn, ev_rgl, ev_rgt, ev_isi, ev_mth, ev_neg, evs_nil, evs_cons, evo_non, evo_som, evc_non, evc_som, evi_seq, evi_rng, callR_dat, callR_own, callR_ex, callA_eq, callP_own, callRp_ok, callRp_ex, putP_own, xss_nil, xss_cons, xs_set, stC_ok, bindS_some, xs_asg, xs_tpar, bind_nm, bind_tp, binds_nil, binds_cons, ownC_some, ownQ_own, ownAt_eq, xs_sti, xs_aug, xs_apd, xs_xtd, xs_exp, xs_iff, xs_for, xs_whl, xs_ret, xs_rse, xs_pas, xs_try, tryE_rt, tryE_nx, tryE_ex, fin_rt, fin_nx, fin_ex, finP_rt, finP_nx, op_addI, op_subI, cmp_lt, cmp_le, cmp_gt, cmp_ge, cmp_eqI, cmp_neI, cmp_eqB, cmp_neB, aug_add, ix_of, cmp_isN, cmp_isNotN, bi_lenL, bi_lenT, bi_listL, bi_listT, bi_tupL, bi_tupT, bi_sum, bi_int, bi_all, bi_any, items_L, items_T, dat_d, own_d, at0, at1, at2, al0, al1,  List.getD_cons_zero, List.getD_cons_succ, List.set_cons_zero, List.set_cons_succ, List.length_cons, List.length_nil, Option.map_some, Option.bind_some, Option.map_none, reduceIte, Nat.reduceLT, Nat.reduceAdd, wipeE, List.length_map, List.getElem?_cons_zero, List.getElem?_cons_succ, bind_dP, at0d, at1d, at2d, cut2d, ite_and, ite_or, ite_int]⟩
  have e0 : (rng n).map (fun x => dL [x]) = ((rng n).map fun x => [x]).map dL := by rw [List.map_map]; rfl
  rw [e0]
  simp -implicitDefEqProofs only [evO_some, bnd_ok, bnd_ex, lift_some, liftC_dat, liftC_own, fl_ok, fl_ex, then_nx, then_rt, then_ex, data_dat, data_own, data_ex, truth_ok, truth_ex, readC_dat, readC_own, peekC_dat, peekC_own, ev_var, ev_lit, ev_gc, ev_fnm, ev_bin, ev_not, ev_and, ev_or, ev_cmp, ev_chn, ev_ite, ev_tup, ev_lst, ev_idx, ev_vix, ev_vln, ev_vcl, ev_vcr, ev_slc, ev_rev, ev_app, ev_appP, ev_bi, ev_mn, ev_rgl, ev_rgt, ev_isi, ev_mth, ev_neg, evs_nil, evs_cons, evo_non, evo_som, evc_non, evc_som, evi_seq, evi_rng, callR_dat, callR_own, callR_ex, callA_eq, callP_own, callRp_ok, callRp_ex, putP_own, xss_nil, xss_cons, xs_set, stC_ok, bindS_some, xs_asg, xs_tpar, bind_nm, bind_tp, binds_nil, binds_cons, ownC_some, ownQ_own, ownAt_eq, xs_sti, xs_aug, xs_apd, xs_xtd, xs_exp, xs_iff, xs_for, xs_whl, xs_ret, xs_rse, xs_pas, xs_try, tryE_rt, tryE_nx, tryE_ex, fin_rt, fin_nx, fin_ex, finP_rt, finP_nx, op_addI, op_subI, cmp_lt, cmp_le, cmp_gt, cmp_ge, cmp_eqI, cmp_neI, cmp_eqB, cmp_neB, aug_add, ix_of, cmp_isN, cmp_isNotN, bi_lenL, bi_lenT, bi_listL, bi_listT, bi_tupL, bi_tupT, bi_sum, bi_int, bi_all, bi_any, items_L, items_T, dat_d, own_d, at0, at1, at2, al0, al1,  List.getD_cons_zero, List.getD_cons_succ, List.set_cons_zero, List.set_cons_succ, List.length_cons, List.length_nil, Option.map_some, Option.bind_some, Option.map_none, reduceIte, Nat.reduceLT, Nat.reduceAdd, wipeE, List.length_map, List.getElem?_cons_zero, List.getElem?_cons_succ, bind_dP, at0d, at1d, at2d, cut2d, ite_and, ite_or, ite_int, hX]
  refine for_fin (enc := dP) (xs := L) (fun pre e => ∃ l S a b c d x y, e = [.dat (.int n), .dat X, S, a, b, c, d, x, y] ∧ (S = .own false (l.map dL) ∨ S = .dat (.lst (l.map dL))) ∧ Part n (Gen n (rl pre)) l) ⟨_, _, _, _, _, _, _, _, rfl, .inl rfl, part_rng⟩ (fun pre l post hx e he => ?_) fun e he => ?_
  · obtain ⟨bl, S, a, b, c, d, x, y, rfl, hS, p⟩ := he
    have hl := hL l (by rw [hx]; simp)
    have ge := gen_eqv n (rl pre)
    have hr : ∀ r, readC S 2 (.dat (.int n) :: .dat X :: S :: r) = .ok (.dat (.lst (bl.map dL))) (.dat (.int n) :: .dat X :: .dat (.lst (bl.map dL)) :: r) := fun r => by rcases hS with rfl | rfl <;> rfl
    obtain ⟨one, r1, f1, m1, a1⟩ := p.find hl.1.1 hl.1.2
    obtain ⟨two, r2, f2, m2, a2⟩ := p.find hl.2.1 hl.2.2
    rw [forB_some (by simp -implicitDefEqProofs only [evO_some, bnd_ok, bnd_ex, lift_some, liftC_dat, liftC_own, fl_ok, fl_ex, then_nx, then_rt, then_ex, data_dat, data_own, data_ex, truth_ok, truth_ex, readC_dat, readC_own, peekC_dat, peekC_own, ev_var, ev_lit, ev_gc, ev_fnm, ev_bin, ev_not, ev_and, ev_or, ev_cmp, ev_chn, ev_ite, ev_tup, ev_lst, ev_idx, ev_vix, ev_vln, ev_vcl, ev_vcr, ev_slc, ev_rev, ev_app, ev_appP, ev_bi, ev_mn, ev_rgl, ev_rgt, ev_isi, ev_mth, ev_neg, evs_nil, evs_cons, evo_non, evo_som, evc_non, evc_som, evi_seq, evi_rng, callR_dat, callR_own, callR_ex, callA_eq, callP_own, callRp_ok, callRp_ex, putP_own, xss_nil, xss_cons, xs_set, stC_ok, bindS_some, xs_asg, xs_tpar, bind_nm, bind_tp, binds_nil, binds_cons, ownC_some, ownQ_own, ownAt_eq, xs_sti, xs_aug, xs_apd, xs_xtd, xs_exp, xs_iff, xs_for, xs_whl, xs_ret, xs_rse, xs_pas, xs_try, tryE_rt, tryE_nx, tryE_ex, fin_rt, fin_nx, fin_ex, finP_rt, finP_nx, op_addI, op_subI, cmp_lt, cmp_le, cmp_gt, cmp_ge, cmp_eqI, cmp_neI, cmp_eqB, cmp_neB, aug_add, ix_of, cmp_isN, cmp_isNotN, bi_lenL, bi_lenT, bi_listL, bi_listT, bi_tupL, bi_tupT, bi_sum, bi_int, bi_all, bi_any, items_L, items_T, dat_d, own_d, at0, at1, at2, al0, al1,  List.getD_cons_zero, List.getD_cons_succ, List.set_cons_zero, List.set_cons_succ, List.length_cons, List.length_nil, Option.map_some, Option.bind_some, Option.map_none, reduceIte, Nat.reduceLT, Nat.reduceAdd, wipeE, List.length_map, List.getElem?_cons_zero, List.getElem?_cons_succ, bind_dP, at0d, at1d, at2d, cut2d, ite_and, ite_or, ite_int]; rfl)]
    simp -implicitDefEqProofs only [evO_some, bnd_ok, bnd_ex, lift_some, liftC_dat, liftC_own, fl_ok, fl_ex, then_nx, then_rt, then_ex, data_dat, data_own, data_ex, truth_ok, truth_ex, readC_dat, readC_own, peekC_dat, peekC_own, ev_var, ev_lit, ev_gc, ev_fnm, ev_bin, ev_not, ev_and, ev_or, ev_cmp, ev_chn, ev_ite, ev_tup, ev_lst, ev_idx, ev_vix, ev_vln, ev_vcl, ev_vcr, ev_slc, ev_rev, ev_app, ev_appP, ev_bi, ev_mn, ev_rgl, ev_rgt, ev_isi, ev_mth, ev_neg, evs_nil, evs_cons, evo_non, evo_som, evc_non, evc_som, evi_seq, evi_rng, callR_dat, callR_own, callR_ex, callA_eq, callP_own, callRp_ok, callRp_ex, putP_own, xss_nil, xss_cons, xs_set, stC_ok, bindS_some, xs_asg, xs_tpar, bind_nm, bind_tp, binds_nil, binds_cons, ownC_some, ownQ_own, ownAt_eq, xs_sti, xs_aug, xs_apd, xs_xtd, xs_exp, xs_iff, xs_for, xs_whl, xs_ret, xs_rse, xs_pas, xs_try, tryE_rt, tryE_nx, tryE_ex, fin_rt, fin_nx, fin_ex, finP_rt, finP_nx, op_addI, op_subI, cmp_lt, cmp_le, cmp_gt, cmp_ge, cmp_eqI, cmp_neI, cmp_eqB, cmp_neB, aug_add, ix_of, cmp_isN, cmp_isNotN, bi_lenL, bi_lenT, bi_listL, bi_listT, bi_tupL, bi_tupT, bi_sum, bi_int, bi_all, bi_any, items_L, items_T, dat_d, own_d, at0, at1, at2, al0, al1,  List.getD_cons_zero, List.getD_cons_succ, List.set_cons_zero, List.set_cons_succ, List.length_cons, List.length_nil, Option.map_some, Option.bind_some, Option.map_none, reduceIte, Nat.reduceLT, Nat.reduceAdd, wipeE, List.length_map, List.getElem?_cons_zero, List.getElem?_cons_succ, bind_dP, at0d, at1d, at2d, cut2d, ite_and, ite_or, ite_int]
    rw [ev_filter bl dL (fun b => l.1 ∈ b) dL (by simp -implicitDefEqProofs only [evO_some, bnd_ok, bnd_ex, lift_some, liftC_dat, liftC_own, fl_ok, fl_ex, then_nx, then_rt, then_ex, data_dat, data_own, data_ex, truth_ok, truth_ex, readC_dat, readC_own, peekC_dat, peekC_own, ev_var, ev_lit, ev_gc, ev_fnm, ev_bin, ev_not, ev_and, ev_or, ev_cmp, ev_chn, ev_ite, ev_tup, ev_lst, ev_idx, ev_vix, ev_vln, ev_vcl, ev_vcr, ev_slc, ev_rev, ev_app, ev_appP, ev_bi, ev_mn, ev_rgl, ev_rgt, ev_isi, ev_mth, ev_neg, evs_nil, evs_cons, evo_non, evo_som, evc_non, evc_som, evi_seq, evi_rng, callR_dat, callR_own, callR_ex, callA_eq, callP_own, callRp_ok, callRp_ex, putP_own, xss_nil, xss_cons, xs_set, stC_ok, bindS_some, xs_asg, xs_tpar, bind_nm, bind_tp, binds_nil, binds_cons, ownC_some, ownQ_own, ownAt_eq, xs_sti, xs_aug, xs_apd, xs_xtd, xs_exp, xs_iff, xs_for, xs_whl, xs_ret, xs_rse, xs_pas, xs_try, tryE_rt, tryE_nx, tryE_ex, fin_rt, fin_nx, fin_ex, finP_rt, finP_nx, op_addI, op_subI, cmp_lt, cmp_le, cmp_gt, cmp_ge, cmp_eqI, cmp_neI, cmp_eqB, cmp_neB, aug_add, ix_of, cmp_isN, cmp_isNotN, bi_lenL, bi_lenT, bi_listL, bi_listT, bi_tupL, bi_tupT, bi_sum, bi_int, bi_all, bi_any, items_L, items_T, dat_d, own_d, at0, at1, at2, al0, al1,  List.getD_cons_zero, List.getD_cons_succ, List.set_cons_zero, List.set_cons_succ, List.length_cons, List.length_nil, Option.map_some, Option.bind_some, Option.map_none, reduceIte, Nat.reduceLT, Nat.reduceAdd, wipeE, List.length_map, List.getElem?_cons_zero, List.getElem?_cons_succ, bind_dP, at0d, at1d, at2d, cut2d, ite_and, ite_or, ite_int, hr]; rfl) fun y hy => ⟨_, by simp -implicitDefEqProofs only [evO_some, bnd_ok, bnd_ex, lift_some, liftC_dat, liftC_own, fl_ok, fl_ex, then_nx, then_rt, then_ex, data_dat, data_own, data_ex, truth_ok, truth_ex, readC_dat, readC_own, peekC_dat, peekC_own, ev_var, ev_lit, ev_gc, ev_fnm, ev_bin, ev_not, ev_and, ev_or, ev_cmp, ev_chn, ev_ite, ev_tup, ev_lst, ev_idx, ev_vix, ev_vln, ev_vcl, ev_vcr, ev_slc, ev_rev, ev_app, ev_appP, ev_bi, ev_mn, ev_rgl, ev_rgt, ev_isi, ev_mth, ev_neg, evs_nil, evs_cons, evo_non, evo_som, evc_non, evc_som, evi_seq, evi_rng, callR_dat, callR_own, callR_ex, callA_eq, callP_own, callRp_ok, callRp_ex, putP_own, xss_nil, xss_cons, xs_set, stC_ok, bindS_some, xs_asg, xs_tpar, bind_nm, bind_tp, binds_nil, binds_cons, ownC_some, ownQ_own, ownAt_eq, xs_sti, xs_aug, xs_apd, xs_xtd, xs_exp, xs_iff, xs_for, xs_whl, xs_ret, xs_rse, xs_pas, xs_try, tryE_rt, tryE_nx, tryE_ex, fin_rt, fin_nx, fin_ex, finP_rt, finP_nx, op_addI, op_subI, cmp_lt, cmp_le, cmp_gt, cmp_ge, cmp_eqI, cmp_neI, cmp_eqB, cmp_neB, aug_add, ix_of, cmp_isN, cmp_isNotN, bi_lenL, bi_lenT, bi_listL, bi_listT, bi_tupL, bi_tupT, bi_sum, bi_int, bi_all, bi_any, items_L, items_T, dat_d, own_d, at0, at1, at2, al0, al1,  List.getD_cons_zero, List.getD_cons_succ, List.set_cons_zero, List.set_cons_succ, List.length_cons, List.length_nil, Option.map_some, Option.bind_some, Option.map_none, reduceIte, Nat.reduceLT, Nat.reduceAdd, wipeE, List.length_map, List.getElem?_cons_zero, List.getElem?_cons_succ, bind_dP, at0d, at1d, at2d, cut2d, ite_and, ite_or, ite_int, cmp_in_dL]; rfl, by simp -implicitDefEqProofs only [evO_some, bnd_ok, bnd_ex, lift_some, liftC_dat, liftC_own, fl_ok, fl_ex, then_nx, then_rt, then_ex, data_dat, data_own, data_ex, truth_ok, truth_ex, readC_dat, readC_own, peekC_dat, peekC_own, ev_var, ev_lit, ev_gc, ev_fnm, ev_bin, ev_not, ev_and, ev_or, ev_cmp, ev_chn, ev_ite, ev_tup, ev_lst, ev_idx, ev_vix, ev_vln, ev_vcl, ev_vcr, ev_slc, ev_rev, ev_app, ev_appP, ev_bi, ev_mn, ev_rgl, ev_rgt, ev_isi, ev_mth, ev_neg, evs_nil, evs_cons, evo_non, evo_som, evc_non, evc_som, evi_seq, evi_rng, callR_dat, callR_own, callR_ex, callA_eq, callP_own, callRp_ok, callRp_ex, putP_own, xss_nil, xss_cons, xs_set, stC_ok, bindS_some, xs_asg, xs_tpar, bind_nm, bind_tp, binds_nil, binds_cons, ownC_some, ownQ_own, ownAt_eq, xs_sti, xs_aug, xs_apd, xs_xtd, xs_exp, xs_iff, xs_for, xs_whl, xs_ret, xs_rse, xs_pas, xs_try, tryE_rt, tryE_nx, tryE_ex, fin_rt, fin_nx, fin_ex, finP_rt, finP_nx, op_addI, op_subI, cmp_lt, cmp_le, cmp_gt, cmp_ge, cmp_eqI, cmp_neI, cmp_eqB, cmp_neB, aug_add, ix_of, cmp_isN, cmp_isNotN, bi_lenL, bi_lenT, bi_listL, bi_listT, bi_tupL, bi_tupT, bi_sum, bi_int, bi_all, bi_any, items_L, items_T, dat_d, own_d, at0, at1, at2, al0, al1,  List.getD_cons_zero, List.getD_cons_succ, List.set_cons_zero, List.set_cons_succ, List.length_cons, List.length_nil, Option.map_some, Option.bind_some, Option.map_none, reduceIte, Nat.reduceLT, Nat.reduceAdd, wipeE, List.length_map, List.getElem?_cons_zero, List.getElem?_cons_succ, bind_dP, at0d, at1d, at2d, cut2d, ite_and, ite_or, ite_int], fun _ => ⟨_, by simp -implicitDefEqProofs only [evO_some, bnd_ok, bnd_ex, lift_some, liftC_dat, liftC_own, fl_ok, fl_ex, then_nx, then_rt, then_ex, data_dat, data_own, data_ex, truth_ok, truth_ex, readC_dat, readC_own, peekC_dat, peekC_own, ev_var, ev_lit, ev_gc, ev_fnm, ev_bin, ev_not, ev_and, ev_or, ev_cmp, ev_chn, ev_ite, ev_tup, ev_lst, ev_idx, ev_vix, ev_vln, ev_vcl, ev_vcr, ev_slc, ev_rev, ev_app, ev_appP, ev_bi, ev_mn, ev_rgl, ev_rgt, ev_isi, ev_mth, ev_neg, evs_nil, evs_cons, evo_non, evo_som, evc_non, evc_som, evi_seq, evi_rng, callR_dat, callR_own, callR_ex, callA_eq, callP_own, callRp_ok, callRp_ex, putP_own, xss_nil, xss_cons, xs_set, stC_ok, bindS_some, xs_asg, xs_tpar, bind_nm, bind_tp, binds_nil, binds_cons, ownC_some, ownQ_own, ownAt_eq, xs_sti, xs_aug, xs_apd, xs_xtd, xs_exp, xs_iff, xs_for, xs_whl, xs_ret, xs_rse, xs_pas, xs_try, tryE_rt, tryE_nx, tryE_ex, fin_rt, fin_nx, fin_ex, finP_rt, finP_nx, op_addI, op_subI, cmp_lt, cmp_le, cmp_gt, cmp_ge, cmp_eqI, cmp_neI, cmp_eqB, cmp_neB, aug_add, ix_of, cmp_isN, cmp_isNotN, bi_lenL, bi_lenT, bi_listL, bi_listT, bi_tupL, bi_tupT, bi_sum, bi_int, bi_all, bi_any, items_L, items_T, dat_d, own_d, at0, at1, at2, al0, al1,  List.getD_cons_zero, List.getD_cons_succ, List.set_cons_zero, List.set_cons_succ, List.length_cons, List.length_nil, Option.map_some, Option.bind_some, Option.map_none, reduceIte, Nat.reduceLT, Nat.reduceAdd, wipeE, List.length_map, List.getElem?_cons_zero, List.getElem?_cons_succ, bind_dP, at0d, at1d, at2d, cut2d, ite_and, ite_or, ite_int]; rfl, by simp -implicitDefEqProofs only [evO_some, bnd_ok, bnd_ex, lift_some, liftC_dat, liftC_own, fl_ok, fl_ex, then_nx, then_rt, then_ex, data_dat, data_own, data_ex, truth_ok, truth_ex, readC_dat, readC_own, peekC_dat, peekC_own, ev_var, ev_lit, ev_gc, ev_fnm, ev_bin, ev_not, ev_and, ev_or, ev_cmp, ev_chn, ev_ite, ev_tup, ev_lst, ev_idx, ev_vix, ev_vln, ev_vcl, ev_vcr, ev_slc, ev_rev, ev_app, ev_appP, ev_bi, ev_mn, ev_rgl, ev_rgt, ev_isi, ev_mth, ev_neg, evs_nil, evs_cons, evo_non, evo_som, evc_non, evc_som, evi_seq, evi_rng, callR_dat, callR_own, callR_ex, callA_eq, callP_own, callRp_ok, callRp_ex, putP_own, xss_nil, xss_cons, xs_set, stC_ok, bindS_some, xs_asg, xs_tpar, bind_nm, bind_tp, binds_nil, binds_cons, ownC_some, ownQ_own, ownAt_eq, xs_sti, xs_aug, xs_apd, xs_xtd, xs_exp, xs_iff, xs_for, xs_whl, xs_ret, xs_rse, xs_pas, xs_try, tryE_rt, tryE_nx, tryE_ex, fin_rt, fin_nx, fin_ex, finP_rt, finP_nx, op_addI, op_subI, cmp_lt, cmp_le, cmp_gt, cmp_ge, cmp_eqI, cmp_neI, cmp_eqB, cmp_neB, aug_add, ix_of, cmp_isN, cmp_isNotN, bi_lenL, bi_lenT, bi_listL, bi_listT, bi_tupL, bi_tupT, bi_sum, bi_int, bi_all, bi_any, items_L, items_T, dat_d, own_d, at0, at1, at2, al0, al1,  List.getD_cons_zero, List.getD_cons_succ, List.set_cons_zero, List.set_cons_succ, List.length_cons, List.length_nil, Option.map_some, Option.bind_some, Option.map_none, reduceIte, Nat.reduceLT, Nat.reduceAdd, wipeE, List.length_map, List.getElem?_cons_zero, List.getElem?_cons_succ, bind_dP, at0d, at1d, at2d, cut2d, ite_and, ite_or, ite_int]⟩⟩]
    simp -implicitDefEqProofs only [f1, evO_some, bnd_ok, bnd_ex, lift_some, liftC_dat, liftC_own, fl_ok, fl_ex, then_nx, then_rt, then_ex, data_dat, data_own, data_ex, truth_ok, truth_ex, readC_dat, readC_own, peekC_dat, peekC_own, ev_var, ev_lit, ev_gc, ev_fnm, ev_bin, ev_not, ev_and, ev_or, ev_cmp, ev_chn, ev_ite, ev_tup, ev_lst, ev_idx, ev_vix, ev_vln, ev_vcl, ev_vcr, ev_slc, ev_rev, ev_app, ev_appP, ev_bi, ev_mn, ev_rgl, ev_rgt, ev_isi, ev_mth, ev_neg, evs_nil, evs_cons, evo_non, evo_som, evc_non, evc_som, evi_seq, evi_rng, callR_dat, callR_own, callR_ex, callA_eq, callP_own, callRp_ok, callRp_ex, putP_own, xss_nil, xss_cons, xs_set, stC_ok, bindS_some, xs_asg, xs_tpar, bind_nm, bind_tp, binds_nil, binds_cons, ownC_some, ownQ_own, ownAt_eq, xs_sti, xs_aug, xs_apd, xs_xtd, xs_exp, xs_iff, xs_for, xs_whl, xs_ret, xs_rse, xs_pas, xs_try, tryE_rt, tryE_nx, tryE_ex, fin_rt, fin_nx, fin_ex, finP_rt, finP_nx, op_addI, op_subI, cmp_lt, cmp_le, cmp_gt, cmp_ge, cmp_eqI, cmp_neI, cmp_eqB, cmp_neB, aug_add, ix_of, cmp_isN, cmp_isNotN, bi_lenL, bi_lenT, bi_listL, bi_listT, bi_tupL, bi_tupT, bi_sum, bi_int, bi_all, bi_any, items_L, items_T, dat_d, own_d, at0, at1, at2, al0, al1,  List.getD_cons_zero, List.getD_cons_succ, List.set_cons_zero, List.set_cons_succ, List.length_cons, List.length_nil, Option.map_some, Option.bind_some, Option.map_none, reduceIte, Nat.reduceLT, Nat.reduceAdd, wipeE, List.length_map, List.getElem?_cons_zero, List.getElem?_cons_succ, bind_dP, at0d, at1d, at2d, cut2d, ite_and, ite_or, ite_int, List.map_cons]
    rw [ev_filter bl dL (fun b => l.2 ∈ b) dL (by simp -implicitDefEqProofs only [evO_some, bnd_ok, bnd_ex, lift_some, liftC_dat, liftC_own, fl_ok, fl_ex, then_nx, then_rt, then_ex, data_dat, data_own, data_ex, truth_ok, truth_ex, readC_dat, readC_own, peekC_dat, peekC_own, ev_var, ev_lit, ev_gc, ev_fnm, ev_bin, ev_not, ev_and, ev_or, ev_cmp, ev_chn, ev_ite, ev_tup, ev_lst, ev_idx, ev_vix, ev_vln, ev_vcl, ev_vcr, ev_slc, ev_rev, ev_app, ev_appP, ev_bi, ev_mn, ev_rgl, ev_rgt, ev_isi, ev_mth, ev_neg, evs_nil, evs_cons, evo_non, evo_som, evc_non, evc_som, evi_seq, evi_rng, callR_dat, callR_own, callR_ex, callA_eq, callP_own, callRp_ok, callRp_ex, putP_own, xss_nil, xss_cons, xs_set, stC_ok, bindS_some, xs_asg, xs_tpar, bind_nm, bind_tp, binds_nil, binds_cons, ownC_some, ownQ_own, ownAt_eq, xs_sti, xs_aug, xs_apd, xs_xtd, xs_exp, xs_iff, xs_for, xs_whl, xs_ret, xs_rse, xs_pas, xs_try, tryE_rt, tryE_nx, tryE_ex, fin_rt, fin_nx, fin_ex, finP_rt, finP_nx, op_addI, op_subI, cmp_lt, cmp_le, cmp_gt, cmp_ge, cmp_eqI, cmp_neI, cmp_eqB, cmp_neB, aug_add, ix_of, cmp_isN, cmp_isNotN, bi_lenL, bi_lenT, bi_listL, bi_listT, bi_tupL, bi_tupT, bi_sum, bi_int, bi_all, bi_any, items_L, items_T, dat_d, own_d, at0, at1, at2, al0, al1,  List.getD_cons_zero, List.getD_cons_succ, List.set_cons_zero, List.set_cons_succ, List.length_cons, List.length_nil, Option.map_some, Option.bind_some, Option.map_none, reduceIte, Nat.reduceLT, Nat.reduceAdd, wipeE, List.length_map, List.getElem?_cons_zero, List.getElem?_cons_succ, bind_dP, at0d, at1d, at2d, cut2d, ite_and, ite_or, ite_int]; rfl) fun y hy => ⟨_, by simp -implicitDefEqProofs only [evO_some, bnd_ok, bnd_ex, lift_some, liftC_dat, liftC_own, fl_ok, fl_ex, then_nx, then_rt, then_ex, data_dat, data_own, data_ex, truth_ok, truth_ex, readC_dat, readC_own, peekC_dat, peekC_own, ev_var, ev_lit, ev_gc, ev_fnm, ev_bin, ev_not, ev_and, ev_or, ev_cmp, ev_chn, ev_ite, ev_tup, ev_lst, ev_idx, ev_vix, ev_vln, ev_vcl, ev_vcr, ev_slc, ev_rev, ev_app, ev_appP, ev_bi, ev_mn, ev_rgl, ev_rgt, ev_isi, ev_mth, ev_neg, evs_nil, evs_cons, evo_non, evo_som, evc_non, evc_som, evi_seq, evi_rng, callR_dat, callR_own, callR_ex, callA_eq, callP_own, callRp_ok, callRp_ex, putP_own, xss_nil, xss_cons, xs_set, stC_ok, bindS_some, xs_asg, xs_tpar, bind_nm, bind_tp, binds_nil, binds_cons, ownC_some, ownQ_own, ownAt_eq, xs_sti, xs_aug, xs_apd, xs_xtd, xs_exp, xs_iff, xs_for, xs_whl, xs_ret, xs_rse, xs_pas, xs_try, tryE_rt, tryE_nx, tryE_ex, fin_rt, fin_nx, fin_ex, finP_rt, finP_nx, op_addI, op_subI, cmp_lt, cmp_le, cmp_gt, cmp_ge, cmp_eqI, cmp_neI, cmp_eqB, cmp_neB, aug_add, ix_of, cmp_isN, cmp_isNotN, bi_lenL, bi_lenT, bi_listL, bi_listT, bi_tupL, bi_tupT, bi_sum, bi_int, bi_all, bi_any, items_L, items_T, dat_d, own_d, at0, at1, at2, al0, al1,  List.getD_cons_zero, List.getD_cons_succ, List.set_cons_zero, List.set_cons_succ, List.length_cons, List.length_nil, Option.map_some, Option.bind_some, Option.map_none, reduceIte, Nat.reduceLT, Nat.reduceAdd, wipeE, List.length_map, List.getElem?_cons_zero, List.getElem?_cons_succ, bind_dP, at0d, at1d, at2d, cut2d, ite_and, ite_or, ite_int, cmp_in_dL]; rfl, by simp -implicitDefEqProofs only [evO_some, bnd_ok, bnd_ex, lift_some, liftC_dat, liftC_own, fl_ok, fl_ex, then_nx, then_rt, then_ex, data_dat, data_own, data_ex, truth_ok, truth_ex, readC_dat, readC_own, peekC_dat, peekC_own, ev_var, ev_lit, ev_gc, ev_fnm, ev_bin, ev_not, ev_and, ev_or, ev_cmp, ev_chn, ev_ite, ev_tup, ev_lst, ev_idx, ev_vix, ev_vln, ev_vcl, ev_vcr, ev_slc, ev_rev, ev_app, ev_appP, ev_bi, ev_mn, ev_rgl, ev_rgt, ev_isi, ev_mth, ev_neg, evs_nil, evs_cons, evo_non, evo_som, evc_non, evc_som, evi_seq, evi_rng, callR_dat, callR_own, callR_ex, callA_eq, callP_own, callRp_ok, callRp_ex, putP_own, xss_nil, xss_cons, xs_set, stC_ok, bindS_some, xs_asg, xs_tpar, bind_nm, bind_tp, binds_nil, binds_cons, ownC_some, ownQ_own, ownAt_eq, xs_sti, xs_aug, xs_apd, xs_xtd, xs_exp, xs_iff, xs_for, xs_whl, xs_ret, xs_rse, xs_pas, xs_try, tryE_rt, tryE_nx, tryE_ex, fin_rt, fin_nx, fin_ex, finP_rt, finP_nx, op_addI, op_subI, cmp_lt, cmp_le, cmp_gt, cmp_ge, cmp_eqI, cmp_neI, cmp_eqB, cmp_neB, aug_add, ix_of, cmp_isN, cmp_isNotN, bi_lenL, bi_lenT, bi_listL, bi_listT, bi_tupL, bi_tupT, bi_sum, bi_int, bi_all, bi_any, items_L, items_T, dat_d, own_d, at0, at1, at2, al0, al1,  List.getD_cons_zero, List.getD_cons_succ, List.set_cons_zero, List.set_cons_succ, List.length_cons, List.length_nil, Option.map_some, Option.bind_some, Option.map_none, reduceIte, Nat.reduceLT, Nat.reduceAdd, wipeE, List.length_map, List.getElem?_cons_zero, List.getElem?_cons_succ, bind_dP, at0d, at1d, at2d, cut2d, ite_and, ite_or, ite_int], fun _ => ⟨_, by simp -implicitDefEqProofs only [evO_some, bnd_ok, bnd_ex, lift_some, liftC_dat, liftC_own, fl_ok, fl_ex, then_nx, then_rt, then_ex, data_dat, data_own, data_ex, truth_ok, truth_ex, readC_dat, readC_own, peekC_dat, peekC_own, ev_var, ev_lit, ev_gc, ev_fnm, ev_bin, ev_not, ev_and, ev_or, ev_cmp, ev_chn, ev_ite, ev_tup, ev_lst, ev_idx, ev_vix, ev_vln, ev_vcl, ev_vcr, ev_slc, ev_rev, ev_app, ev_appP, ev_bi, ev_mn, ev_rgl, ev_rgt, ev_isi, ev_mth, ev_neg, evs_nil, evs_cons, evo_non, evo_som, evc_non, evc_som, evi_seq, evi_rng, callR_dat, callR_own, callR_ex, callA_eq, callP_own, callRp_ok, callRp_ex, putP_own, xss_nil, xss_cons, xs_set, stC_ok, bindS_some, xs_asg, xs_tpar, bind_nm, bind_tp, binds_nil, binds_cons, ownC_some, ownQ_own, ownAt_eq, xs_sti, xs_aug, xs_apd, xs_xtd, xs_exp, xs_iff, xs_for, xs_whl, xs_ret, xs_rse, xs_pas, xs_try, tryE_rt, tryE_nx, tryE_ex, fin_rt, fin_nx, fin_ex, finP_rt, finP_nx, op_addI, op_subI, cmp_lt, cmp_le, cmp_gt, cmp_ge, cmp_eqI, cmp_neI, cmp_eqB, cmp_neB, aug_add, ix_of, cmp_isN, cmp_isNotN, bi_lenL, bi_lenT, bi_listL, bi_listT, bi_tupL, bi_tupT, bi_sum, bi_int, bi_all, bi_any, items_L, items_T, dat_d, own_d, at0, at1, at2, al0, al1,  List.getD_cons_zero, List.getD_cons_succ, List.set_cons_zero, List.set_cons_succ, List.length_cons, List.length_nil, Option.map_some, Option.bind_some, Option.map_none, reduceIte, Nat.reduceLT, Nat.reduceAdd, wipeE, List.length_map, List.getElem?_cons_zero, List.getElem?_cons_succ, bind_dP, at0d, at1d, at2d, cut2d, ite_and, ite_or, ite_int]; rfl, by simp -implicitDefEqProofs only [evO_some, bnd_ok, bnd_ex, lift_some, liftC_dat, liftC_own, fl_ok, fl_ex, then_nx, then_rt, then_ex, data_dat, data_own, data_ex, truth_ok, truth_ex, readC_dat, readC_own, peekC_dat, peekC_own, ev_var, ev_lit, ev_gc, ev_fnm, ev_bin, ev_not, ev_and, ev_or, ev_cmp, ev_chn, ev_ite, ev_tup, ev_lst, ev_idx, ev_vix, ev_vln, ev_vcl, ev_vcr, ev_slc, ev_rev, ev_app, ev_appP, ev_bi, ev_mn, ev_rgl, ev_rgt, ev_isi, ev_mth, ev_neg, evs_nil, evs_cons, evo_non, evo_som, evc_non, evc_som, evi_seq, evi_rng, callR_dat, callR_own, callR_ex, callA_eq, callP_own, callRp_ok, callRp_ex, putP_own, xss_nil, xss_cons, xs_set, stC_ok, bindS_some, xs_asg, xs_tpar, bind_nm, bind_tp, binds_nil, binds_cons, ownC_some, ownQ_own, ownAt_eq, xs_sti, xs_aug, xs_apd, xs_xtd, xs_exp, xs_iff, xs_for, xs_whl, xs_ret, xs_rse, xs_pas, xs_try, tryE_rt, tryE_nx, tryE_ex, fin_rt, fin_nx, fin_ex, finP_rt, finP_nx, op_addI, op_subI, cmp_lt, cmp_le, cmp_gt, cmp_ge, cmp_eqI, cmp_neI, cmp_eqB, cmp_neB, aug_add, ix_of, cmp_isN, cmp_isNotN, bi_lenL, bi_lenT, bi_listL, bi_listT, bi_tupL, bi_tupT, bi_sum, bi_int, bi_all, bi_any, items_L, items_T, dat_d, own_d, at0, at1, at2, al0, al1,  List.getD_cons_zero, List.getD_cons_succ, List.set_cons_zero, List.set_cons_succ, List.length_cons, List.length_nil, Option.map_some, Option.bind_some, Option.map_none, reduceIte, Nat.reduceLT, Nat.reduceAdd, wipeE, List.length_map, List.getElem?_cons_zero, List.getElem?_cons_succ, bind_dP, at0d, at1d, at2d, cut2d, ite_and, ite_or, ite_int]⟩⟩]
    simp -implicitDefEqProofs only [f2, evO_some, bnd_ok, bnd_ex, lift_some, liftC_dat, liftC_own, fl_ok, fl_ex, then_nx, then_rt, then_ex, data_dat, data_own, data_ex, truth_ok, truth_ex, readC_dat, readC_own, peekC_dat, peekC_own, ev_var, ev_lit, ev_gc, ev_fnm, ev_bin, ev_not, ev_and, ev_or, ev_cmp, ev_chn, ev_ite, ev_tup, ev_lst, ev_idx, ev_vix, ev_vln, ev_vcl, ev_vcr, ev_slc, ev_rev, ev_app, ev_appP, ev_bi, ev_mn, ev_rgl, ev_rgt, ev_isi, ev_mth, ev_neg, evs_nil, evs_cons, evo_non, evo_som, evc_non, evc_som, evi_seq, evi_rng, callR_dat, callR_own, callR_ex, callA_eq, callP_own, callRp_ok, callRp_ex, putP_own, xss_nil, xss_cons, xs_set, stC_ok, bindS_some, xs_asg, xs_tpar, bind_nm, bind_tp, binds_nil, binds_cons, ownC_some, ownQ_own, ownAt_eq, xs_sti, xs_aug, xs_apd, xs_xtd, xs_exp, xs_iff, xs_for, xs_whl, xs_ret, xs_rse, xs_pas, xs_try, tryE_rt, tryE_nx, tryE_ex, fin_rt, fin_nx, fin_ex, finP_rt, finP_nx, op_addI, op_subI, cmp_lt, cmp_le, cmp_gt, cmp_ge, cmp_eqI, cmp_neI, cmp_eqB, cmp_neB, aug_add, ix_of, cmp_isN, cmp_isNotN, bi_lenL, bi_lenT, bi_listL, bi_listT, bi_tupL, bi_tupT, bi_sum, bi_int, bi_all, bi_any, items_L, items_T, dat_d, own_d, at0, at1, at2, al0, al1,  List.getD_cons_zero, List.getD_cons_succ, List.set_cons_zero, List.set_cons_succ, List.length_cons, List.length_nil, Option.map_some, Option.bind_some, Option.map_none, reduceIte, Nat.reduceLT, Nat.reduceAdd, wipeE, List.length_map, List.getElem?_cons_zero, List.getElem?_cons_succ, bind_dP, at0d, at1d, at2d, cut2d, ite_and, ite_or, ite_int, List.map_cons, cmp_ne_dL]
    by_cases q : one = two
    · subst q
      simp -implicitDefEqProofs only [decide_true, Bool.not_true, Bool.false_eq_true, evO_some, bnd_ok, bnd_ex, lift_some, liftC_dat, liftC_own, fl_ok, fl_ex, then_nx, then_rt, then_ex, data_dat, data_own, data_ex, truth_ok, truth_ex, readC_dat, readC_own, peekC_dat, peekC_own, ev_var, ev_lit, ev_gc, ev_fnm, ev_bin, ev_not, ev_and, ev_or, ev_cmp, ev_chn, ev_ite, ev_tup, ev_lst, ev_idx, ev_vix, ev_vln, ev_vcl, ev_vcr, ev_slc, ev_rev, ev_app, ev_appP, ev_bi, ev_mn, ev_rgl, ev_rgt, ev_isi, ev_mth, ev_neg, evs_nil, evs_cons, evo_non, evo_som, evc_non, evc_som, evi_seq, evi_rng, callR_dat, callR_own, callR_ex, callA_eq, callP_own, callRp_ok, callRp_ex, putP_own, xss_nil, xss_cons, xs_set, stC_ok, bindS_some, xs_asg, xs_tpar, bind_nm, bind_tp, binds_nil, binds_cons, ownC_some, ownQ_own, ownAt_eq, xs_sti, xs_aug, xs_apd, xs_xtd, xs_exp, xs_iff, xs_for, xs_whl, xs_ret, xs_rse, xs_pas, xs_try, tryE_rt, tryE_nx, tryE_ex, fin_rt, fin_nx, fin_ex, finP_rt, finP_nx, op_addI, op_subI, cmp_lt, cmp_le, cmp_gt, cmp_ge, cmp_eqI, cmp_neI, cmp_eqB, cmp_neB, aug_add, ix_of, cmp_isN, cmp_isNotN, bi_lenL, bi_lenT, bi_listL, bi_listT, bi_tupL, bi_tupT, bi_sum, bi_int, bi_all, bi_any, items_L, items_T, dat_d, own_d, at0, at1, at2, al0, al1,  List.getD_cons_zero, List.getD_cons_succ, List.set_cons_zero, List.set_cons_succ, List.length_cons, List.length_nil, Option.map_some, Option.bind_some, Option.map_none, reduceIte, Nat.reduceLT, Nat.reduceAdd, wipeE, List.length_map, List.getElem?_cons_zero, List.getElem?_cons_succ, bind_dP, at0d, at1d, at2d, cut2d, ite_and, ite_or, ite_int]
      refine ⟨_, rfl, bl, _, _, _, _, _, _, _, rfl, .inr rfl, ?_⟩
      rw [← gen_snoc, p.joinSame ge m1 a1 a2]
      exact p
    · simp -implicitDefEqProofs only [q, decide_false, Bool.not_false, evO_some, bnd_ok, bnd_ex, lift_some, liftC_dat, liftC_own, fl_ok, fl_ex, then_nx, then_rt, then_ex, data_dat, data_own, data_ex, truth_ok, truth_ex, readC_dat, readC_own, peekC_dat, peekC_own, ev_var, ev_lit, ev_gc, ev_fnm, ev_bin, ev_not, ev_and, ev_or, ev_cmp, ev_chn, ev_ite, ev_tup, ev_lst, ev_idx, ev_vix, ev_vln, ev_vcl, ev_vcr, ev_slc, ev_rev, ev_app, ev_appP, ev_bi, ev_mn, ev_rgl, ev_rgt, ev_isi, ev_mth, ev_neg, evs_nil, evs_cons, evo_non, evo_som, evc_non, evc_som, evi_seq, evi_rng, callR_dat, callR_own, callR_ex, callA_eq, callP_own, callRp_ok, callRp_ex, putP_own, xss_nil, xss_cons, xs_set, stC_ok, bindS_some, xs_asg, xs_tpar, bind_nm, bind_tp, binds_nil, binds_cons, ownC_some, ownQ_own, ownAt_eq, xs_sti, xs_aug, xs_apd, xs_xtd, xs_exp, xs_iff, xs_for, xs_whl, xs_ret, xs_rse, xs_pas, xs_try, tryE_rt, tryE_nx, tryE_ex, fin_rt, fin_nx, fin_ex, finP_rt, finP_nx, op_addI, op_subI, cmp_lt, cmp_le, cmp_gt, cmp_ge, cmp_eqI, cmp_neI, cmp_eqB, cmp_neB, aug_add, ix_of, cmp_isN, cmp_isNotN, bi_lenL, bi_lenT, bi_listL, bi_listT, bi_tupL, bi_tupT, bi_sum, bi_int, bi_all, bi_any, items_L, items_T, dat_d, own_d, at0, at1, at2, al0, al1,  List.getD_cons_zero, List.getD_cons_succ, List.set_cons_zero, List.set_cons_succ, List.length_cons, List.length_nil, Option.map_some, Option.bind_some, Option.map_none, reduceIte, Nat.reduceLT, Nat.reduceAdd, wipeE, List.length_map, List.getElem?_cons_zero, List.getElem?_cons_succ, bind_dP, at0d, at1d, at2d, cut2d, ite_and, ite_or, ite_int]
      obtain ⟨s, s1, s2, s3, s4, s5, s6⟩ := join_sort h1 ge p m1 m2 q
      rw [ev_filter bl dL (fun b => b ≠ one ∧ b ≠ two) dL (by simp -implicitDefEqProofs only [evO_some, bnd_ok, bnd_ex, lift_some, liftC_dat, liftC_own, fl_ok, fl_ex, then_nx, then_rt, then_ex, data_dat, data_own, data_ex, truth_ok, truth_ex, readC_dat, readC_own, peekC_dat, peekC_own, ev_var, ev_lit, ev_gc, ev_fnm, ev_bin, ev_not, ev_and, ev_or, ev_cmp, ev_chn, ev_ite, ev_tup, ev_lst, ev_idx, ev_vix, ev_vln, ev_vcl, ev_vcr, ev_slc, ev_rev, ev_app, ev_appP, ev_bi, ev_mn, ev_rgl, ev_rgt, ev_isi, ev_mth, ev_neg, evs_nil, evs_cons, evo_non, evo_som, evc_non, evc_som, evi_seq, evi_rng, callR_dat, callR_own, callR_ex, callA_eq, callP_own, callRp_ok, callRp_ex, putP_own, xss_nil, xss_cons, xs_set, stC_ok, bindS_some, xs_asg, xs_tpar, bind_nm, bind_tp, binds_nil, binds_cons, ownC_some, ownQ_own, ownAt_eq, xs_sti, xs_aug, xs_apd, xs_xtd, xs_exp, xs_iff, xs_for, xs_whl, xs_ret, xs_rse, xs_pas, xs_try, tryE_rt, tryE_nx, tryE_ex, fin_rt, fin_nx, fin_ex, finP_rt, finP_nx, op_addI, op_subI, cmp_lt, cmp_le, cmp_gt, cmp_ge, cmp_eqI, cmp_neI, cmp_eqB, cmp_neB, aug_add, ix_of, cmp_isN, cmp_isNotN, bi_lenL, bi_lenT, bi_listL, bi_listT, bi_tupL, bi_tupT, bi_sum, bi_int, bi_all, bi_any, items_L, items_T, dat_d, own_d, at0, at1, at2, al0, al1,  List.getD_cons_zero, List.getD_cons_succ, List.set_cons_zero, List.set_cons_succ, List.length_cons, List.length_nil, Option.map_some, Option.bind_some, Option.map_none, reduceIte, Nat.reduceLT, Nat.reduceAdd, wipeE, List.length_map, List.getElem?_cons_zero, List.getElem?_cons_succ, bind_dP, at0d, at1d, at2d, cut2d, ite_and, ite_or, ite_int]; rfl) fun y hy => ⟨_, by
        have g : (!decide (y = one) && !decide (y = two)) = decide (y ≠ one ∧ y ≠ two) := by by_cases q1 : y = one <;> by_cases q2 : y = two <;> simp [q1, q2]
        simp -implicitDefEqProofs only [evO_some, bnd_ok, bnd_ex, lift_some, liftC_dat, liftC_own, fl_ok, fl_ex, then_nx, then_rt, then_ex, data_dat, data_own, data_ex, truth_ok, truth_ex, readC_dat, readC_own, peekC_dat, peekC_own, ev_var, ev_lit, ev_gc, ev_fnm, ev_bin, ev_not, ev_and, ev_or, ev_cmp, ev_chn, ev_ite, ev_tup, ev_lst, ev_idx, ev_vix, ev_vln, ev_vcl, ev_vcr, ev_slc, ev_rev, ev_app, ev_appP, ev_bi, ev_mn, ev_rgl, ev_rgt, ev_isi, ev_mth, ev_neg, evs_nil, evs_cons, evo_non, evo_som, evc_non, evc_som, evi_seq, evi_rng, callR_dat, callR_own, callR_ex, callA_eq, callP_own, callRp_ok, callRp_ex, putP_own, xss_nil, xss_cons, xs_set, stC_ok, bindS_some, xs_asg, xs_tpar, bind_nm, bind_tp, binds_nil, binds_cons, ownC_some, ownQ_own, ownAt_eq, xs_sti, xs_aug, xs_apd, xs_xtd, xs_exp, xs_iff, xs_for, xs_whl, xs_ret, xs_rse, xs_pas, xs_try, tryE_rt, tryE_nx, tryE_ex, fin_rt, fin_nx, fin_ex, finP_rt, finP_nx, op_addI, op_subI, cmp_lt, cmp_le, cmp_gt, cmp_ge, cmp_eqI, cmp_neI, cmp_eqB, cmp_neB, aug_add, ix_of, cmp_isN, cmp_isNotN, bi_lenL, bi_lenT, bi_listL, bi_listT, bi_tupL, bi_tupT, bi_sum, bi_int, bi_all, bi_any, items_L, items_T, dat_d, own_d, at0, at1, at2, al0, al1,  List.getD_cons_zero, List.getD_cons_succ, List.set_cons_zero, List.set_cons_succ, List.length_cons, List.length_nil, Option.map_some, Option.bind_some, Option.map_none, reduceIte, Nat.reduceLT, Nat.reduceAdd, wipeE, List.length_map, List.getElem?_cons_zero, List.getElem?_cons_succ, bind_dP, at0d, at1d, at2d, cut2d, ite_and, ite_or, ite_int, cmp_ne_dL, g]; rfl, by simp -implicitDefEqProofs only [evO_some, bnd_ok, bnd_ex, lift_some, liftC_dat, liftC_own, fl_ok, fl_ex, then_nx, then_rt, then_ex, data_dat, data_own, data_ex, truth_ok, truth_ex, readC_dat, readC_own, peekC_dat, peekC_own, ev_var, ev_lit, ev_gc, ev_fnm, ev_bin, ev_not, ev_and, ev_or, ev_cmp, ev_chn, ev_ite, ev_tup, ev_lst, ev_idx, ev_vix, ev_vln, ev_vcl, ev_vcr, ev_slc, ev_rev, ev_app, ev_appP, ev_bi, ev_mn, ev_rgl, ev_rgt, ev_isi, ev_mth, ev_neg, evs_nil, evs_cons, evo_non, evo_som, evc_non, evc_som, evi_seq, evi_rng, callR_dat, callR_own, callR_ex, callA_eq, callP_own, callRp_ok, callRp_ex, putP_own, xss_nil, xss_cons, xs_set, stC_ok, bindS_some, xs_asg, xs_tpar, bind_nm, bind_tp, binds_nil, binds_cons, ownC_some, ownQ_own, ownAt_eq, xs_sti, xs_aug, xs_apd, xs_xtd, xs_exp, xs_iff, xs_for, xs_whl, xs_ret, xs_rse, xs_pas, xs_try, tryE_rt, tryE_nx, tryE_ex, fin_rt, fin_nx, fin_ex, finP_rt, finP_nx, op_addI, op_subI, cmp_lt, cmp_le, cmp_gt, cmp_ge, cmp_eqI, cmp_neI, cmp_eqB, cmp_neB, aug_add, ix_of, cmp_isN, cmp_isNotN, bi_lenL, bi_lenT, bi_listL, bi_listT, bi_tupL, bi_tupT, bi_sum, bi_int, bi_all, bi_any, items_L, items_T, dat_d, own_d, at0, at1, at2, al0, al1,  List.getD_cons_zero, List.getD_cons_succ, List.set_cons_zero, List.set_cons_succ, List.length_cons, List.length_nil, Option.map_some, Option.bind_some, Option.map_none, reduceIte, Nat.reduceLT, Nat.reduceAdd, wipeE, List.length_map, List.getElem?_cons_zero, List.getElem?_cons_succ, bind_dP, at0d, at1d, at2d, cut2d, ite_and, ite_or, ite_int], fun _ => ⟨_, by simp -implicitDefEqProofs only [evO_some, bnd_ok, bnd_ex, lift_some, liftC_dat, liftC_own, fl_ok, fl_ex, then_nx, then_rt, then_ex, data_dat, data_own, data_ex, truth_ok, truth_ex, readC_dat, readC_own, peekC_dat, peekC_own, ev_var, ev_lit, ev_gc, ev_fnm, ev_bin, ev_not, ev_and, ev_or, ev_cmp, ev_chn, ev_ite, ev_tup, ev_lst, ev_idx, ev_vix, ev_vln, ev_vcl, ev_vcr, ev_slc, ev_rev, ev_app, ev_appP, ev_bi, ev_mn, ev_rgl, ev_rgt, ev_isi, ev_mth, ev_neg, evs_nil, evs_cons, evo_non, evo_som, evc_non, evc_som, evi_seq, evi_rng, callR_dat, callR_own, callR_ex, callA_eq, callP_own, callRp_ok, callRp_ex, putP_own, xss_nil, xss_cons, xs_set, stC_ok, bindS_some, xs_asg, xs_tpar, bind_nm, bind_tp, binds_nil, binds_cons, ownC_some, ownQ_own, ownAt_eq, xs_sti, xs_aug, xs_apd, xs_xtd, xs_exp, xs_iff, xs_for, xs_whl, xs_ret, xs_rse, xs_pas, xs_try, tryE_rt, tryE_nx, tryE_ex, fin_rt, fin_nx, fin_ex, finP_rt, finP_nx, op_addI, op_subI, cmp_lt, cmp_le, cmp_gt, cmp_ge, cmp_eqI, cmp_neI, cmp_eqB, cmp_neB, aug_add, ix_of, cmp_isN, cmp_isNotN, bi_lenL, bi_lenT, bi_listL, bi_listT, bi_tupL, bi_tupT, bi_sum, bi_int, bi_all, bi_any, items_L, items_T, dat_d, own_d, at0, at1, at2, al0, al1,  List.getD_cons_zero, List.getD_cons_succ, List.set_cons_zero, List.set_cons_succ, List.length_cons, List.length_nil, Option.map_some, Option.bind_some, Option.map_none, reduceIte, Nat.reduceLT, Nat.reduceAdd, wipeE, List.length_map, List.getElem?_cons_zero, List.getElem?_cons_succ, bind_dP, at0d, at1d, at2d, cut2d, ite_and, ite_or, ite_int]; rfl, by simp -implicitDefEqProofs only [evO_some, bnd_ok, bnd_ex, lift_some, liftC_dat, liftC_own, fl_ok, fl_ex, then_nx, then_rt, then_ex, data_dat, data_own, data_ex, truth_ok, truth_ex, readC_dat, readC_own, peekC_dat, peekC_own, ev_var, ev_lit, ev_gc, ev_fnm, ev_bin, ev_not, ev_and, ev_or, ev_cmp, ev_chn, ev_ite, ev_tup, ev_lst, ev_idx, ev_vix, ev_vln, ev_vcl, ev_vcr, ev_slc, ev_rev, ev_app, ev_appP, ev_bi, ev_mn, ev_rgl, ev_rgt, ev_isi, ev_mth, ev_neg, evs_nil, evs_cons, evo_non, evo_som, evc_non, evc_som, evi_seq, evi_rng, callR_dat, callR_own, callR_ex, callA_eq, callP_own, callRp_ok, callRp_ex, putP_own, xss_nil, xss_cons, xs_set, stC_ok, bindS_some, xs_asg, xs_tpar, bind_nm, bind_tp, binds_nil, binds_cons, ownC_some, ownQ_own, ownAt_eq, xs_sti, xs_aug, xs_apd, xs_xtd, xs_exp, xs_iff, xs_for, xs_whl, xs_ret, xs_rse, xs_pas, xs_try, tryE_rt, tryE_nx, tryE_ex, fin_rt, fin_nx, fin_ex, finP_rt, finP_nx, op_addI, op_subI, cmp_lt, cmp_le, cmp_gt, cmp_ge, cmp_eqI, cmp_neI, cmp_eqB, cmp_neB, aug_add, ix_of, cmp_isN, cmp_isNotN, bi_lenL, bi_lenT, bi_listL, bi_listT, bi_tupL, bi_tupT, bi_sum, bi_int, bi_all, bi_any, items_L, items_T, dat_d, own_d, at0, at1, at2, al0, al1,  List.getD_cons_zero, List.getD_cons_succ, List.set_cons_zero, List.set_cons_succ, List.length_cons, List.length_nil, Option.map_some, Option.bind_some, Option.map_none, reduceIte, Nat.reduceLT, Nat.reduceAdd, wipeE, List.length_map, List.getElem?_cons_zero, List.getElem?_cons_succ, bind_dP, at0d, at1d, at2d, cut2d, ite_and, ite_or, ite_int]⟩⟩]
      have g1 : opD .Add (dL one) (dL two) = some (.own false ((one ++ two).map .int)) := by
        rw [op_addL (by rw [List.length_map, List.length_map]; omega), List.map_append]
      have hbl : bl.length ≤ 1000 := by have := p.len ge; omega
      have g2 : opD .Add (.lst ((bl.filter fun b => decide (b ≠ one ∧ b ≠ two)).map dL)) (.lst [dL s]) = some (.own false (((bl.filter fun b => decide (b ≠ one ∧ b ≠ two)) ++ [s]).map dL)) := by
        have := List.length_filter_le (fun b => decide (b ≠ one ∧ b ≠ two)) bl
        rw [op_addL (by rw [List.length_map]; simp only [List.length_cons, List.length_nil]; omega), List.map_append]
        rfl
      simp -implicitDefEqProofs only [evO_some, bnd_ok, bnd_ex, lift_some, liftC_dat, liftC_own, fl_ok, fl_ex, then_nx, then_rt, then_ex, data_dat, data_own, data_ex, truth_ok, truth_ex, readC_dat, readC_own, peekC_dat, peekC_own, ev_var, ev_lit, ev_gc, ev_fnm, ev_bin, ev_not, ev_and, ev_or, ev_cmp, ev_chn, ev_ite, ev_tup, ev_lst, ev_idx, ev_vix, ev_vln, ev_vcl, ev_vcr, ev_slc, ev_rev, ev_app, ev_appP, ev_bi, ev_mn, ev_rgl, ev_rgt, ev_isi, ev_mth, ev_neg, evs_nil, evs_cons, evo_non, evo_som, evc_non, evc_som, evi_seq, evi_rng, callR_dat, callR_own, callR_ex, callA_eq, callP_own, callRp_ok, callRp_ex, putP_own, xss_nil, xss_cons, xs_set, stC_ok, bindS_some, xs_asg, xs_tpar, bind_nm, bind_tp, binds_nil, binds_cons, ownC_some, ownQ_own, ownAt_eq, xs_sti, xs_aug, xs_apd, xs_xtd, xs_exp, xs_iff, xs_for, xs_whl, xs_ret, xs_rse, xs_pas, xs_try, tryE_rt, tryE_nx, tryE_ex, fin_rt, fin_nx, fin_ex, finP_rt, finP_nx, op_addI, op_subI, cmp_lt, cmp_le, cmp_gt, cmp_ge, cmp_eqI, cmp_neI, cmp_eqB, cmp_neB, aug_add, ix_of, cmp_isN, cmp_isNotN, bi_lenL, bi_lenT, bi_listL, bi_listT, bi_tupL, bi_tupT, bi_sum, bi_int, bi_all, bi_any, items_L, items_T, dat_d, own_d, at0, at1, at2, al0, al1,  List.getD_cons_zero, List.getD_cons_succ, List.set_cons_zero, List.set_cons_succ, List.length_cons, List.length_nil, Option.map_some, Option.bind_some, Option.map_none, reduceIte, Nat.reduceLT, Nat.reduceAdd, wipeE, List.length_map, List.getElem?_cons_zero, List.getElem?_cons_succ, bind_dP, at0d, at1d, at2d, cut2d, ite_and, ite_or, ite_int, g1, bi_sortL s3 s4, g2]
      refine ⟨_, rfl, _, _, _, _, _, _, _, _, rfl, .inl rfl, ?_⟩
      rw [← gen_snoc]
      exact p.join ge m1 m2 a1 a2 q s1 s2
  · obtain ⟨bl, S, a, b, c, d, x, y, rfl, hS, p⟩ := he
    have ge := gen_eqv n (rl L)
    have hr : ∀ r, readC S 2 (.dat (.int n) :: .dat X :: S :: r) = .ok (.dat (.lst (bl.map dL))) (.dat (.int n) :: .dat X :: .dat (.lst (bl.map dL)) :: r) := fun r => by rcases hS with rfl | rfl <;> rfl
    rw [ev_map bl dL dI (by simp -implicitDefEqProofs only [evO_some, bnd_ok, bnd_ex, lift_some, liftC_dat, liftC_own, fl_ok, fl_ex, then_nx, then_rt, then_ex, data_dat, data_own, data_ex, truth_ok, truth_ex, readC_dat, readC_own, peekC_dat, peekC_own, ev_var, ev_lit, ev_gc, ev_fnm, ev_bin, ev_not, ev_and, ev_or, ev_cmp, ev_chn, ev_ite, ev_tup, ev_lst, ev_idx, ev_vix, ev_vln, ev_vcl, ev_vcr, ev_slc, ev_rev, ev_app, ev_appP, ev_bi, ev_mn, ev_rgl, ev_rgt, ev_isi, ev_mth, ev_neg, evs_nil, evs_cons, evo_non, evo_som, evc_non, evc_som, evi_seq, evi_rng, callR_dat, callR_own, callR_ex, callA_eq, callP_own, callRp_ok, callRp_ex, putP_own, xss_nil, xss_cons, xs_set, stC_ok, bindS_some, xs_asg, xs_tpar, bind_nm, bind_tp, binds_nil, binds_cons, ownC_some, ownQ_own, ownAt_eq, xs_sti, xs_aug, xs_apd, xs_xtd, xs_exp, xs_iff, xs_for, xs_whl, xs_ret, xs_rse, xs_pas, xs_try, tryE_rt, tryE_nx, tryE_ex, fin_rt, fin_nx, fin_ex, finP_rt, finP_nx, op_addI, op_subI, cmp_lt, cmp_le, cmp_gt, cmp_ge, cmp_eqI, cmp_neI, cmp_eqB, cmp_neB, aug_add, ix_of, cmp_isN, cmp_isNotN, bi_lenL, bi_lenT, bi_listL, bi_listT, bi_tupL, bi_tupT, bi_sum, bi_int, bi_all, bi_any, items_L, items_T, dat_d, own_d, at0, at1, at2, al0, al1,  List.getD_cons_zero, List.getD_cons_succ, List.set_cons_zero, List.set_cons_succ, List.length_cons, List.length_nil, Option.map_some, Option.bind_some, Option.map_none, reduceIte, Nat.reduceLT, Nat.reduceAdd, wipeE, List.length_map, List.getElem?_cons_zero, List.getElem?_cons_succ, bind_dP, at0d, at1d, at2d, cut2d, ite_and, ite_or, ite_int, hr]; rfl) fun y hy => ⟨_, by simp -implicitDefEqProofs only [evO_some, bnd_ok, bnd_ex, lift_some, liftC_dat, liftC_own, fl_ok, fl_ex, then_nx, then_rt, then_ex, data_dat, data_own, data_ex, truth_ok, truth_ex, readC_dat, readC_own, peekC_dat, peekC_own, ev_var, ev_lit, ev_gc, ev_fnm, ev_bin, ev_not, ev_and, ev_or, ev_cmp, ev_chn, ev_ite, ev_tup, ev_lst, ev_idx, ev_vix, ev_vln, ev_vcl, ev_vcr, ev_slc, ev_rev, ev_app, ev_appP, ev_bi, ev_mn, ev_rgl, ev_rgt, ev_isi, ev_mth, ev_neg, evs_nil, evs_cons, evo_non, evo_som, evc_non, evc_som, evi_seq, evi_rng, callR_dat, callR_own, callR_ex, callA_eq, callP_own, callRp_ok, callRp_ex, putP_own, xss_nil, xss_cons, xs_set, stC_ok, bindS_some, xs_asg, xs_tpar, bind_nm, bind_tp, binds_nil, binds_cons, ownC_some, ownQ_own, ownAt_eq, xs_sti, xs_aug, xs_apd, xs_xtd, xs_exp, xs_iff, xs_for, xs_whl, xs_ret, xs_rse, xs_pas, xs_try, tryE_rt, tryE_nx, tryE_ex, fin_rt, fin_nx, fin_ex, finP_rt, finP_nx, op_addI, op_subI, cmp_lt, cmp_le, cmp_gt, cmp_ge, cmp_eqI, cmp_neI, cmp_eqB, cmp_neB, aug_add, ix_of, cmp_isN, cmp_isNotN, bi_lenL, bi_lenT, bi_listL, bi_listT, bi_tupL, bi_tupT, bi_sum, bi_int, bi_all, bi_any, items_L, items_T, dat_d, own_d, at0, at1, at2, al0, al1,  List.getD_cons_zero, List.getD_cons_succ, List.set_cons_zero, List.set_cons_succ, List.length_cons, List.length_nil, Option.map_some, Option.bind_some, Option.map_none, reduceIte, Nat.reduceLT, Nat.reduceAdd, wipeE, List.length_map, List.getElem?_cons_zero, List.getElem?_cons_succ, bind_dP, at0d, at1d, at2d, cut2d, ite_and, ite_or, ite_int]; rfl, by simp -implicitDefEqProofs only [evO_some, bnd_ok, bnd_ex, lift_some, liftC_dat, liftC_own, fl_ok, fl_ex, then_nx, then_rt, then_ex, data_dat, data_own, data_ex, truth_ok, truth_ex, readC_dat, readC_own, peekC_dat, peekC_own, ev_var, ev_lit, ev_gc, ev_fnm, ev_bin, ev_not, ev_and, ev_or, ev_cmp, ev_chn, ev_ite, ev_tup, ev_lst, ev_idx, ev_vix, ev_vln, ev_vcl, ev_vcr, ev_slc, ev_rev, ev_app, ev_appP, ev_bi, ev_mn, ev_rgl, ev_rgt, ev_isi, ev_mth, ev_neg, evs_nil, evs_cons, evo_non, evo_som, evc_non, evc_som, evi_seq, evi_rng, callR_dat, callR_own, callR_ex, callA_eq, callP_own, callRp_ok, callRp_ex, putP_own, xss_nil, xss_cons, xs_set, stC_ok, bindS_some, xs_asg, xs_tpar, bind_nm, bind_tp, binds_nil, binds_cons, ownC_some, ownQ_own, ownAt_eq, xs_sti, xs_aug, xs_apd, xs_xtd, xs_exp, xs_iff, xs_for, xs_whl, xs_ret, xs_rse, xs_pas, xs_try, tryE_rt, tryE_nx, tryE_ex, fin_rt, fin_nx, fin_ex, finP_rt, finP_nx, op_addI, op_subI, cmp_lt, cmp_le, cmp_gt, cmp_ge, cmp_eqI, cmp_neI, cmp_eqB, cmp_neB, aug_add, ix_of, cmp_isN, cmp_isNotN, bi_lenL, bi_lenT, bi_listL, bi_listT, bi_tupL, bi_tupT, bi_sum, bi_int, bi_all, bi_any, items_L, items_T, dat_d, own_d, at0, at1, at2, al0, al1,  List.getD_cons_zero, List.getD_cons_succ, List.set_cons_zero, List.set_cons_succ, List.length_cons, List.length_nil, Option.map_some, Option.bind_some, Option.map_none, reduceIte, Nat.reduceLT, Nat.reduceAdd, wipeE, List.length_map, List.getElem?_cons_zero, List.getElem?_cons_succ, bind_dP, at0d, at1d, at2d, cut2d, ite_and, ite_or, ite_int]⟩]
    simp -implicitDefEqProofs only [evO_some, bnd_ok, bnd_ex, lift_some, liftC_dat, liftC_own, fl_ok, fl_ex, then_nx, then_rt, then_ex, data_dat, data_own, data_ex, truth_ok, truth_ex, readC_dat, readC_own, peekC_dat, peekC_own, ev_var, ev_lit, ev_gc, ev_fnm, ev_bin, ev_not, ev_and, ev_or, ev_cmp, ev_chn, ev_ite, ev_tup, ev_lst, ev_idx, ev_vix, ev_vln, ev_vcl, ev_vcr, ev_slc, ev_rev, ev_app, ev_appP, ev_bi, ev_mn, ev_rgl, ev_rgt, ev_isi, ev_mth, ev_neg, evs_nil, evs_cons, evo_non, evo_som, evc_non, evc_som, evi_seq, evi_rng, callR_dat, callR_own, callR_ex, callA_eq, callP_own, callRp_ok, callRp_ex, putP_own, xss_nil, xss_cons, xs_set, stC_ok, bindS_some, xs_asg, xs_tpar, bind_nm, bind_tp, binds_nil, binds_cons, ownC_some, ownQ_own, ownAt_eq, xs_sti, xs_aug, xs_apd, xs_xtd, xs_exp, xs_iff, xs_for, xs_whl, xs_ret, xs_rse, xs_pas, xs_try, tryE_rt, tryE_nx, tryE_ex, fin_rt, fin_nx, fin_ex, finP_rt, finP_nx, op_addI, op_subI, cmp_lt, cmp_le, cmp_gt, cmp_ge, cmp_eqI, cmp_neI, cmp_eqB, cmp_neB, aug_add, ix_of, cmp_isN, cmp_isNotN, bi_lenL, bi_lenT, bi_listL, bi_listT, bi_tupL, bi_tupT, bi_sum, bi_int, bi_all, bi_any, items_L, items_T, dat_d, own_d, at0, at1, at2, al0, al1,  List.getD_cons_zero, List.getD_cons_succ, List.set_cons_zero, List.set_cons_succ, List.length_cons, List.length_nil, Option.map_some, Option.bind_some, Option.map_none, reduceIte, Nat.reduceLT, Nat.reduceAdd, wipeE, List.length_map, List.getElem?_cons_zero, List.getElem?_cons_succ, bind_dP, at0d, at1d, at2d, cut2d, ite_and, ite_or, ite_int, bi_sortL (p.sortable ge (by omega)) (p.sort ge)]

theorem sp__law_some {j : Nat} {q : List DD} {m k : Int} (h : PoolOk q) (m0 : 0 ≤ m) (m1 : m ≤ 100) (k0 : 0 ≤ k) (k1 : k ≤ 100) : Rets (rn (j + 3) i__law_some (some q) [.int m, .int k]) fun c q' => ∃ a : Dg, c = .dat a.d ∧ a.Ok ∧ a.m = m ∧ a.k = k ∧ PoolOk q' := by
  rw [st__law_some, b__law_some]
  by_cases hz : 0 < m + k
  · obtain ⟨v, q1, d1, d2, d3, d4⟩ := sp__law_draw (k := j) (many := m + k + 2) h (by omega) (by omega)
    simp -implicitDefEqProofs only [evO_some, bnd_ok, bnd_ex, lift_some, liftC_dat, liftC_own, fl_ok, fl_ex, then_nx, then_rt, then_ex, data_dat, data_own, data_ex, truth_ok, truth_ex, readC_dat, readC_own, peekC_dat, peekC_own, ev_var, ev_lit, ev_gc, ev_fnm, ev_bin, ev_not, ev_and, ev_or, ev_cmp, ev_chn, ev_ite, ev_tup, ev_lst, ev_idx, ev_vix, ev_vln, ev_vcl, ev_vcr, ev_slc, ev_rev, ev_app, ev_appP, ev_bi, ev_mn, ev_rgl, ev_rgt, ev_isi, ev_mth, ev_neg, evs_nil, evs_cons, evo_non, evo_som, evc_non, evc_som, evi_seq, evi_rng, callR_dat, callR_own, callR_ex, callA_eq, callP_own, callRp_ok, callRp_ex, putP_own, xss_nil, xss_cons, xs_set, stC_ok, bindS_some, xs_asg, xs_tpar, bind_nm, bind_tp, binds_nil, binds_cons, ownC_some, ownQ_own, ownAt_eq, xs_sti, xs_aug, xs_apd, xs_xtd, xs_exp, xs_iff, xs_for, xs_whl, xs_ret, xs_rse, xs_pas, xs_try, tryE_rt, tryE_nx, tryE_ex, fin_rt, fin_nx, fin_ex, finP_rt, finP_nx, op_addI, op_subI, cmp_lt, cmp_le, cmp_gt, cmp_ge, cmp_eqI, cmp_neI, cmp_eqB, cmp_neB, aug_add, ix_of, cmp_isN, cmp_isNotN, bi_lenL, bi_lenT, bi_listL, bi_listT, bi_tupL, bi_tupT, bi_sum, bi_int, bi_all, bi_any, items_L, items_T, dat_d, own_d, at0, at1, at2, al0, al1,  List.getD_cons_zero, List.getD_cons_succ, List.set_cons_zero, List.set_cons_succ, List.length_cons, List.length_nil, Option.map_some, Option.bind_some, Option.map_none, reduceIte, Nat.reduceLT, Nat.reduceAdd, wipeE, List.length_map, List.getElem?_cons_zero, List.getElem?_cons_succ, bind_dP, at0d, at1d, at2d, cut2d, ite_and, ite_or, ite_int, ownC_own, ownD_some, set5_1, set5_2, set5_3, at5_0, at5_1, at5_2, at5_3, at5_4, Int.reduceLT, Int.reduceLE, Int.reduceNeg, and_self, true_and, op_mulI, op_mod, op_div, decide_true, decide_false, Bool.false_eq_true, if_false, if_true, hz, d1]
    rw [rngD_one (by omega) (by omega)]
    simp -implicitDefEqProofs only [evO_some, bnd_ok, bnd_ex, lift_some, liftC_dat, liftC_own, fl_ok, fl_ex, then_nx, then_rt, then_ex, data_dat, data_own, data_ex, truth_ok, truth_ex, readC_dat, readC_own, peekC_dat, peekC_own, ev_var, ev_lit, ev_gc, ev_fnm, ev_bin, ev_not, ev_and, ev_or, ev_cmp, ev_chn, ev_ite, ev_tup, ev_lst, ev_idx, ev_vix, ev_vln, ev_vcl, ev_vcr, ev_slc, ev_rev, ev_app, ev_appP, ev_bi, ev_mn, ev_rgl, ev_rgt, ev_isi, ev_mth, ev_neg, evs_nil, evs_cons, evo_non, evo_som, evc_non, evc_som, evi_seq, evi_rng, callR_dat, callR_own, callR_ex, callA_eq, callP_own, callRp_ok, callRp_ex, putP_own, xss_nil, xss_cons, xs_set, stC_ok, bindS_some, xs_asg, xs_tpar, bind_nm, bind_tp, binds_nil, binds_cons, ownC_some, ownQ_own, ownAt_eq, xs_sti, xs_aug, xs_apd, xs_xtd, xs_exp, xs_iff, xs_for, xs_whl, xs_ret, xs_rse, xs_pas, xs_try, tryE_rt, tryE_nx, tryE_ex, fin_rt, fin_nx, fin_ex, finP_rt, finP_nx, op_addI, op_subI, cmp_lt, cmp_le, cmp_gt, cmp_ge, cmp_eqI, cmp_neI, cmp_eqB, cmp_neB, aug_add, ix_of, cmp_isN, cmp_isNotN, bi_lenL, bi_lenT, bi_listL, bi_listT, bi_tupL, bi_tupT, bi_sum, bi_int, bi_all, bi_any, items_L, items_T, dat_d, own_d, at0, at1, at2, al0, al1,  List.getD_cons_zero, List.getD_cons_succ, List.set_cons_zero, List.set_cons_succ, List.length_cons, List.length_nil, Option.map_some, Option.bind_some, Option.map_none, reduceIte, Nat.reduceLT, Nat.reduceAdd, wipeE, List.length_map, List.getElem?_cons_zero, List.getElem?_cons_succ, bind_dP, at0d, at1d, at2d, cut2d, ite_and, ite_or, ite_int, ownC_own, ownD_some, set5_1, set5_2, set5_3, at5_0, at5_1, at5_2, at5_3, at5_4, Int.reduceLT, Int.reduceLE, Int.reduceNeg, and_self, true_and, op_mulI, op_mod, op_div, decide_true, decide_false, Bool.false_eq_true, if_false, if_true]
    obtain ⟨e', h1, q', L, c, rfl, hq, hL⟩ := forL_ok (f := forB (rn (j + 2)) nm.gv (.nm 5) (.cons (.apd 4 (.tup (.cons (.app i__law_draw (some 0) (.cons (.var 3) .nil)) (.cons (.app i__law_draw (some 0) (.cons (.var 3) .nil)) .nil)))) .nil)) (enc := Z.D.int) (xs := rng v) (e := [.own true q1, .dat (.int m), .dat (.int k), .dat (.int (m + k)), .own false [], .no])
      (I := fun pre e => ∃ q' L c, e = [.own true q', .dat (.int m), .dat (.int k), .dat (.int (m + k)), .own false (L.map dP), c] ∧ PoolOk q' ∧ inR (m + k) L ∧ L.length = pre.length) ⟨_, [], _, rfl, d4, (fun _ z => nomatch z), rfl⟩ (fun pre x post hx e he => by
        obtain ⟨q', L, c, rfl, hq, hL, hl⟩ := he
        obtain ⟨v1, q2, a1, a2, a3, a4⟩ := sp__law_draw (k := j) (many := m + k) hq (by omega) (by omega)
        obtain ⟨v2, q3, b1, b2, b3, b4⟩ := sp__law_draw (k := j) (many := m + k) a4 (by omega) (by omega)
        have hlen : L.length < LIM := by
          have : pre.length ≤ (rng v).length := by rw [hx]; simp
          rw [len_rng] at this
          unfold LIM; omega
        rw [forB_some (bind_nm (by simp))]
        simp -implicitDefEqProofs only [evO_some, bnd_ok, bnd_ex, lift_some, liftC_dat, liftC_own, fl_ok, fl_ex, then_nx, then_rt, then_ex, data_dat, data_own, data_ex, truth_ok, truth_ex, readC_dat, readC_own, peekC_dat, peekC_own, ev_var, ev_lit, ev_gc, ev_fnm, ev_bin, ev_not, ev_and, ev_or, ev_cmp, ev_chn, ev_ite, ev_tup, ev_lst, ev_idx, ev_vix, ev_vln, ev_vcl, ev_vcr, ev_slc, ev_rev, ev_app, ev_appP, ev_bi, ev_mn, ev_rgl, ev_rgt, ev_isi, ev_mth, ev_neg, evs_nil, evs_cons, evo_non, evo_som, evc_non, evc_som, evi_seq, evi_rng, callR_dat, callR_own, callR_ex, callA_eq, callP_own, callRp_ok, callRp_ex, putP_own, xss_nil, xss_cons, xs_set, stC_ok, bindS_some, xs_asg, xs_tpar, bind_nm, bind_tp, binds_nil, binds_cons, ownC_some, ownQ_own, ownAt_eq, xs_sti, xs_aug, xs_apd, xs_xtd, xs_exp, xs_iff, xs_for, xs_whl, xs_ret, xs_rse, xs_pas, xs_try, tryE_rt, tryE_nx, tryE_ex, fin_rt, fin_nx, fin_ex, finP_rt, finP_nx, op_addI, op_subI, cmp_lt, cmp_le, cmp_gt, cmp_ge, cmp_eqI, cmp_neI, cmp_eqB, cmp_neB, aug_add, ix_of, cmp_isN, cmp_isNotN, bi_lenL, bi_lenT, bi_listL, bi_listT, bi_tupL, bi_tupT, bi_sum, bi_int, bi_all, bi_any, items_L, items_T, dat_d, own_d, at0, at1, at2, al0, al1,  List.getD_cons_zero, List.getD_cons_succ, List.set_cons_zero, List.set_cons_succ, List.length_cons, List.length_nil, Option.map_some, Option.bind_some, Option.map_none, reduceIte, Nat.reduceLT, Nat.reduceAdd, wipeE, List.length_map, List.getElem?_cons_zero, List.getElem?_cons_succ, bind_dP, at0d, at1d, at2d, cut2d, ite_and, ite_or, ite_int, ownC_own, ownD_some, set5_1, set5_2, set5_3, at5_0, at5_1, at5_2, at5_3, at5_4, Int.reduceLT, Int.reduceLE, Int.reduceNeg, and_self, true_and, op_mulI, op_mod, op_div, decide_true, decide_false, Bool.false_eq_true, if_false, if_true, a1, b1, hlen]
        refine ⟨_, rfl, q3, L ++ [(v1, v2)], _, by rw [List.map_append]; rfl, b4, fun l hl' => ?_, by simp [hl]⟩
        rcases List.mem_append.mp hl' with z | z
        · exact hL l z
        · have : l = (v1, v2) := by simpa using z
          subst this
          exact ⟨⟨a2, a3⟩, b2, b3⟩)
    rw [h1]
    simp -implicitDefEqProofs only [evO_some, bnd_ok, bnd_ex, lift_some, liftC_dat, liftC_own, fl_ok, fl_ex, then_nx, then_rt, then_ex, data_dat, data_own, data_ex, truth_ok, truth_ex, readC_dat, readC_own, peekC_dat, peekC_own, ev_var, ev_lit, ev_gc, ev_fnm, ev_bin, ev_not, ev_and, ev_or, ev_cmp, ev_chn, ev_ite, ev_tup, ev_lst, ev_idx, ev_vix, ev_vln, ev_vcl, ev_vcr, ev_slc, ev_rev, ev_app, ev_appP, ev_bi, ev_mn, ev_rgl, ev_rgt, ev_isi, ev_mth, ev_neg, evs_nil, evs_cons, evo_non, evo_som, evc_non, evc_som, evi_seq, evi_rng, callR_dat, callR_own, callR_ex, callA_eq, callP_own, callRp_ok, callRp_ex, putP_own, xss_nil, xss_cons, xs_set, stC_ok, bindS_some, xs_asg, xs_tpar, bind_nm, bind_tp, binds_nil, binds_cons, ownC_some, ownQ_own, ownAt_eq, xs_sti, xs_aug, xs_apd, xs_xtd, xs_exp, xs_iff, xs_for, xs_whl, xs_ret, xs_rse, xs_pas, xs_try, tryE_rt, tryE_nx, tryE_ex, fin_rt, fin_nx, fin_ex, finP_rt, finP_nx, op_addI, op_subI, cmp_lt, cmp_le, cmp_gt, cmp_ge, cmp_eqI, cmp_neI, cmp_eqB, cmp_neB, aug_add, ix_of, cmp_isN, cmp_isNotN, bi_lenL, bi_lenT, bi_listL, bi_listT, bi_tupL, bi_tupT, bi_sum, bi_int, bi_all, bi_any, items_L, items_T, dat_d, own_d, at0, at1, at2, al0, al1,  List.getD_cons_zero, List.getD_cons_succ, List.set_cons_zero, List.set_cons_succ, List.length_cons, List.length_nil, Option.map_some, Option.bind_some, Option.map_none, reduceIte, Nat.reduceLT, Nat.reduceAdd, wipeE, List.length_map, List.getElem?_cons_zero, List.getElem?_cons_succ, bind_dP, at0d, at1d, at2d, cut2d, ite_and, ite_or, ite_int, ownC_own, ownD_some, set5_1, set5_2, set5_3, at5_0, at5_1, at5_2, at5_3, at5_4, Int.reduceLT, Int.reduceLE, Int.reduceNeg, and_self, true_and, op_mulI, op_mod, op_div, decide_true, decide_false, Bool.false_eq_true, if_false, if_true]
    rw [sp__law_merge (by omega) (by omega) hL.1 rfl]
    simp -implicitDefEqProofs only [evO_some, bnd_ok, bnd_ex, lift_some, liftC_dat, liftC_own, fl_ok, fl_ex, then_nx, then_rt, then_ex, data_dat, data_own, data_ex, truth_ok, truth_ex, readC_dat, readC_own, peekC_dat, peekC_own, ev_var, ev_lit, ev_gc, ev_fnm, ev_bin, ev_not, ev_and, ev_or, ev_cmp, ev_chn, ev_ite, ev_tup, ev_lst, ev_idx, ev_vix, ev_vln, ev_vcl, ev_vcr, ev_slc, ev_rev, ev_app, ev_appP, ev_bi, ev_mn, ev_rgl, ev_rgt, ev_isi, ev_mth, ev_neg, evs_nil, evs_cons, evo_non, evo_som, evc_non, evc_som, evi_seq, evi_rng, callR_dat, callR_own, callR_ex, callA_eq, callP_own, callRp_ok, callRp_ex, putP_own, xss_nil, xss_cons, xs_set, stC_ok, bindS_some, xs_asg, xs_tpar, bind_nm, bind_tp, binds_nil, binds_cons, ownC_some, ownQ_own, ownAt_eq, xs_sti, xs_aug, xs_apd, xs_xtd, xs_exp, xs_iff, xs_for, xs_whl, xs_ret, xs_rse, xs_pas, xs_try, tryE_rt, tryE_nx, tryE_ex, fin_rt, fin_nx, fin_ex, finP_rt, finP_nx, op_addI, op_subI, cmp_lt, cmp_le, cmp_gt, cmp_ge, cmp_eqI, cmp_neI, cmp_eqB, cmp_neB, aug_add, ix_of, cmp_isN, cmp_isNotN, bi_lenL, bi_lenT, bi_listL, bi_listT, bi_tupL, bi_tupT, bi_sum, bi_int, bi_all, bi_any, items_L, items_T, dat_d, own_d, at0, at1, at2, al0, al1,  List.getD_cons_zero, List.getD_cons_succ, List.set_cons_zero, List.set_cons_succ, List.length_cons, List.length_nil, Option.map_some, Option.bind_some, Option.map_none, reduceIte, Nat.reduceLT, Nat.reduceAdd, wipeE, List.length_map, List.getElem?_cons_zero, List.getElem?_cons_succ, bind_dP, at0d, at1d, at2d, cut2d, ite_and, ite_or, ite_int, ownC_own, ownD_some, set5_1, set5_2, set5_3, at5_0, at5_1, at5_2, at5_3, at5_4, Int.reduceLT, Int.reduceLE, Int.reduceNeg, and_self, true_and, op_mulI, op_mod, op_div, decide_true, decide_false, Bool.false_eq_true, if_false, if_true]
    exact ⟨_, _, rfl, mk m k L, rfl, mk_ok m0 m1 k0 k1, rfl, rfl, hq⟩
  · have e1 : m + k = 0 := by omega
    simp -implicitDefEqProofs only [evO_some, bnd_ok, bnd_ex, lift_some, liftC_dat, liftC_own, fl_ok, fl_ex, then_nx, then_rt, then_ex, data_dat, data_own, data_ex, truth_ok, truth_ex, readC_dat, readC_own, peekC_dat, peekC_own, ev_var, ev_lit, ev_gc, ev_fnm, ev_bin, ev_not, ev_and, ev_or, ev_cmp, ev_chn, ev_ite, ev_tup, ev_lst, ev_idx, ev_vix, ev_vln, ev_vcl, ev_vcr, ev_slc, ev_rev, ev_app, ev_appP, ev_bi, ev_mn, ev_rgl, ev_rgt, ev_isi, ev_mth, ev_neg, evs_nil, evs_cons, evo_non, evo_som, evc_non, evc_som, evi_seq, evi_rng, callR_dat, callR_own, callR_ex, callA_eq, callP_own, callRp_ok, callRp_ex, putP_own, xss_nil, xss_cons, xs_set, stC_ok, bindS_some, xs_asg, xs_tpar, bind_nm, bind_tp, binds_nil, binds_cons, ownC_some, ownQ_own, ownAt_eq, xs_sti, xs_aug, xs_apd, xs_xtd, xs_exp, xs_iff, xs_for, xs_whl, xs_ret, xs_rse, xs_pas, xs_try, tryE_rt, tryE_nx, tryE_ex, fin_rt, fin_nx, fin_ex, finP_rt, finP_nx, op_addI, op_subI, cmp_lt, cmp_le, cmp_gt, cmp_ge, cmp_eqI, cmp_neI, cmp_eqB, cmp_neB, aug_add, ix_of, cmp_isN, cmp_isNotN, bi_lenL, bi_lenT, bi_listL, bi_listT, bi_tupL, bi_tupT, bi_sum, bi_int, bi_all, bi_any, items_L, items_T, dat_d, own_d, at0, at1, at2, al0, al1,  List.getD_cons_zero, List.getD_cons_succ, List.set_cons_zero, List.set_cons_succ, List.length_cons, List.length_nil, Option.map_some, Option.bind_some, Option.map_none, reduceIte, Nat.reduceLT, Nat.reduceAdd, wipeE, List.length_map, List.getElem?_cons_zero, List.getElem?_cons_succ, bind_dP, at0d, at1d, at2d, cut2d, ite_and, ite_or, ite_int, ownC_own, ownD_some, set5_1, set5_2, set5_3, at5_0, at5_1, at5_2, at5_3, at5_4, Int.reduceLT, Int.reduceLE, Int.reduceNeg, and_self, true_and, op_mulI, op_mod, op_div, decide_true, decide_false, Bool.false_eq_true, if_false, if_true, hz]
    rw [sp__law_merge (L := []) (by omega) (by omega) (fun _ z => nomatch z) rfl]
    simp -implicitDefEqProofs only [evO_some, bnd_ok, bnd_ex, lift_some, liftC_dat, liftC_own, fl_ok, fl_ex, then_nx, then_rt, then_ex, data_dat, data_own, data_ex, truth_ok, truth_ex, readC_dat, readC_own, peekC_dat, peekC_own, ev_var, ev_lit, ev_gc, ev_fnm, ev_bin, ev_not, ev_and, ev_or, ev_cmp, ev_chn, ev_ite, ev_tup, ev_lst, ev_idx, ev_vix, ev_vln, ev_vcl, ev_vcr, ev_slc, ev_rev, ev_app, ev_appP, ev_bi, ev_mn, ev_rgl, ev_rgt, ev_isi, ev_mth, ev_neg, evs_nil, evs_cons, evo_non, evo_som, evc_non, evc_som, evi_seq, evi_rng, callR_dat, callR_own, callR_ex, callA_eq, callP_own, callRp_ok, callRp_ex, putP_own, xss_nil, xss_cons, xs_set, stC_ok, bindS_some, xs_asg, xs_tpar, bind_nm, bind_tp, binds_nil, binds_cons, ownC_some, ownQ_own, ownAt_eq, xs_sti, xs_aug, xs_apd, xs_xtd, xs_exp, xs_iff, xs_for, xs_whl, xs_ret, xs_rse, xs_pas, xs_try, tryE_rt, tryE_nx, tryE_ex, fin_rt, fin_nx, fin_ex, finP_rt, finP_nx, op_addI, op_subI, cmp_lt, cmp_le, cmp_gt, cmp_ge, cmp_eqI, cmp_neI, cmp_eqB, cmp_neB, aug_add, ix_of, cmp_isN, cmp_isNotN, bi_lenL, bi_lenT, bi_listL, bi_listT, bi_tupL, bi_tupT, bi_sum, bi_int, bi_all, bi_any, items_L, items_T, dat_d, own_d, at0, at1, at2, al0, al1,  List.getD_cons_zero, List.getD_cons_succ, List.set_cons_zero, List.set_cons_succ, List.length_cons, List.length_nil, Option.map_some, Option.bind_some, Option.map_none, reduceIte, Nat.reduceLT, Nat.reduceAdd, wipeE, List.length_map, List.getElem?_cons_zero, List.getElem?_cons_succ, bind_dP, at0d, at1d, at2d, cut2d, ite_and, ite_or, ite_int, ownC_own, ownD_some, set5_1, set5_2, set5_3, at5_0, at5_1, at5_2, at5_3, at5_4, Int.reduceLT, Int.reduceLE, Int.reduceNeg, and_self, true_and, op_mulI, op_mod, op_div, decide_true, decide_false, Bool.false_eq_true, if_false, if_true]
    exact ⟨_, _, rfl, mk m k [], rfl, mk_ok m0 m1 k0 k1, rfl, rfl, h⟩

theorem sp__law_diagram {j : Nat} {q : List DD} {m k : Int} (h : PoolOk q) (m0 : 0 ≤ m) (m1 : m ≤ 100) (k0 : 0 ≤ k) (k1 : k ≤ 100) : Rets (rn (j + 4) i__law_diagram (some q) [.int m, .int k]) fun c q' => ∃ a : Dg, c = .dat a.d ∧ a.Ok ∧ a.m = m ∧ a.k = k ∧ PoolOk q' := by
  rw [st__law_diagram, b__law_diagram]
  obtain ⟨v, q1, d1, d2, d3, d4⟩ := sp__law_draw (k := j + 1) (many := 5) h (by omega) (by omega)
  have d1' : rn (j + 3) i__law_draw (some q) [.int 5] = .ok (.dat (.int v)) q1 := d1
  by_cases hc : v < 3 ∨ m = 0 ∨ k = 0
  · have hc' : (decide (v < 3) || (decide (m = 0) || decide (k = 0))) = true := by simpa using hc
    obtain ⟨c, q2, s1, a, rfl, s2, s3, s4, s5⟩ := sp__law_some (j := j) d4 m0 m1 k0 k1
    simp -implicitDefEqProofs only [evO_some, bnd_ok, bnd_ex, lift_some, liftC_dat, liftC_own, fl_ok, fl_ex, then_nx, then_rt, then_ex, data_dat, data_own, data_ex, truth_ok, truth_ex, readC_dat, readC_own, peekC_dat, peekC_own, ev_var, ev_lit, ev_gc, ev_fnm, ev_bin, ev_not, ev_and, ev_or, ev_cmp, ev_chn, ev_ite, ev_tup, ev_lst, ev_idx, ev_vix, ev_vln, ev_vcl, ev_vcr, ev_slc, ev_rev, ev_app, ev_appP, ev_bi, ev_mn, ev_rgl, ev_rgt, ev_isi, ev_mth, ev_neg, evs_nil, evs_cons, evo_non, evo_som, evc_non, evc_som, evi_seq, evi_rng, callR_dat, callR_own, callR_ex, callA_eq, callP_own, callRp_ok, callRp_ex, putP_own, xss_nil, xss_cons, xs_set, stC_ok, bindS_some, xs_asg, xs_tpar, bind_nm, bind_tp, binds_nil, binds_cons, ownC_some, ownQ_own, ownAt_eq, xs_sti, xs_aug, xs_apd, xs_xtd, xs_exp, xs_iff, xs_for, xs_whl, xs_ret, xs_rse, xs_pas, xs_try, tryE_rt, tryE_nx, tryE_ex, fin_rt, fin_nx, fin_ex, finP_rt, finP_nx, op_addI, op_subI, cmp_lt, cmp_le, cmp_gt, cmp_ge, cmp_eqI, cmp_neI, cmp_eqB, cmp_neB, aug_add, ix_of, cmp_isN, cmp_isNotN, bi_lenL, bi_lenT, bi_listL, bi_listT, bi_tupL, bi_tupT, bi_sum, bi_int, bi_all, bi_any, items_L, items_T, dat_d, own_d, at0, at1, at2, al0, al1,  List.getD_cons_zero, List.getD_cons_succ, List.set_cons_zero, List.set_cons_succ, List.length_cons, List.length_nil, Option.map_some, Option.bind_some, Option.map_none, reduceIte, Nat.reduceLT, Nat.reduceAdd, wipeE, List.length_map, List.getElem?_cons_zero, List.getElem?_cons_succ, bind_dP, at0d, at1d, at2d, cut2d, ite_and, ite_or, ite_int, ownC_own, ownD_some, set5_1, set5_2, set5_3, at5_0, at5_1, at5_2, at5_3, at5_4, Int.reduceLT, Int.reduceLE, Int.reduceNeg, and_self, true_and, op_mulI, op_mod, op_div, decide_true, decide_false, Bool.false_eq_true, if_false, if_true, d1', hc', s1]
    exact ⟨_, _, rfl, a, rfl, s2, s3, s4, s5⟩
  · have hc' : (decide (v < 3) || (decide (m = 0) || decide (k = 0))) = false := by simp; omega
    obtain ⟨ms, q2, s1, s2, s3⟩ := sp__law_shuffled (k := j) (X := .lst ((rng k).map .int)) d4 rfl (by rw [len_rng]; omega)
    have hms : ms.length = k.toNat := by rw [s2.length_eq, len_rng]
    simp -implicitDefEqProofs only [evO_some, bnd_ok, bnd_ex, lift_some, liftC_dat, liftC_own, fl_ok, fl_ex, then_nx, then_rt, then_ex, data_dat, data_own, data_ex, truth_ok, truth_ex, readC_dat, readC_own, peekC_dat, peekC_own, ev_var, ev_lit, ev_gc, ev_fnm, ev_bin, ev_not, ev_and, ev_or, ev_cmp, ev_chn, ev_ite, ev_tup, ev_lst, ev_idx, ev_vix, ev_vln, ev_vcl, ev_vcr, ev_slc, ev_rev, ev_app, ev_appP, ev_bi, ev_mn, ev_rgl, ev_rgt, ev_isi, ev_mth, ev_neg, evs_nil, evs_cons, evo_non, evo_som, evc_non, evc_som, evi_seq, evi_rng, callR_dat, callR_own, callR_ex, callA_eq, callP_own, callRp_ok, callRp_ex, putP_own, xss_nil, xss_cons, xs_set, stC_ok, bindS_some, xs_asg, xs_tpar, bind_nm, bind_tp, binds_nil, binds_cons, ownC_some, ownQ_own, ownAt_eq, xs_sti, xs_aug, xs_apd, xs_xtd, xs_exp, xs_iff, xs_for, xs_whl, xs_ret, xs_rse, xs_pas, xs_try, tryE_rt, tryE_nx, tryE_ex, fin_rt, fin_nx, fin_ex, finP_rt, finP_nx, op_addI, op_subI, cmp_lt, cmp_le, cmp_gt, cmp_ge, cmp_eqI, cmp_neI, cmp_eqB, cmp_neB, aug_add, ix_of, cmp_isN, cmp_isNotN, bi_lenL, bi_lenT, bi_listL, bi_listT, bi_tupL, bi_tupT, bi_sum, bi_int, bi_all, bi_any, items_L, items_T, dat_d, own_d, at0, at1, at2, al0, al1,  List.getD_cons_zero, List.getD_cons_succ, List.set_cons_zero, List.set_cons_succ, List.length_cons, List.length_nil, Option.map_some, Option.bind_some, Option.map_none, reduceIte, Nat.reduceLT, Nat.reduceAdd, wipeE, List.length_map, List.getElem?_cons_zero, List.getElem?_cons_succ, bind_dP, at0d, at1d, at2d, cut2d, ite_and, ite_or, ite_int, ownC_own, ownD_some, set5_1, set5_2, set5_3, at5_0, at5_1, at5_2, at5_3, at5_4, Int.reduceLT, Int.reduceLE, Int.reduceNeg, and_self, true_and, op_mulI, op_mod, op_div, decide_true, decide_false, Bool.false_eq_true, if_false, if_true, d1', hc']
    rw [rngD_one (by omega) (by omega)]
    simp -implicitDefEqProofs only [evO_some, bnd_ok, bnd_ex, lift_some, liftC_dat, liftC_own, fl_ok, fl_ex, then_nx, then_rt, then_ex, data_dat, data_own, data_ex, truth_ok, truth_ex, readC_dat, readC_own, peekC_dat, peekC_own, ev_var, ev_lit, ev_gc, ev_fnm, ev_bin, ev_not, ev_and, ev_or, ev_cmp, ev_chn, ev_ite, ev_tup, ev_lst, ev_idx, ev_vix, ev_vln, ev_vcl, ev_vcr, ev_slc, ev_rev, ev_app, ev_appP, ev_bi, ev_mn, ev_rgl, ev_rgt, ev_isi, ev_mth, ev_neg, evs_nil, evs_cons, evo_non, evo_som, evc_non, evc_som, evi_seq, evi_rng, callR_dat, callR_own, callR_ex, callA_eq, callP_own, callRp_ok, callRp_ex, putP_own, xss_nil, xss_cons, xs_set, stC_ok, bindS_some, xs_asg, xs_tpar, bind_nm, bind_tp, binds_nil, binds_cons, ownC_some, ownQ_own, ownAt_eq, xs_sti, xs_aug, xs_apd, xs_xtd, xs_exp, xs_iff, xs_for, xs_whl, xs_ret, xs_rse, xs_pas, xs_try, tryE_rt, tryE_nx, tryE_ex, fin_rt, fin_nx, fin_ex, finP_rt, finP_nx, op_addI, op_subI, cmp_lt, cmp_le, cmp_gt, cmp_ge, cmp_eqI, cmp_neI, cmp_eqB, cmp_neB, aug_add, ix_of, cmp_isN, cmp_isNotN, bi_lenL, bi_lenT, bi_listL, bi_listT, bi_tupL, bi_tupT, bi_sum, bi_int, bi_all, bi_any, items_L, items_T, dat_d, own_d, at0, at1, at2, al0, al1,  List.getD_cons_zero, List.getD_cons_succ, List.set_cons_zero, List.set_cons_succ, List.length_cons, List.length_nil, Option.map_some, Option.bind_some, Option.map_none, reduceIte, Nat.reduceLT, Nat.reduceAdd, wipeE, List.length_map, List.getElem?_cons_zero, List.getElem?_cons_succ, bind_dP, at0d, at1d, at2d, cut2d, ite_and, ite_or, ite_int, ownC_own, ownD_some, set5_1, set5_2, set5_3, at5_0, at5_1, at5_2, at5_3, at5_4, Int.reduceLT, Int.reduceLE, Int.reduceNeg, and_self, true_and, op_mulI, op_mod, op_div, decide_true, decide_false, Bool.false_eq_true, if_false, if_true, s1, min_int]
    have hmin : (if k < m then k else m) ≤ m ∧ (if k < m then k else m) ≤ k ∧ 0 ≤ (if k < m then k else m) := by split <;> omega
    obtain ⟨ys, e6, t1, t2, ⟨q3, c3, t3, t4⟩, t5⟩ := ev_cm1X (T := rn (j + 3)) (G := nm.gv) (e := [.own true q2, .dat (.int m), .dat (.int k), .dat (.int v), .dat (dI ms), .no, .no]) (elt := .tup (.cons (.var 6) (.cons (.bin .Add (.var 1) (.idx (.var 4) (.var 6))) .nil))) (tg := .nm 6) (it := .rng (.cons (.mn (.var 1) (.var 2)) .nil)) (c := .som (.or (.cmp .Eq (.var 3) (.lit (.int 3))) (.cmp .Gt (.app i__law_draw (some 0) (.cons (.lit (.int 4)) .nil)) (.lit (.int 0))))) (vs := [6]) (e1 := [.own true q2, .dat (.int m), .dat (.int k), .dat (.int v), .dat (dI ms), .no, .no])
      (rng (if k < m then k else m)) .int (fun W => ∃ q' c, W = [.own true q', .dat (.int m), .dat (.int k), .dat (.int v), .dat (dI ms), .no, c] ∧ PoolOk q') (fun d => ∃ l : Int × Int, d = dP l ∧ (0 ≤ l.1 ∧ l.1 < m + k) ∧ 0 ≤ l.2 ∧ l.2 < m + k)
      (by
        simp -implicitDefEqProofs only [evO_some, bnd_ok, bnd_ex, lift_some, liftC_dat, liftC_own, fl_ok, fl_ex, then_nx, then_rt, then_ex, data_dat, data_own, data_ex, truth_ok, truth_ex, readC_dat, readC_own, peekC_dat, peekC_own, ev_var, ev_lit, ev_gc, ev_fnm, ev_bin, ev_not, ev_and, ev_or, ev_cmp, ev_chn, ev_ite, ev_tup, ev_lst, ev_idx, ev_vix, ev_vln, ev_vcl, ev_vcr, ev_slc, ev_rev, ev_app, ev_appP, ev_bi, ev_mn, ev_rgl, ev_rgt, ev_isi, ev_mth, ev_neg, evs_nil, evs_cons, evo_non, evo_som, evc_non, evc_som, evi_seq, evi_rng, callR_dat, callR_own, callR_ex, callA_eq, callP_own, callRp_ok, callRp_ex, putP_own, xss_nil, xss_cons, xs_set, stC_ok, bindS_some, xs_asg, xs_tpar, bind_nm, bind_tp, binds_nil, binds_cons, ownC_some, ownQ_own, ownAt_eq, xs_sti, xs_aug, xs_apd, xs_xtd, xs_exp, xs_iff, xs_for, xs_whl, xs_ret, xs_rse, xs_pas, xs_try, tryE_rt, tryE_nx, tryE_ex, fin_rt, fin_nx, fin_ex, finP_rt, finP_nx, op_addI, op_subI, cmp_lt, cmp_le, cmp_gt, cmp_ge, cmp_eqI, cmp_neI, cmp_eqB, cmp_neB, aug_add, ix_of, cmp_isN, cmp_isNotN, bi_lenL, bi_lenT, bi_listL, bi_listT, bi_tupL, bi_tupT, bi_sum, bi_int, bi_all, bi_any, items_L, items_T, dat_d, own_d, at0, at1, at2, al0, al1,  List.getD_cons_zero, List.getD_cons_succ, List.set_cons_zero, List.set_cons_succ, List.length_cons, List.length_nil, Option.map_some, Option.bind_some, Option.map_none, reduceIte, Nat.reduceLT, Nat.reduceAdd, wipeE, List.length_map, List.getElem?_cons_zero, List.getElem?_cons_succ, bind_dP, at0d, at1d, at2d, cut2d, ite_and, ite_or, ite_int, ownC_own, ownD_some, set5_1, set5_2, set5_3, at5_0, at5_1, at5_2, at5_3, at5_4, Int.reduceLT, Int.reduceLE, Int.reduceNeg, and_self, true_and, op_mulI, op_mod, op_div, decide_true, decide_false, Bool.false_eq_true, if_false, if_true, min_int]
        rw [rngD_one (by omega) (by omega)]
        simp -implicitDefEqProofs only [evO_some, bnd_ok, bnd_ex, lift_some, liftC_dat, liftC_own, fl_ok, fl_ex, then_nx, then_rt, then_ex, data_dat, data_own, data_ex, truth_ok, truth_ex, readC_dat, readC_own, peekC_dat, peekC_own, ev_var, ev_lit, ev_gc, ev_fnm, ev_bin, ev_not, ev_and, ev_or, ev_cmp, ev_chn, ev_ite, ev_tup, ev_lst, ev_idx, ev_vix, ev_vln, ev_vcl, ev_vcr, ev_slc, ev_rev, ev_app, ev_appP, ev_bi, ev_mn, ev_rgl, ev_rgt, ev_isi, ev_mth, ev_neg, evs_nil, evs_cons, evo_non, evo_som, evc_non, evc_som, evi_seq, evi_rng, callR_dat, callR_own, callR_ex, callA_eq, callP_own, callRp_ok, callRp_ex, putP_own, xss_nil, xss_cons, xs_set, stC_ok, bindS_some, xs_asg, xs_tpar, bind_nm, bind_tp, binds_nil, binds_cons, ownC_some, ownQ_own, ownAt_eq, xs_sti, xs_aug, xs_apd, xs_xtd, xs_exp, xs_iff, xs_for, xs_whl, xs_ret, xs_rse, xs_pas, xs_try, tryE_rt, tryE_nx, tryE_ex, fin_rt, fin_nx, fin_ex, finP_rt, finP_nx, op_addI, op_subI, cmp_lt, cmp_le, cmp_gt, cmp_ge, cmp_eqI, cmp_neI, cmp_eqB, cmp_neB, aug_add, ix_of, cmp_isN, cmp_isNotN, bi_lenL, bi_lenT, bi_listL, bi_listT, bi_tupL, bi_tupT, bi_sum, bi_int, bi_all, bi_any, items_L, items_T, dat_d, own_d, at0, at1, at2, al0, al1,  List.getD_cons_zero, List.getD_cons_succ, List.set_cons_zero, List.set_cons_succ, List.length_cons, List.length_nil, Option.map_some, Option.bind_some, Option.map_none, reduceIte, Nat.reduceLT, Nat.reduceAdd, wipeE, List.length_map, List.getElem?_cons_zero, List.getElem?_cons_succ, bind_dP, at0d, at1d, at2d, cut2d, ite_and, ite_or, ite_int, ownC_own, ownD_some, set5_1, set5_2, set5_3, at5_0, at5_1, at5_2, at5_3, at5_4, Int.reduceLT, Int.reduceLE, Int.reduceNeg, and_self, true_and, op_mulI, op_mod, op_div, decide_true, decide_false, Bool.false_eq_true, if_false, if_true])
      ⟨_, _, by simp -implicitDefEqProofs only [evO_some, bnd_ok, bnd_ex, lift_some, liftC_dat, liftC_own, fl_ok, fl_ex, then_nx, then_rt, then_ex, data_dat, data_own, data_ex, truth_ok, truth_ex, readC_dat, readC_own, peekC_dat, peekC_own, ev_var, ev_lit, ev_gc, ev_fnm, ev_bin, ev_not, ev_and, ev_or, ev_cmp, ev_chn, ev_ite, ev_tup, ev_lst, ev_idx, ev_vix, ev_vln, ev_vcl, ev_vcr, ev_slc, ev_rev, ev_app, ev_appP, ev_bi, ev_mn, ev_rgl, ev_rgt, ev_isi, ev_mth, ev_neg, evs_nil, evs_cons, evo_non, evo_som, evc_non, evc_som, evi_seq, evi_rng, callR_dat, callR_own, callR_ex, callA_eq, callP_own, callRp_ok, callRp_ex, putP_own, xss_nil, xss_cons, xs_set, stC_ok, bindS_some, xs_asg, xs_tpar, bind_nm, bind_tp, binds_nil, binds_cons, ownC_some, ownQ_own, ownAt_eq, xs_sti, xs_aug, xs_apd, xs_xtd, xs_exp, xs_iff, xs_for, xs_whl, xs_ret, xs_rse, xs_pas, xs_try, tryE_rt, tryE_nx, tryE_ex, fin_rt, fin_nx, fin_ex, finP_rt, finP_nx, op_addI, op_subI, cmp_lt, cmp_le, cmp_gt, cmp_ge, cmp_eqI, cmp_neI, cmp_eqB, cmp_neB, aug_add, ix_of, cmp_isN, cmp_isNotN, bi_lenL, bi_lenT, bi_listL, bi_listT, bi_tupL, bi_tupT, bi_sum, bi_int, bi_all, bi_any, items_L, items_T, dat_d, own_d, at0, at1, at2, al0, al1,  List.getD_cons_zero, List.getD_cons_succ, List.set_cons_zero, List.set_cons_succ, List.length_cons, List.length_nil, Option.map_some, Option.bind_some, Option.map_none, reduceIte, Nat.reduceLT, Nat.reduceAdd, wipeE, List.length_map, List.getElem?_cons_zero, List.getElem?_cons_succ, bind_dP, at0d, at1d, at2d, cut2d, ite_and, ite_or, ite_int, ownC_own, ownD_some, set5_1, set5_2, set5_3, at5_0, at5_1, at5_2, at5_3, at5_4, Int.reduceLT, Int.reduceLE, Int.reduceNeg, and_self, true_and, op_mulI, op_mod, op_div, decide_true, decide_false, Bool.false_eq_true, if_false, if_true]; rfl, s3⟩ (fun x hx W hW => by
        obtain ⟨q', c, rfl, hq⟩ := hW
        obtain ⟨u, q4, u1, u2, u3, u4⟩ := sp__law_draw (k := j + 1) (many := 4) hq (by omega) (by omega)
        have u1' : rn (j + 3) i__law_draw (some q') [.int 4] = .ok (.dat (.int u)) q4 := u1
        have hx' := mem_rng.mp hx
        have g1 := at_ints (b := ms) (i := x) hx'.1 (by omega)
        have g2 : ms.getD x.toNat 0 ∈ ms := by
          rw [List.getD_eq_getElem?_getD, List.getElem?_eq_getElem (by omega)]
          exact List.getElem_mem _
        have g3 := mem_rng.mp (s2.subset g2)
        have ok : ∃ l : Int × Int, Z.D.tup [.int x, .int (m + ms.getD x.toNat 0)] = dP l ∧ (0 ≤ l.1 ∧ l.1 < m + k) ∧ 0 ≤ l.2 ∧ l.2 < m + k := ⟨(x, m + ms.getD x.toNat 0), rfl, by simp only; omega, by simp only; omega⟩
        unfold body1
        by_cases h3 : v = 3
        · simp -implicitDefEqProofs only [evO_some, bnd_ok, bnd_ex, lift_some, liftC_dat, liftC_own, fl_ok, fl_ex, then_nx, then_rt, then_ex, data_dat, data_own, data_ex, truth_ok, truth_ex, readC_dat, readC_own, peekC_dat, peekC_own, ev_var, ev_lit, ev_gc, ev_fnm, ev_bin, ev_not, ev_and, ev_or, ev_cmp, ev_chn, ev_ite, ev_tup, ev_lst, ev_idx, ev_vix, ev_vln, ev_vcl, ev_vcr, ev_slc, ev_rev, ev_app, ev_appP, ev_bi, ev_mn, ev_rgl, ev_rgt, ev_isi, ev_mth, ev_neg, evs_nil, evs_cons, evo_non, evo_som, evc_non, evc_som, evi_seq, evi_rng, callR_dat, callR_own, callR_ex, callA_eq, callP_own, callRp_ok, callRp_ex, putP_own, xss_nil, xss_cons, xs_set, stC_ok, bindS_some, xs_asg, xs_tpar, bind_nm, bind_tp, binds_nil, binds_cons, ownC_some, ownQ_own, ownAt_eq, xs_sti, xs_aug, xs_apd, xs_xtd, xs_exp, xs_iff, xs_for, xs_whl, xs_ret, xs_rse, xs_pas, xs_try, tryE_rt, tryE_nx, tryE_ex, fin_rt, fin_nx, fin_ex, finP_rt, finP_nx, op_addI, op_subI, cmp_lt, cmp_le, cmp_gt, cmp_ge, cmp_eqI, cmp_neI, cmp_eqB, cmp_neB, aug_add, ix_of, cmp_isN, cmp_isNotN, bi_lenL, bi_lenT, bi_listL, bi_listT, bi_tupL, bi_tupT, bi_sum, bi_int, bi_all, bi_any, items_L, items_T, dat_d, own_d, at0, at1, at2, al0, al1,  List.getD_cons_zero, List.getD_cons_succ, List.set_cons_zero, List.set_cons_succ, List.length_cons, List.length_nil, Option.map_some, Option.bind_some, Option.map_none, reduceIte, Nat.reduceLT, Nat.reduceAdd, wipeE, List.length_map, List.getElem?_cons_zero, List.getElem?_cons_succ, bind_dP, at0d, at1d, at2d, cut2d, ite_and, ite_or, ite_int, ownC_own, ownD_some, set5_1, set5_2, set5_3, at5_0, at5_1, at5_2, at5_3, at5_4, Int.reduceLT, Int.reduceLE, Int.reduceNeg, and_self, true_and, op_mulI, op_mod, op_div, decide_true, decide_false, Bool.false_eq_true, if_false, if_true, h3, g1]
          refine ⟨_, _, rfl, fun z hz => ?_, ⟨q', _, by simp -implicitDefEqProofs only [evO_some, bnd_ok, bnd_ex, lift_some, liftC_dat, liftC_own, fl_ok, fl_ex, then_nx, then_rt, then_ex, data_dat, data_own, data_ex, truth_ok, truth_ex, readC_dat, readC_own, peekC_dat, peekC_own, ev_var, ev_lit, ev_gc, ev_fnm, ev_bin, ev_not, ev_and, ev_or, ev_cmp, ev_chn, ev_ite, ev_tup, ev_lst, ev_idx, ev_vix, ev_vln, ev_vcl, ev_vcr, ev_slc, ev_rev, ev_app, ev_appP, ev_bi, ev_mn, ev_rgl, ev_rgt, ev_isi, ev_mth, ev_neg, evs_nil, evs_cons, evo_non, evo_som, evc_non, evc_som, evi_seq, evi_rng, callR_dat, callR_own, callR_ex, callA_eq, callP_own, callRp_ok, callRp_ex, putP_own, xss_nil, xss_cons, xs_set, stC_ok, bindS_some, xs_asg, xs_tpar, bind_nm, bind_tp, binds_nil, binds_cons, ownC_some, ownQ_own, ownAt_eq, xs_sti, xs_aug, xs_apd, xs_xtd, xs_exp, xs_iff, xs_for, xs_whl, xs_ret, xs_rse, xs_pas, xs_try, tryE_rt, tryE_nx, tryE_ex, fin_rt, fin_nx, fin_ex, finP_rt, finP_nx, op_addI, op_subI, cmp_lt, cmp_le, cmp_gt, cmp_ge, cmp_eqI, cmp_neI, cmp_eqB, cmp_neB, aug_add, ix_of, cmp_isN, cmp_isNotN, bi_lenL, bi_lenT, bi_listL, bi_listT, bi_tupL, bi_tupT, bi_sum, bi_int, bi_all, bi_any, items_L, items_T, dat_d, own_d, at0, at1, at2, al0, al1,  List.getD_cons_zero, List.getD_cons_succ, List.set_cons_zero, List.set_cons_succ, List.length_cons, List.length_nil, Option.map_some, Option.bind_some, Option.map_none, reduceIte, Nat.reduceLT, Nat.reduceAdd, wipeE, List.length_map, List.getElem?_cons_zero, List.getElem?_cons_succ, bind_dP, at0d, at1d, at2d, cut2d, ite_and, ite_or, ite_int, ownC_own, ownD_some, set5_1, set5_2, set5_3, at5_0, at5_1, at5_2, at5_3, at5_4, Int.reduceLT, Int.reduceLE, Int.reduceNeg, and_self, true_and, op_mulI, op_mod, op_div, decide_true, decide_false, Bool.false_eq_true, if_false, if_true]; rfl, hq⟩, Nat.le_refl _⟩
          have : z = Z.D.tup [.int x, .int (m + ms.getD x.toNat 0)] := by simpa using hz
          rw [this]; exact ok
        · by_cases hu : 0 < u
          · simp -implicitDefEqProofs only [evO_some, bnd_ok, bnd_ex, lift_some, liftC_dat, liftC_own, fl_ok, fl_ex, then_nx, then_rt, then_ex, data_dat, data_own, data_ex, truth_ok, truth_ex, readC_dat, readC_own, peekC_dat, peekC_own, ev_var, ev_lit, ev_gc, ev_fnm, ev_bin, ev_not, ev_and, ev_or, ev_cmp, ev_chn, ev_ite, ev_tup, ev_lst, ev_idx, ev_vix, ev_vln, ev_vcl, ev_vcr, ev_slc, ev_rev, ev_app, ev_appP, ev_bi, ev_mn, ev_rgl, ev_rgt, ev_isi, ev_mth, ev_neg, evs_nil, evs_cons, evo_non, evo_som, evc_non, evc_som, evi_seq, evi_rng, callR_dat, callR_own, callR_ex, callA_eq, callP_own, callRp_ok, callRp_ex, putP_own, xss_nil, xss_cons, xs_set, stC_ok, bindS_some, xs_asg, xs_tpar, bind_nm, bind_tp, binds_nil, binds_cons, ownC_some, ownQ_own, ownAt_eq, xs_sti, xs_aug, xs_apd, xs_xtd, xs_exp, xs_iff, xs_for, xs_whl, xs_ret, xs_rse, xs_pas, xs_try, tryE_rt, tryE_nx, tryE_ex, fin_rt, fin_nx, fin_ex, finP_rt, finP_nx, op_addI, op_subI, cmp_lt, cmp_le, cmp_gt, cmp_ge, cmp_eqI, cmp_neI, cmp_eqB, cmp_neB, aug_add, ix_of, cmp_isN, cmp_isNotN, bi_lenL, bi_lenT, bi_listL, bi_listT, bi_tupL, bi_tupT, bi_sum, bi_int, bi_all, bi_any, items_L, items_T, dat_d, own_d, at0, at1, at2, al0, al1,  List.getD_cons_zero, List.getD_cons_succ, List.set_cons_zero, List.set_cons_succ, List.length_cons, List.length_nil, Option.map_some, Option.bind_some, Option.map_none, reduceIte, Nat.reduceLT, Nat.reduceAdd, wipeE, List.length_map, List.getElem?_cons_zero, List.getElem?_cons_succ, bind_dP, at0d, at1d, at2d, cut2d, ite_and, ite_or, ite_int, ownC_own, ownD_some, set5_1, set5_2, set5_3, at5_0, at5_1, at5_2, at5_3, at5_4, Int.reduceLT, Int.reduceLE, Int.reduceNeg, and_self, true_and, op_mulI, op_mod, op_div, decide_true, decide_false, Bool.false_eq_true, if_false, if_true, h3, u1', hu, g1]
            refine ⟨_, _, rfl, fun z hz => ?_, ⟨q4, _, by simp -implicitDefEqProofs only [evO_some, bnd_ok, bnd_ex, lift_some, liftC_dat, liftC_own, fl_ok, fl_ex, then_nx, then_rt, then_ex, data_dat, data_own, data_ex, truth_ok, truth_ex, readC_dat, readC_own, peekC_dat, peekC_own, ev_var, ev_lit, ev_gc, ev_fnm, ev_bin, ev_not, ev_and, ev_or, ev_cmp, ev_chn, ev_ite, ev_tup, ev_lst, ev_idx, ev_vix, ev_vln, ev_vcl, ev_vcr, ev_slc, ev_rev, ev_app, ev_appP, ev_bi, ev_mn, ev_rgl, ev_rgt, ev_isi, ev_mth, ev_neg, evs_nil, evs_cons, evo_non, evo_som, evc_non, evc_som, evi_seq, evi_rng, callR_dat, callR_own, callR_ex, callA_eq, callP_own, callRp_ok, callRp_ex, putP_own, xss_nil, xss_cons, xs_set, stC_ok, bindS_some, xs_asg, xs_tpar, bind_nm, bind_tp, binds_nil, binds_cons, ownC_some, ownQ_own, ownAt_eq, xs_sti, xs_aug, xs_apd, xs_xtd, xs_exp, xs_iff, xs_for, xs_whl, xs_ret, xs_rse, xs_pas, xs_try, tryE_rt, tryE_nx, tryE_ex, fin_rt, fin_nx, fin_ex, finP_rt, finP_nx, op_addI, op_subI, cmp_lt, cmp_le, cmp_gt, cmp_ge, cmp_eqI, cmp_neI, cmp_eqB, cmp_neB, aug_add, ix_of, cmp_isN, cmp_isNotN, bi_lenL, bi_lenT, bi_listL, bi_listT, bi_tupL, bi_tupT, bi_sum, bi_int, bi_all, bi_any, items_L, items_T, dat_d, own_d, at0, at1, at2, al0, al1,  List.getD_cons_zero, List.getD_cons_succ, List.set_cons_zero, List.set_cons_succ, List.length_cons, List.length_nil, Option.map_some, Option.bind_some, Option.map_none, reduceIte, Nat.reduceLT, Nat.reduceAdd, wipeE, List.length_map, List.getElem?_cons_zero, List.getElem?_cons_succ, bind_dP, at0d, at1d, at2d, cut2d, ite_and, ite_or, ite_int, ownC_own, ownD_some, set5_1, set5_2, set5_3, at5_0, at5_1, at5_2, at5_3, at5_4, Int.reduceLT, Int.reduceLE, Int.reduceNeg, and_self, true_and, op_mulI, op_mod, op_div, decide_true, decide_false, Bool.false_eq_true, if_false, if_true]; rfl, u4⟩, Nat.le_refl _⟩
            have : z = Z.D.tup [.int x, .int (m + ms.getD x.toNat 0)] := by simpa using hz
            rw [this]; exact ok
          · simp -implicitDefEqProofs only [evO_some, bnd_ok, bnd_ex, lift_some, liftC_dat, liftC_own, fl_ok, fl_ex, then_nx, then_rt, then_ex, data_dat, data_own, data_ex, truth_ok, truth_ex, readC_dat, readC_own, peekC_dat, peekC_own, ev_var, ev_lit, ev_gc, ev_fnm, ev_bin, ev_not, ev_and, ev_or, ev_cmp, ev_chn, ev_ite, ev_tup, ev_lst, ev_idx, ev_vix, ev_vln, ev_vcl, ev_vcr, ev_slc, ev_rev, ev_app, ev_appP, ev_bi, ev_mn, ev_rgl, ev_rgt, ev_isi, ev_mth, ev_neg, evs_nil, evs_cons, evo_non, evo_som, evc_non, evc_som, evi_seq, evi_rng, callR_dat, callR_own, callR_ex, callA_eq, callP_own, callRp_ok, callRp_ex, putP_own, xss_nil, xss_cons, xs_set, stC_ok, bindS_some, xs_asg, xs_tpar, bind_nm, bind_tp, binds_nil, binds_cons, ownC_some, ownQ_own, ownAt_eq, xs_sti, xs_aug, xs_apd, xs_xtd, xs_exp, xs_iff, xs_for, xs_whl, xs_ret, xs_rse, xs_pas, xs_try, tryE_rt, tryE_nx, tryE_ex, fin_rt, fin_nx, fin_ex, finP_rt, finP_nx, op_addI, op_subI, cmp_lt, cmp_le, cmp_gt, cmp_ge, cmp_eqI, cmp_neI, cmp_eqB, cmp_neB, aug_add, ix_of, cmp_isN, cmp_isNotN, bi_lenL, bi_lenT, bi_listL, bi_listT, bi_tupL, bi_tupT, bi_sum, bi_int, bi_all, bi_any, items_L, items_T, dat_d, own_d, at0, at1, at2, al0, al1,  List.getD_cons_zero, List.getD_cons_succ, List.set_cons_zero, List.set_cons_succ, List.length_cons, List.length_nil, Option.map_some, Option.bind_some, Option.map_none, reduceIte, Nat.reduceLT, Nat.reduceAdd, wipeE, List.length_map, List.getElem?_cons_zero, List.getElem?_cons_succ, bind_dP, at0d, at1d, at2d, cut2d, ite_and, ite_or, ite_int, ownC_own, ownD_some, set5_1, set5_2, set5_3, at5_0, at5_1, at5_2, at5_3, at5_4, Int.reduceLT, Int.reduceLE, Int.reduceNeg, and_self, true_and, op_mulI, op_mod, op_div, decide_true, decide_false, Bool.false_eq_true, if_false, if_true, h3, u1', hu]
            exact ⟨_, _, rfl, (fun z hz => nomatch hz), ⟨q4, _, by simp -implicitDefEqProofs only [evO_some, bnd_ok, bnd_ex, lift_some, liftC_dat, liftC_own, fl_ok, fl_ex, then_nx, then_rt, then_ex, data_dat, data_own, data_ex, truth_ok, truth_ex, readC_dat, readC_own, peekC_dat, peekC_own, ev_var, ev_lit, ev_gc, ev_fnm, ev_bin, ev_not, ev_and, ev_or, ev_cmp, ev_chn, ev_ite, ev_tup, ev_lst, ev_idx, ev_vix, ev_vln, ev_vcl, ev_vcr, ev_slc, ev_rev, ev_app, ev_appP, ev_bi, ev_mn, ev_rgl, ev_rgt, ev_isi, ev_mth, ev_neg, evs_nil, evs_cons, evo_non, evo_som, evc_non, evc_som, evi_seq, evi_rng, callR_dat, callR_own, callR_ex, callA_eq, callP_own, callRp_ok, callRp_ex, putP_own, xss_nil, xss_cons, xs_set, stC_ok, bindS_some, xs_asg, xs_tpar, bind_nm, bind_tp, binds_nil, binds_cons, ownC_some, ownQ_own, ownAt_eq, xs_sti, xs_aug, xs_apd, xs_xtd, xs_exp, xs_iff, xs_for, xs_whl, xs_ret, xs_rse, xs_pas, xs_try, tryE_rt, tryE_nx, tryE_ex, fin_rt, fin_nx, fin_ex, finP_rt, finP_nx, op_addI, op_subI, cmp_lt, cmp_le, cmp_gt, cmp_ge, cmp_eqI, cmp_neI, cmp_eqB, cmp_neB, aug_add, ix_of, cmp_isN, cmp_isNotN, bi_lenL, bi_lenT, bi_listL, bi_listT, bi_tupL, bi_tupT, bi_sum, bi_int, bi_all, bi_any, items_L, items_T, dat_d, own_d, at0, at1, at2, al0, al1,  List.getD_cons_zero, List.getD_cons_succ, List.set_cons_zero, List.set_cons_succ, List.length_cons, List.length_nil, Option.map_some, Option.bind_some, Option.map_none, reduceIte, Nat.reduceLT, Nat.reduceAdd, wipeE, List.length_map, List.getElem?_cons_zero, List.getElem?_cons_succ, bind_dP, at0d, at1d, at2d, cut2d, ite_and, ite_or, ite_int, ownC_own, ownD_some, set5_1, set5_2, set5_3, at5_0, at5_1, at5_2, at5_3, at5_4, Int.reduceLT, Int.reduceLE, Int.reduceNeg, and_self, true_and, op_mulI, op_mod, op_div, decide_true, decide_false, Bool.false_eq_true, if_false, if_true]; rfl, u4⟩, Nat.zero_le _⟩)
    rw [t1, back_of t3 (by simp)]
    obtain ⟨L, rfl, hL⟩ := dP_list t2
    rw [List.length_map, len_rng] at t5
    obtain ⟨u, q4, u1, u2, u3, u4⟩ := sp__law_draw (k := j + 1) (many := 3) t4 (by omega) (by omega)
    have u1' : rn (j + 3) i__law_draw (some q3) [.int 3] = .ok (.dat (.int u)) q4 := u1
    by_cases hu : u = 0
    · obtain ⟨w1, q5, a1, a2, a3, a4⟩ := sp__law_draw (k := j + 1) (many := m + k) u4 (by omega) (by omega)
      obtain ⟨w2, q6, b1, b2, b3, b4⟩ := sp__law_draw (k := j + 1) (many := m + k) a4 (by omega) (by omega)
      have a1' : rn (j + 3) i__law_draw (some q4) [.int (m + k)] = .ok (.dat (.int w1)) q5 := a1
      have b1' : rn (j + 3) i__law_draw (some q5) [.int (m + k)] = .ok (.dat (.int w2)) q6 := b1
      have hlen : L.length < LIM := by unfold LIM; omega
      have em : L.map dP ++ [Z.D.tup [.int w1, .int w2]] = (L ++ [(w1, w2)]).map dP := by rw [List.map_append]; rfl
      simp -implicitDefEqProofs only [evO_some, bnd_ok, bnd_ex, lift_some, liftC_dat, liftC_own, fl_ok, fl_ex, then_nx, then_rt, then_ex, data_dat, data_own, data_ex, truth_ok, truth_ex, readC_dat, readC_own, peekC_dat, peekC_own, ev_var, ev_lit, ev_gc, ev_fnm, ev_bin, ev_not, ev_and, ev_or, ev_cmp, ev_chn, ev_ite, ev_tup, ev_lst, ev_idx, ev_vix, ev_vln, ev_vcl, ev_vcr, ev_slc, ev_rev, ev_app, ev_appP, ev_bi, ev_mn, ev_rgl, ev_rgt, ev_isi, ev_mth, ev_neg, evs_nil, evs_cons, evo_non, evo_som, evc_non, evc_som, evi_seq, evi_rng, callR_dat, callR_own, callR_ex, callA_eq, callP_own, callRp_ok, callRp_ex, putP_own, xss_nil, xss_cons, xs_set, stC_ok, bindS_some, xs_asg, xs_tpar, bind_nm, bind_tp, binds_nil, binds_cons, ownC_some, ownQ_own, ownAt_eq, xs_sti, xs_aug, xs_apd, xs_xtd, xs_exp, xs_iff, xs_for, xs_whl, xs_ret, xs_rse, xs_pas, xs_try, tryE_rt, tryE_nx, tryE_ex, fin_rt, fin_nx, fin_ex, finP_rt, finP_nx, op_addI, op_subI, cmp_lt, cmp_le, cmp_gt, cmp_ge, cmp_eqI, cmp_neI, cmp_eqB, cmp_neB, aug_add, ix_of, cmp_isN, cmp_isNotN, bi_lenL, bi_lenT, bi_listL, bi_listT, bi_tupL, bi_tupT, bi_sum, bi_int, bi_all, bi_any, items_L, items_T, dat_d, own_d, at0, at1, at2, al0, al1,  List.getD_cons_zero, List.getD_cons_succ, List.set_cons_zero, List.set_cons_succ, List.length_cons, List.length_nil, Option.map_some, Option.bind_some, Option.map_none, reduceIte, Nat.reduceLT, Nat.reduceAdd, wipeE, List.length_map, List.getElem?_cons_zero, List.getElem?_cons_succ, bind_dP, at0d, at1d, at2d, cut2d, ite_and, ite_or, ite_int, ownC_own, ownD_some, set5_1, set5_2, set5_3, at5_0, at5_1, at5_2, at5_3, at5_4, Int.reduceLT, Int.reduceLE, Int.reduceNeg, and_self, true_and, op_mulI, op_mod, op_div, decide_true, decide_false, Bool.false_eq_true, if_false, if_true, backE, u1', hu, a1', b1', hlen, em]
      rw [sp__law_merge (L := L ++ [(w1, w2)]) (by omega) (by omega) (fun l hl => by
        rcases List.mem_append.mp hl with z | z
        · exact hL l z
        · have : l = (w1, w2) := by simpa using z
          subst this
          exact ⟨⟨a2, a3⟩, b2, b3⟩) rfl]
      simp -implicitDefEqProofs only [evO_some, bnd_ok, bnd_ex, lift_some, liftC_dat, liftC_own, fl_ok, fl_ex, then_nx, then_rt, then_ex, data_dat, data_own, data_ex, truth_ok, truth_ex, readC_dat, readC_own, peekC_dat, peekC_own, ev_var, ev_lit, ev_gc, ev_fnm, ev_bin, ev_not, ev_and, ev_or, ev_cmp, ev_chn, ev_ite, ev_tup, ev_lst, ev_idx, ev_vix, ev_vln, ev_vcl, ev_vcr, ev_slc, ev_rev, ev_app, ev_appP, ev_bi, ev_mn, ev_rgl, ev_rgt, ev_isi, ev_mth, ev_neg, evs_nil, evs_cons, evo_non, evo_som, evc_non, evc_som, evi_seq, evi_rng, callR_dat, callR_own, callR_ex, callA_eq, callP_own, callRp_ok, callRp_ex, putP_own, xss_nil, xss_cons, xs_set, stC_ok, bindS_some, xs_asg, xs_tpar, bind_nm, bind_tp, binds_nil, binds_cons, ownC_some, ownQ_own, ownAt_eq, xs_sti, xs_aug, xs_apd, xs_xtd, xs_exp, xs_iff, xs_for, xs_whl, xs_ret, xs_rse, xs_pas, xs_try, tryE_rt, tryE_nx, tryE_ex, fin_rt, fin_nx, fin_ex, finP_rt, finP_nx, op_addI, op_subI, cmp_lt, cmp_le, cmp_gt, cmp_ge, cmp_eqI, cmp_neI, cmp_eqB, cmp_neB, aug_add, ix_of, cmp_isN, cmp_isNotN, bi_lenL, bi_lenT, bi_listL, bi_listT, bi_tupL, bi_tupT, bi_sum, bi_int, bi_all, bi_any, items_L, items_T, dat_d, own_d, at0, at1, at2, al0, al1,  List.getD_cons_zero, List.getD_cons_succ, List.set_cons_zero, List.set_cons_succ, List.length_cons, List.length_nil, Option.map_some, Option.bind_some, Option.map_none, reduceIte, Nat.reduceLT, Nat.reduceAdd, wipeE, List.length_map, List.getElem?_cons_zero, List.getElem?_cons_succ, bind_dP, at0d, at1d, at2d, cut2d, ite_and, ite_or, ite_int, ownC_own, ownD_some, set5_1, set5_2, set5_3, at5_0, at5_1, at5_2, at5_3, at5_4, Int.reduceLT, Int.reduceLE, Int.reduceNeg, and_self, true_and, op_mulI, op_mod, op_div, decide_true, decide_false, Bool.false_eq_true, if_false, if_true]
      exact ⟨_, _, rfl, mk m k (L ++ [(w1, w2)]), rfl, mk_ok m0 m1 k0 k1, rfl, rfl, b4⟩
    · simp -implicitDefEqProofs only [evO_some, bnd_ok, bnd_ex, lift_some, liftC_dat, liftC_own, fl_ok, fl_ex, then_nx, then_rt, then_ex, data_dat, data_own, data_ex, truth_ok, truth_ex, readC_dat, readC_own, peekC_dat, peekC_own, ev_var, ev_lit, ev_gc, ev_fnm, ev_bin, ev_not, ev_and, ev_or, ev_cmp, ev_chn, ev_ite, ev_tup, ev_lst, ev_idx, ev_vix, ev_vln, ev_vcl, ev_vcr, ev_slc, ev_rev, ev_app, ev_appP, ev_bi, ev_mn, ev_rgl, ev_rgt, ev_isi, ev_mth, ev_neg, evs_nil, evs_cons, evo_non, evo_som, evc_non, evc_som, evi_seq, evi_rng, callR_dat, callR_own, callR_ex, callA_eq, callP_own, callRp_ok, callRp_ex, putP_own, xss_nil, xss_cons, xs_set, stC_ok, bindS_some, xs_asg, xs_tpar, bind_nm, bind_tp, binds_nil, binds_cons, ownC_some, ownQ_own, ownAt_eq, xs_sti, xs_aug, xs_apd, xs_xtd, xs_exp, xs_iff, xs_for, xs_whl, xs_ret, xs_rse, xs_pas, xs_try, tryE_rt, tryE_nx, tryE_ex, fin_rt, fin_nx, fin_ex, finP_rt, finP_nx, op_addI, op_subI, cmp_lt, cmp_le, cmp_gt, cmp_ge, cmp_eqI, cmp_neI, cmp_eqB, cmp_neB, aug_add, ix_of, cmp_isN, cmp_isNotN, bi_lenL, bi_lenT, bi_listL, bi_listT, bi_tupL, bi_tupT, bi_sum, bi_int, bi_all, bi_any, items_L, items_T, dat_d, own_d, at0, at1, at2, al0, al1,  List.getD_cons_zero, List.getD_cons_succ, List.set_cons_zero, List.set_cons_succ, List.length_cons, List.length_nil, Option.map_some, Option.bind_some, Option.map_none, reduceIte, Nat.reduceLT, Nat.reduceAdd, wipeE, List.length_map, List.getElem?_cons_zero, List.getElem?_cons_succ, bind_dP, at0d, at1d, at2d, cut2d, ite_and, ite_or, ite_int, ownC_own, ownD_some, set5_1, set5_2, set5_3, at5_0, at5_1, at5_2, at5_3, at5_4, Int.reduceLT, Int.reduceLE, Int.reduceNeg, and_self, true_and, op_mulI, op_mod, op_div, decide_true, decide_false, Bool.false_eq_true, if_false, if_true, backE, u1', hu]
      rw [sp__law_merge (by omega) (by omega) hL rfl]
      simp -implicitDefEqProofs only [evO_some, bnd_ok, bnd_ex, lift_some, liftC_dat, liftC_own, fl_ok, fl_ex, then_nx, then_rt, then_ex, data_dat, data_own, data_ex, truth_ok, truth_ex, readC_dat, readC_own, peekC_dat, peekC_own, ev_var, ev_lit, ev_gc, ev_fnm, ev_bin, ev_not, ev_and, ev_or, ev_cmp, ev_chn, ev_ite, ev_tup, ev_lst, ev_idx, ev_vix, ev_vln, ev_vcl, ev_vcr, ev_slc, ev_rev, ev_app, ev_appP, ev_bi, ev_mn, ev_rgl, ev_rgt, ev_isi, ev_mth, ev_neg, evs_nil, evs_cons, evo_non, evo_som, evc_non, evc_som, evi_seq, evi_rng, callR_dat, callR_own, callR_ex, callA_eq, callP_own, callRp_ok, callRp_ex, putP_own, xss_nil, xss_cons, xs_set, stC_ok, bindS_some, xs_asg, xs_tpar, bind_nm, bind_tp, binds_nil, binds_cons, ownC_some, ownQ_own, ownAt_eq, xs_sti, xs_aug, xs_apd, xs_xtd, xs_exp, xs_iff, xs_for, xs_whl, xs_ret, xs_rse, xs_pas, xs_try, tryE_rt, tryE_nx, tryE_ex, fin_rt, fin_nx, fin_ex, finP_rt, finP_nx, op_addI, op_subI, cmp_lt, cmp_le, cmp_gt, cmp_ge, cmp_eqI, cmp_neI, cmp_eqB, cmp_neB, aug_add, ix_of, cmp_isN, cmp_isNotN, bi_lenL, bi_lenT, bi_listL, bi_listT, bi_tupL, bi_tupT, bi_sum, bi_int, bi_all, bi_any, items_L, items_T, dat_d, own_d, at0, at1, at2, al0, al1,  List.getD_cons_zero, List.getD_cons_succ, List.set_cons_zero, List.set_cons_succ, List.length_cons, List.length_nil, Option.map_some, Option.bind_some, Option.map_none, reduceIte, Nat.reduceLT, Nat.reduceAdd, wipeE, List.length_map, List.getElem?_cons_zero, List.getElem?_cons_succ, bind_dP, at0d, at1d, at2d, cut2d, ite_and, ite_or, ite_int, ownC_own, ownD_some, set5_1, set5_2, set5_3, at5_0, at5_1, at5_2, at5_3, at5_4, Int.reduceLT, Int.reduceLE, Int.reduceNeg, and_self, true_and, op_mulI, op_mod, op_div, decide_true, decide_false, Bool.false_eq_true, if_false, if_true]
      exact ⟨_, _, rfl, mk m k L, rfl, mk_ok m0 m1 k0 k1, rfl, rfl, u4⟩

theorem sp__law_behind {k : Nat} {a b : Dg} (ha : a.Ok) (hb : b.Ok) (hk : a.k = b.m) : rn (k + 2) i__law_behind none [a.d, b.d] = .ok (.dat (.tup [(a.then b).d, .int (a.lost b)])) [] := by
  rw [st__law_behind, b__law_behind]
  have := ha.n1; have := hb.n1; have m0 := ha.m0; have q0 := hb.k0; have k0 := ha.k0; have := ha.m1; have := hb.k1; have := ha.k1
  have e := stk_eqv (m := a.m) (k := a.k) (p := b.k) (R := a.r) (S := b.r)
  have pc := part_comp (R := a.r) (S := b.r) ha.m0 ha.k0 hb.k0
  have pe := comp_eqv (R := a.r) (S := b.r) (p := b.k) ha.k0 ha.m0
  have hlen : (a.pcs b).length ≤ 300 := by have := blocks_len e; unfold Dg.pcs; omega
  have la : a.bs.length ≤ 200 := by have := blocks_len ha.e; unfold Dg.bs; omega
  have lb : b.bs.length ≤ 200 := by have := blocks_len hb.e; unfold Dg.bs; omega
  have hbound : ∀ (c : Dg), c.Ok → ∀ l : List (List Int), (∀ x ∈ l, x ∈ c.bs) → (l.flatMap heads).length ≤ 200 * l.length := fun c hc l => by
    induction l with
    | nil => intro _; simp
    | cons x l ih =>
      intro hl
      have := ih fun y hy => hl y (List.mem_cons_of_mem _ hy)
      have hx : x.length ≤ 200 := by have := block_len hc.e (hl x List.mem_cons_self); have := hc.n1; omega
      have : (heads x).length ≤ 200 := by unfold heads; rw [List.length_map]; exact hx
      rw [List.flatMap_cons, List.length_append, List.length_cons]
      omega
  simp -implicitDefEqProofs only [evO_some, bnd_ok, bnd_ex, lift_some, liftC_dat, liftC_own, fl_ok, fl_ex, then_nx, then_rt, then_ex, data_dat, data_own, data_ex, truth_ok, truth_ex, readC_dat, readC_own, peekC_dat, peekC_own, ev_var, ev_lit, ev_gc, ev_fnm, ev_bin, ev_not, ev_and, ev_or, ev_cmp, ev_chn, ev_ite, ev_tup, ev_lst, ev_idx, ev_vix, ev_vln, ev_vcl, ev_vcr, ev_slc, ev_rev, ev_app, ev_appP, ev_bi, ev_mn, ev_rgl, ev_rgt, ev_isi, ev_mth, ev_neg, evs_nil, evs_cons, evo_non, evo_som, evc_non, evc_som, evi_seq, evi_rng, callR_dat, callR_own, callR_ex, callA_eq, callP_own, callRp_ok, callRp_ex, putP_own, xss_nil, xss_cons, xs_set, stC_ok, bindS_some, xs_asg, xs_tpar, bind_nm, bind_tp, binds_nil, binds_cons, ownC_some, ownQ_own, ownAt_eq, xs_sti, xs_aug, xs_apd, xs_xtd, xs_exp, xs_iff, xs_for, xs_whl, xs_ret, xs_rse, xs_pas, xs_try, tryE_rt, tryE_nx, tryE_ex, fin_rt, fin_nx, fin_ex, finP_rt, finP_nx, op_addI, op_subI, cmp_lt, cmp_le, cmp_gt, cmp_ge, cmp_eqI, cmp_neI, cmp_eqB, cmp_neB, aug_add, ix_of, cmp_isN, cmp_isNotN, bi_lenL, bi_lenT, bi_listL, bi_listT, bi_tupL, bi_tupT, bi_sum, bi_int, bi_all, bi_any, items_L, items_T, dat_d, own_d, at0, at1, at2, al0, al1,  List.getD_cons_zero, List.getD_cons_succ, List.set_cons_zero, List.set_cons_succ, List.length_cons, List.length_nil, Option.map_some, Option.bind_some, Option.map_none, reduceIte, Nat.reduceLT, Nat.reduceAdd, wipeE, List.length_map, List.getElem?_cons_zero, List.getElem?_cons_succ, bind_dP, at0d, at1d, at2d, cut2d, ite_and, ite_or, ite_int]
  obtain ⟨e1, h1, c6, c12, rfl⟩ := forL_ok (f := forB (rn (k + 1)) nm.gv (.nm 6) (.cons (.set 5 (.bin .Add (.var 5) (.cm1 (.tup (.cons (.idx (.var 6) (.lit (.int 0))) (.cons (.var 12) .nil))) (.nm 12) (.seq (.var 6)) .non [12]))) .nil)) (enc := dI) (xs := a.bs) (e := [.dat a.d, .dat b.d, .dat (.int a.m), .dat (.int a.k), .dat (.int b.k), .own false [], .no, .no, .no, .no, .no, .no, .no])
    (I := fun pre e => ∃ c6 c12, e = [.dat a.d, .dat b.d, .dat (.int a.m), .dat (.int a.k), .dat (.int b.k), .own false ((pre.flatMap heads).map dP), c6, .no, .no, .no, .no, .no, c12]) ⟨_, _, rfl⟩ (fun pre x post hx e he => by
      obtain ⟨c6, c12, rfl⟩ := he
      have hx' : x ∈ a.bs := by rw [hx]; simp
      have g1 := at_hd (block_ne ha.e hx')
      have g2 : opD .Add (.lst ((pre.flatMap heads).map dP)) (.lst (x.map fun y => dP (hd x, y))) = some (.own false (((pre ++ [x]).flatMap heads).map dP)) := by
        have l1 := hbound a ha pre fun y hy => by rw [hx]; simp [hy]
        have l2 : pre.length ≤ a.bs.length := by rw [hx]; simp
        have l3 : x.length ≤ 200 := by have := block_len ha.e hx'; omega
        rw [op_addL (by rw [List.length_map, List.length_map]; omega), List.flatMap_append, List.map_append, List.flatMap_singleton]
        unfold heads
        rw [List.map_map]
        rfl
      rw [forB_some (bind_nm (by simp))]
      simp -implicitDefEqProofs only [evO_some, bnd_ok, bnd_ex, lift_some, liftC_dat, liftC_own, fl_ok, fl_ex, then_nx, then_rt, then_ex, data_dat, data_own, data_ex, truth_ok, truth_ex, readC_dat, readC_own, peekC_dat, peekC_own, ev_var, ev_lit, ev_gc, ev_fnm, ev_bin, ev_not, ev_and, ev_or, ev_cmp, ev_chn, ev_ite, ev_tup, ev_lst, ev_idx, ev_vix, ev_vln, ev_vcl, ev_vcr, ev_slc, ev_rev, ev_app, ev_appP, ev_bi, ev_mn, ev_rgl, ev_rgt, ev_isi, ev_mth, ev_neg, evs_nil, evs_cons, evo_non, evo_som, evc_non, evc_som, evi_seq, evi_rng, callR_dat, callR_own, callR_ex, callA_eq, callP_own, callRp_ok, callRp_ex, putP_own, xss_nil, xss_cons, xs_set, stC_ok, bindS_some, xs_asg, xs_tpar, bind_nm, bind_tp, binds_nil, binds_cons, ownC_some, ownQ_own, ownAt_eq, xs_sti, xs_aug, xs_apd, xs_xtd, xs_exp, xs_iff, xs_for, xs_whl, xs_ret, xs_rse, xs_pas, xs_try, tryE_rt, tryE_nx, tryE_ex, fin_rt, fin_nx, fin_ex, finP_rt, finP_nx, op_addI, op_subI, cmp_lt, cmp_le, cmp_gt, cmp_ge, cmp_eqI, cmp_neI, cmp_eqB, cmp_neB, aug_add, ix_of, cmp_isN, cmp_isNotN, bi_lenL, bi_lenT, bi_listL, bi_listT, bi_tupL, bi_tupT, bi_sum, bi_int, bi_all, bi_any, items_L, items_T, dat_d, own_d, at0, at1, at2, al0, al1,  List.getD_cons_zero, List.getD_cons_succ, List.set_cons_zero, List.set_cons_succ, List.length_cons, List.length_nil, Option.map_some, Option.bind_some, Option.map_none, reduceIte, Nat.reduceLT, Nat.reduceAdd, wipeE, List.length_map, List.getElem?_cons_zero, List.getElem?_cons_succ, bind_dP, at0d, at1d, at2d, cut2d, ite_and, ite_or, ite_int]
      rw [ev_mapS x .int (fun y => dP (hd x, y)) (by simp -implicitDefEqProofs only [evO_some, bnd_ok, bnd_ex, lift_some, liftC_dat, liftC_own, fl_ok, fl_ex, then_nx, then_rt, then_ex, data_dat, data_own, data_ex, truth_ok, truth_ex, readC_dat, readC_own, peekC_dat, peekC_own, ev_var, ev_lit, ev_gc, ev_fnm, ev_bin, ev_not, ev_and, ev_or, ev_cmp, ev_chn, ev_ite, ev_tup, ev_lst, ev_idx, ev_vix, ev_vln, ev_vcl, ev_vcr, ev_slc, ev_rev, ev_app, ev_appP, ev_bi, ev_mn, ev_rgl, ev_rgt, ev_isi, ev_mth, ev_neg, evs_nil, evs_cons, evo_non, evo_som, evc_non, evc_som, evi_seq, evi_rng, callR_dat, callR_own, callR_ex, callA_eq, callP_own, callRp_ok, callRp_ex, putP_own, xss_nil, xss_cons, xs_set, stC_ok, bindS_some, xs_asg, xs_tpar, bind_nm, bind_tp, binds_nil, binds_cons, ownC_some, ownQ_own, ownAt_eq, xs_sti, xs_aug, xs_apd, xs_xtd, xs_exp, xs_iff, xs_for, xs_whl, xs_ret, xs_rse, xs_pas, xs_try, tryE_rt, tryE_nx, tryE_ex, fin_rt, fin_nx, fin_ex, finP_rt, finP_nx, op_addI, op_subI, cmp_lt, cmp_le, cmp_gt, cmp_ge, cmp_eqI, cmp_neI, cmp_eqB, cmp_neB, aug_add, ix_of, cmp_isN, cmp_isNotN, bi_lenL, bi_lenT, bi_listL, bi_listT, bi_tupL, bi_tupT, bi_sum, bi_int, bi_all, bi_any, items_L, items_T, dat_d, own_d, at0, at1, at2, al0, al1,  List.getD_cons_zero, List.getD_cons_succ, List.set_cons_zero, List.set_cons_succ, List.length_cons, List.length_nil, Option.map_some, Option.bind_some, Option.map_none, reduceIte, Nat.reduceLT, Nat.reduceAdd, wipeE, List.length_map, List.getElem?_cons_zero, List.getElem?_cons_succ, bind_dP, at0d, at1d, at2d, cut2d, ite_and, ite_or, ite_int]) fun y hy => ⟨_, by simp -implicitDefEqProofs only [evO_some, bnd_ok, bnd_ex, lift_some, liftC_dat, liftC_own, fl_ok, fl_ex, then_nx, then_rt, then_ex, data_dat, data_own, data_ex, truth_ok, truth_ex, readC_dat, readC_own, peekC_dat, peekC_own, ev_var, ev_lit, ev_gc, ev_fnm, ev_bin, ev_not, ev_and, ev_or, ev_cmp, ev_chn, ev_ite, ev_tup, ev_lst, ev_idx, ev_vix, ev_vln, ev_vcl, ev_vcr, ev_slc, ev_rev, ev_app, ev_appP, ev_bi, ev_mn, ev_rgl, ev_rgt, ev_isi, ev_mth, ev_neg, evs_nil, evs_cons, evo_non, evo_som, evc_non, evc_som, evi_seq, evi_rng, callR_dat, callR_own, callR_ex, callA_eq, callP_own, callRp_ok, callRp_ex, putP_own, xss_nil, xss_cons, xs_set, stC_ok, bindS_some, xs_asg, xs_tpar, bind_nm, bind_tp, binds_nil, binds_cons, ownC_some, ownQ_own, ownAt_eq, xs_sti, xs_aug, xs_apd, xs_xtd, xs_exp, xs_iff, xs_for, xs_whl, xs_ret, xs_rse, xs_pas, xs_try, tryE_rt, tryE_nx, tryE_ex, fin_rt, fin_nx, fin_ex, finP_rt, finP_nx, op_addI, op_subI, cmp_lt, cmp_le, cmp_gt, cmp_ge, cmp_eqI, cmp_neI, cmp_eqB, cmp_neB, aug_add, ix_of, cmp_isN, cmp_isNotN, bi_lenL, bi_lenT, bi_listL, bi_listT, bi_tupL, bi_tupT, bi_sum, bi_int, bi_all, bi_any, items_L, items_T, dat_d, own_d, at0, at1, at2, al0, al1,  List.getD_cons_zero, List.getD_cons_succ, List.set_cons_zero, List.set_cons_succ, List.length_cons, List.length_nil, Option.map_some, Option.bind_some, Option.map_none, reduceIte, Nat.reduceLT, Nat.reduceAdd, wipeE, List.length_map, List.getElem?_cons_zero, List.getElem?_cons_succ, bind_dP, at0d, at1d, at2d, cut2d, ite_and, ite_or, ite_int, g1]; rfl, by simp -implicitDefEqProofs only [evO_some, bnd_ok, bnd_ex, lift_some, liftC_dat, liftC_own, fl_ok, fl_ex, then_nx, then_rt, then_ex, data_dat, data_own, data_ex, truth_ok, truth_ex, readC_dat, readC_own, peekC_dat, peekC_own, ev_var, ev_lit, ev_gc, ev_fnm, ev_bin, ev_not, ev_and, ev_or, ev_cmp, ev_chn, ev_ite, ev_tup, ev_lst, ev_idx, ev_vix, ev_vln, ev_vcl, ev_vcr, ev_slc, ev_rev, ev_app, ev_appP, ev_bi, ev_mn, ev_rgl, ev_rgt, ev_isi, ev_mth, ev_neg, evs_nil, evs_cons, evo_non, evo_som, evc_non, evc_som, evi_seq, evi_rng, callR_dat, callR_own, callR_ex, callA_eq, callP_own, callRp_ok, callRp_ex, putP_own, xss_nil, xss_cons, xs_set, stC_ok, bindS_some, xs_asg, xs_tpar, bind_nm, bind_tp, binds_nil, binds_cons, ownC_some, ownQ_own, ownAt_eq, xs_sti, xs_aug, xs_apd, xs_xtd, xs_exp, xs_iff, xs_for, xs_whl, xs_ret, xs_rse, xs_pas, xs_try, tryE_rt, tryE_nx, tryE_ex, fin_rt, fin_nx, fin_ex, finP_rt, finP_nx, op_addI, op_subI, cmp_lt, cmp_le, cmp_gt, cmp_ge, cmp_eqI, cmp_neI, cmp_eqB, cmp_neB, aug_add, ix_of, cmp_isN, cmp_isNotN, bi_lenL, bi_lenT, bi_listL, bi_listT, bi_tupL, bi_tupT, bi_sum, bi_int, bi_all, bi_any, items_L, items_T, dat_d, own_d, at0, at1, at2, al0, al1,  List.getD_cons_zero, List.getD_cons_succ, List.set_cons_zero, List.set_cons_succ, List.length_cons, List.length_nil, Option.map_some, Option.bind_some, Option.map_none, reduceIte, Nat.reduceLT, Nat.reduceAdd, wipeE, List.length_map, List.getElem?_cons_zero, List.getElem?_cons_succ, bind_dP, at0d, at1d, at2d, cut2d, ite_and, ite_or, ite_int]⟩]
      simp -implicitDefEqProofs only [evO_some, bnd_ok, bnd_ex, lift_some, liftC_dat, liftC_own, fl_ok, fl_ex, then_nx, then_rt, then_ex, data_dat, data_own, data_ex, truth_ok, truth_ex, readC_dat, readC_own, peekC_dat, peekC_own, ev_var, ev_lit, ev_gc, ev_fnm, ev_bin, ev_not, ev_and, ev_or, ev_cmp, ev_chn, ev_ite, ev_tup, ev_lst, ev_idx, ev_vix, ev_vln, ev_vcl, ev_vcr, ev_slc, ev_rev, ev_app, ev_appP, ev_bi, ev_mn, ev_rgl, ev_rgt, ev_isi, ev_mth, ev_neg, evs_nil, evs_cons, evo_non, evo_som, evc_non, evc_som, evi_seq, evi_rng, callR_dat, callR_own, callR_ex, callA_eq, callP_own, callRp_ok, callRp_ex, putP_own, xss_nil, xss_cons, xs_set, stC_ok, bindS_some, xs_asg, xs_tpar, bind_nm, bind_tp, binds_nil, binds_cons, ownC_some, ownQ_own, ownAt_eq, xs_sti, xs_aug, xs_apd, xs_xtd, xs_exp, xs_iff, xs_for, xs_whl, xs_ret, xs_rse, xs_pas, xs_try, tryE_rt, tryE_nx, tryE_ex, fin_rt, fin_nx, fin_ex, finP_rt, finP_nx, op_addI, op_subI, cmp_lt, cmp_le, cmp_gt, cmp_ge, cmp_eqI, cmp_neI, cmp_eqB, cmp_neB, aug_add, ix_of, cmp_isN, cmp_isNotN, bi_lenL, bi_lenT, bi_listL, bi_listT, bi_tupL, bi_tupT, bi_sum, bi_int, bi_all, bi_any, items_L, items_T, dat_d, own_d, at0, at1, at2, al0, al1,  List.getD_cons_zero, List.getD_cons_succ, List.set_cons_zero, List.set_cons_succ, List.length_cons, List.length_nil, Option.map_some, Option.bind_some, Option.map_none, reduceIte, Nat.reduceLT, Nat.reduceAdd, wipeE, List.length_map, List.getElem?_cons_zero, List.getElem?_cons_succ, bind_dP, at0d, at1d, at2d, cut2d, ite_and, ite_or, ite_int, g2]
      exact ⟨_, rfl, _, _, rfl⟩)
  rw [h1]
  simp -implicitDefEqProofs only [evO_some, bnd_ok, bnd_ex, lift_some, liftC_dat, liftC_own, fl_ok, fl_ex, then_nx, then_rt, then_ex, data_dat, data_own, data_ex, truth_ok, truth_ex, readC_dat, readC_own, peekC_dat, peekC_own, ev_var, ev_lit, ev_gc, ev_fnm, ev_bin, ev_not, ev_and, ev_or, ev_cmp, ev_chn, ev_ite, ev_tup, ev_lst, ev_idx, ev_vix, ev_vln, ev_vcl, ev_vcr, ev_slc, ev_rev, ev_app, ev_appP, ev_bi, ev_mn, ev_rgl, ev_rgt, ev_isi, ev_mth, ev_neg, evs_nil, evs_cons, evo_non, evo_som, evc_non, evc_som, evi_seq, evi_rng, callR_dat, callR_own, callR_ex, callA_eq, callP_own, callRp_ok, callRp_ex, putP_own, xss_nil, xss_cons, xs_set, stC_ok, bindS_some, xs_asg, xs_tpar, bind_nm, bind_tp, binds_nil, binds_cons, ownC_some, ownQ_own, ownAt_eq, xs_sti, xs_aug, xs_apd, xs_xtd, xs_exp, xs_iff, xs_for, xs_whl, xs_ret, xs_rse, xs_pas, xs_try, tryE_rt, tryE_nx, tryE_ex, fin_rt, fin_nx, fin_ex, finP_rt, finP_nx, op_addI, op_subI, cmp_lt, cmp_le, cmp_gt, cmp_ge, cmp_eqI, cmp_neI, cmp_eqB, cmp_neB, aug_add, ix_of, cmp_isN, cmp_isNotN, bi_lenL, bi_lenT, bi_listL, bi_listT, bi_tupL, bi_tupT, bi_sum, bi_int, bi_all, bi_any, items_L, items_T, dat_d, own_d, at0, at1, at2, al0, al1,  List.getD_cons_zero, List.getD_cons_succ, List.set_cons_zero, List.set_cons_succ, List.length_cons, List.length_nil, Option.map_some, Option.bind_some, Option.map_none, reduceIte, Nat.reduceLT, Nat.reduceAdd, wipeE, List.length_map, List.getElem?_cons_zero, List.getElem?_cons_succ, bind_dP, at0d, at1d, at2d, cut2d, ite_and, ite_or, ite_int]
  obtain ⟨e2, h2, c6', c12', rfl⟩ := forL_ok (f := forB (rn (k + 1)) nm.gv (.nm 6) (.cons (.set 5 (.bin .Add (.var 5) (.cm1 (.tup (.cons (.bin .Add (.idx (.var 6) (.lit (.int 0))) (.var 2)) (.cons (.bin .Add (.var 12) (.var 2)) .nil))) (.nm 12) (.seq (.var 6)) .non [12]))) .nil)) (enc := dI) (xs := b.bs) (e := [.dat a.d, .dat b.d, .dat (.int a.m), .dat (.int a.k), .dat (.int b.k), .own false ((a.bs.flatMap heads).map dP), c6, .no, .no, .no, .no, .no, c12])
    (I := fun pre e => ∃ c6 c12, e = [.dat a.d, .dat b.d, .dat (.int a.m), .dat (.int a.k), .dat (.int b.k), .own false ((a.bs.flatMap heads ++ sh a.m (pre.flatMap heads)).map dP), c6, .no, .no, .no, .no, .no, c12]) ⟨c6, c12, by simp [sh]⟩ (fun pre x post hx e he => by
      obtain ⟨c6, c12, rfl⟩ := he
      have hx' : x ∈ b.bs := by rw [hx]; simp
      have g1 := at_hd (block_ne hb.e hx')
      have g2 : opD .Add (.lst ((a.bs.flatMap heads ++ sh a.m (pre.flatMap heads)).map dP)) (.lst (x.map fun y => dP (hd x + a.m, y + a.m))) = some (.own false ((a.bs.flatMap heads ++ sh a.m ((pre ++ [x]).flatMap heads)).map dP)) := by
        have l0 := hbound a ha a.bs fun y hy => hy
        have l1 := hbound b hb pre fun y hy => by rw [hx]; simp [hy]
        have l2 : pre.length ≤ b.bs.length := by rw [hx]; simp
        have l3 : x.length ≤ 200 := by have := block_len hb.e hx'; omega
        unfold sh
        rw [op_addL (by rw [List.length_map, List.length_map, List.length_append, List.length_map]; omega), List.flatMap_append, List.map_append, List.map_append, List.map_append, List.map_append, List.flatMap_singleton, List.append_assoc]
        unfold heads
        simp only [List.map_map]
        rfl
      rw [forB_some (bind_nm (by simp))]
      simp -implicitDefEqProofs only [evO_some, bnd_ok, bnd_ex, lift_some, liftC_dat, liftC_own, fl_ok, fl_ex, then_nx, then_rt, then_ex, data_dat, data_own, data_ex, truth_ok, truth_ex, readC_dat, readC_own, peekC_dat, peekC_own, ev_var, ev_lit, ev_gc, ev_fnm, ev_bin, ev_not, ev_and, ev_or, ev_cmp, ev_chn, ev_ite, ev_tup, ev_lst, ev_idx, ev_vix, ev_vln, ev_vcl, ev_vcr, ev_slc, ev_rev, ev_app, ev_appP, ev_bi, ev_mn, ev_rgl, ev_rgt, ev_isi, ev_mth, ev_neg, evs_nil, evs_cons, evo_non, evo_som, evc_non, evc_som, evi_seq, evi_rng, callR_dat, callR_own, callR_ex, callA_eq, callP_own, callRp_ok, callRp_ex, putP_own, xss_nil, xss_cons, xs_set, stC_ok, bindS_some, xs_asg, xs_tpar, bind_nm, bind_tp, binds_nil, binds_cons, ownC_some, ownQ_own, ownAt_eq, xs_sti, xs_aug, xs_apd, xs_xtd, xs_exp, xs_iff, xs_for, xs_whl, xs_ret, xs_rse, xs_pas, xs_try, tryE_rt, tryE_nx, tryE_ex, fin_rt, fin_nx, fin_ex, finP_rt, finP_nx, op_addI, op_subI, cmp_lt, cmp_le, cmp_gt, cmp_ge, cmp_eqI, cmp_neI, cmp_eqB, cmp_neB, aug_add, ix_of, cmp_isN, cmp_isNotN, bi_lenL, bi_lenT, bi_listL, bi_listT, bi_tupL, bi_tupT, bi_sum, bi_int, bi_all, bi_any, items_L, items_T, dat_d, own_d, at0, at1, at2, al0, al1,  List.getD_cons_zero, List.getD_cons_succ, List.set_cons_zero, List.set_cons_succ, List.length_cons, List.length_nil, Option.map_some, Option.bind_some, Option.map_none, reduceIte, Nat.reduceLT, Nat.reduceAdd, wipeE, List.length_map, List.getElem?_cons_zero, List.getElem?_cons_succ, bind_dP, at0d, at1d, at2d, cut2d, ite_and, ite_or, ite_int]
      rw [ev_mapS x .int (fun y => dP (hd x + a.m, y + a.m)) (by simp -implicitDefEqProofs only [evO_some, bnd_ok, bnd_ex, lift_some, liftC_dat, liftC_own, fl_ok, fl_ex, then_nx, then_rt, then_ex, data_dat, data_own, data_ex, truth_ok, truth_ex, readC_dat, readC_own, peekC_dat, peekC_own, ev_var, ev_lit, ev_gc, ev_fnm, ev_bin, ev_not, ev_and, ev_or, ev_cmp, ev_chn, ev_ite, ev_tup, ev_lst, ev_idx, ev_vix, ev_vln, ev_vcl, ev_vcr, ev_slc, ev_rev, ev_app, ev_appP, ev_bi, ev_mn, ev_rgl, ev_rgt, ev_isi, ev_mth, ev_neg, evs_nil, evs_cons, evo_non, evo_som, evc_non, evc_som, evi_seq, evi_rng, callR_dat, callR_own, callR_ex, callA_eq, callP_own, callRp_ok, callRp_ex, putP_own, xss_nil, xss_cons, xs_set, stC_ok, bindS_some, xs_asg, xs_tpar, bind_nm, bind_tp, binds_nil, binds_cons, ownC_some, ownQ_own, ownAt_eq, xs_sti, xs_aug, xs_apd, xs_xtd, xs_exp, xs_iff, xs_for, xs_whl, xs_ret, xs_rse, xs_pas, xs_try, tryE_rt, tryE_nx, tryE_ex, fin_rt, fin_nx, fin_ex, finP_rt, finP_nx, op_addI, op_subI, cmp_lt, cmp_le, cmp_gt, cmp_ge, cmp_eqI, cmp_neI, cmp_eqB, cmp_neB, aug_add, ix_of, cmp_isN, cmp_isNotN, bi_lenL, bi_lenT, bi_listL, bi_listT, bi_tupL, bi_tupT, bi_sum, bi_int, bi_all, bi_any, items_L, items_T, dat_d, own_d, at0, at1, at2, al0, al1,  List.getD_cons_zero, List.getD_cons_succ, List.set_cons_zero, List.set_cons_succ, List.length_cons, List.length_nil, Option.map_some, Option.bind_some, Option.map_none, reduceIte, Nat.reduceLT, Nat.reduceAdd, wipeE, List.length_map, List.getElem?_cons_zero, List.getElem?_cons_succ, bind_dP, at0d, at1d, at2d, cut2d, ite_and, ite_or, ite_int]) fun y hy => ⟨_, by simp -implicitDefEqProofs only [evO_some, bnd_ok, bnd_ex, lift_some, liftC_dat, liftC_own, fl_ok, fl_ex, then_nx, then_rt, then_ex, data_dat, data_own, data_ex, truth_ok, truth_ex, readC_dat, readC_own, peekC_dat, peekC_own, ev_var, ev_lit, ev_gc, ev_fnm, ev_bin, ev_not, ev_and, ev_or, ev_cmp, ev_chn, ev_ite, ev_tup, ev_lst, ev_idx, ev_vix, ev_vln, ev_vcl, ev_vcr, ev_slc, ev_rev, ev_app, ev_appP, ev_bi, ev_mn, ev_rgl, ev_rgt, ev_isi, ev_mth, ev_neg, evs_nil, evs_cons, evo_non, evo_som, evc_non, evc_som, evi_seq, evi_rng, callR_dat, callR_own, callR_ex, callA_eq, callP_own, callRp_ok, callRp_ex, putP_own, xss_nil, xss_cons, xs_set, stC_ok, bindS_some, xs_asg, xs_tpar, bind_nm, bind_tp, binds_nil, binds_cons, ownC_some, ownQ_own, ownAt_eq, xs_sti, xs_aug, xs_apd, xs_xtd, xs_exp, xs_iff, xs_for, xs_whl, xs_ret, xs_rse, xs_pas, xs_try, tryE_rt, tryE_nx, tryE_ex, fin_rt, fin_nx, fin_ex, finP_rt, finP_nx, op_addI, op_subI, cmp_lt, cmp_le, cmp_gt, cmp_ge, cmp_eqI, cmp_neI, cmp_eqB, cmp_neB, aug_add, ix_of, cmp_isN, cmp_isNotN, bi_lenL, bi_lenT, bi_listL, bi_listT, bi_tupL, bi_tupT, bi_sum, bi_int, bi_all, bi_any, items_L, items_T, dat_d, own_d, at0, at1, at2, al0, al1,  List.getD_cons_zero, List.getD_cons_succ, List.set_cons_zero, List.set_cons_succ, List.length_cons, List.length_nil, Option.map_some, Option.bind_some, Option.map_none, reduceIte, Nat.reduceLT, Nat.reduceAdd, wipeE, List.length_map, List.getElem?_cons_zero, List.getElem?_cons_succ, bind_dP, at0d, at1d, at2d, cut2d, ite_and, ite_or, ite_int, g1]; rfl, by simp -implicitDefEqProofs only [evO_some, bnd_ok, bnd_ex, lift_some, liftC_dat, liftC_own, fl_ok, fl_ex, then_nx, then_rt, then_ex, data_dat, data_own, data_ex, truth_ok, truth_ex, readC_dat, readC_own, peekC_dat, peekC_own, ev_var, ev_lit, ev_gc, ev_fnm, ev_bin, ev_not, ev_and, ev_or, ev_cmp, ev_chn, ev_ite, ev_tup, ev_lst, ev_idx, ev_vix, ev_vln, ev_vcl, ev_vcr, ev_slc, ev_rev, ev_app, ev_appP, ev_bi, ev_mn, ev_rgl, ev_rgt, ev_isi, ev_mth, ev_neg, evs_nil, evs_cons, evo_non, evo_som, evc_non, evc_som, evi_seq, evi_rng, callR_dat, callR_own, callR_ex, callA_eq, callP_own, callRp_ok, callRp_ex, putP_own, xss_nil, xss_cons, xs_set, stC_ok, bindS_some, xs_asg, xs_tpar, bind_nm, bind_tp, binds_nil, binds_cons, ownC_some, ownQ_own, ownAt_eq, xs_sti, xs_aug, xs_apd, xs_xtd, xs_exp, xs_iff, xs_for, xs_whl, xs_ret, xs_rse, xs_pas, xs_try, tryE_rt, tryE_nx, tryE_ex, fin_rt, fin_nx, fin_ex, finP_rt, finP_nx, op_addI, op_subI, cmp_lt, cmp_le, cmp_gt, cmp_ge, cmp_eqI, cmp_neI, cmp_eqB, cmp_neB, aug_add, ix_of, cmp_isN, cmp_isNotN, bi_lenL, bi_lenT, bi_listL, bi_listT, bi_tupL, bi_tupT, bi_sum, bi_int, bi_all, bi_any, items_L, items_T, dat_d, own_d, at0, at1, at2, al0, al1,  List.getD_cons_zero, List.getD_cons_succ, List.set_cons_zero, List.set_cons_succ, List.length_cons, List.length_nil, Option.map_some, Option.bind_some, Option.map_none, reduceIte, Nat.reduceLT, Nat.reduceAdd, wipeE, List.length_map, List.getElem?_cons_zero, List.getElem?_cons_succ, bind_dP, at0d, at1d, at2d, cut2d, ite_and, ite_or, ite_int]⟩]
      simp -implicitDefEqProofs only [evO_some, bnd_ok, bnd_ex, lift_some, liftC_dat, liftC_own, fl_ok, fl_ex, then_nx, then_rt, then_ex, data_dat, data_own, data_ex, truth_ok, truth_ex, readC_dat, readC_own, peekC_dat, peekC_own, ev_var, ev_lit, ev_gc, ev_fnm, ev_bin, ev_not, ev_and, ev_or, ev_cmp, ev_chn, ev_ite, ev_tup, ev_lst, ev_idx, ev_vix, ev_vln, ev_vcl, ev_vcr, ev_slc, ev_rev, ev_app, ev_appP, ev_bi, ev_mn, ev_rgl, ev_rgt, ev_isi, ev_mth, ev_neg, evs_nil, evs_cons, evo_non, evo_som, evc_non, evc_som, evi_seq, evi_rng, callR_dat, callR_own, callR_ex, callA_eq, callP_own, callRp_ok, callRp_ex, putP_own, xss_nil, xss_cons, xs_set, stC_ok, bindS_some, xs_asg, xs_tpar, bind_nm, bind_tp, binds_nil, binds_cons, ownC_some, ownQ_own, ownAt_eq, xs_sti, xs_aug, xs_apd, xs_xtd, xs_exp, xs_iff, xs_for, xs_whl, xs_ret, xs_rse, xs_pas, xs_try, tryE_rt, tryE_nx, tryE_ex, fin_rt, fin_nx, fin_ex, finP_rt, finP_nx, op_addI, op_subI, cmp_lt, cmp_le, cmp_gt, cmp_ge, cmp_eqI, cmp_neI, cmp_eqB, cmp_neB, aug_add, ix_of, cmp_isN, cmp_isNotN, bi_lenL, bi_lenT, bi_listL, bi_listT, bi_tupL, bi_tupT, bi_sum, bi_int, bi_all, bi_any, items_L, items_T, dat_d, own_d, at0, at1, at2, al0, al1,  List.getD_cons_zero, List.getD_cons_succ, List.set_cons_zero, List.set_cons_succ, List.length_cons, List.length_nil, Option.map_some, Option.bind_some, Option.map_none, reduceIte, Nat.reduceLT, Nat.reduceAdd, wipeE, List.length_map, List.getElem?_cons_zero, List.getElem?_cons_succ, bind_dP, at0d, at1d, at2d, cut2d, ite_and, ite_or, ite_int, g2]
      exact ⟨_, rfl, _, _, rfl⟩)
  rw [h2]
  simp -implicitDefEqProofs only [evO_some, bnd_ok, bnd_ex, lift_some, liftC_dat, liftC_own, fl_ok, fl_ex, then_nx, then_rt, then_ex, data_dat, data_own, data_ex, truth_ok, truth_ex, readC_dat, readC_own, peekC_dat, peekC_own, ev_var, ev_lit, ev_gc, ev_fnm, ev_bin, ev_not, ev_and, ev_or, ev_cmp, ev_chn, ev_ite, ev_tup, ev_lst, ev_idx, ev_vix, ev_vln, ev_vcl, ev_vcr, ev_slc, ev_rev, ev_app, ev_appP, ev_bi, ev_mn, ev_rgl, ev_rgt, ev_isi, ev_mth, ev_neg, evs_nil, evs_cons, evo_non, evo_som, evc_non, evc_som, evi_seq, evi_rng, callR_dat, callR_own, callR_ex, callA_eq, callP_own, callRp_ok, callRp_ex, putP_own, xss_nil, xss_cons, xs_set, stC_ok, bindS_some, xs_asg, xs_tpar, bind_nm, bind_tp, binds_nil, binds_cons, ownC_some, ownQ_own, ownAt_eq, xs_sti, xs_aug, xs_apd, xs_xtd, xs_exp, xs_iff, xs_for, xs_whl, xs_ret, xs_rse, xs_pas, xs_try, tryE_rt, tryE_nx, tryE_ex, fin_rt, fin_nx, fin_ex, finP_rt, finP_nx, op_addI, op_subI, cmp_lt, cmp_le, cmp_gt, cmp_ge, cmp_eqI, cmp_neI, cmp_eqB, cmp_neB, aug_add, ix_of, cmp_isN, cmp_isNotN, bi_lenL, bi_lenT, bi_listL, bi_listT, bi_tupL, bi_tupT, bi_sum, bi_int, bi_all, bi_any, items_L, items_T, dat_d, own_d, at0, at1, at2, al0, al1,  List.getD_cons_zero, List.getD_cons_succ, List.set_cons_zero, List.set_cons_succ, List.length_cons, List.length_nil, Option.map_some, Option.bind_some, Option.map_none, reduceIte, Nat.reduceLT, Nat.reduceAdd, wipeE, List.length_map, List.getElem?_cons_zero, List.getElem?_cons_succ, bind_dP, at0d, at1d, at2d, cut2d, ite_and, ite_or, ite_int]
  obtain ⟨g1, g2⟩ := stk_heads ha hb hk
  rw [sp__law_merge (by omega) (by omega) g1 rfl, g2]
  simp -implicitDefEqProofs only [evO_some, bnd_ok, bnd_ex, lift_some, liftC_dat, liftC_own, fl_ok, fl_ex, then_nx, then_rt, then_ex, data_dat, data_own, data_ex, truth_ok, truth_ex, readC_dat, readC_own, peekC_dat, peekC_own, ev_var, ev_lit, ev_gc, ev_fnm, ev_bin, ev_not, ev_and, ev_or, ev_cmp, ev_chn, ev_ite, ev_tup, ev_lst, ev_idx, ev_vix, ev_vln, ev_vcl, ev_vcr, ev_slc, ev_rev, ev_app, ev_appP, ev_bi, ev_mn, ev_rgl, ev_rgt, ev_isi, ev_mth, ev_neg, evs_nil, evs_cons, evo_non, evo_som, evc_non, evc_som, evi_seq, evi_rng, callR_dat, callR_own, callR_ex, callA_eq, callP_own, callRp_ok, callRp_ex, putP_own, xss_nil, xss_cons, xs_set, stC_ok, bindS_some, xs_asg, xs_tpar, bind_nm, bind_tp, binds_nil, binds_cons, ownC_some, ownQ_own, ownAt_eq, xs_sti, xs_aug, xs_apd, xs_xtd, xs_exp, xs_iff, xs_for, xs_whl, xs_ret, xs_rse, xs_pas, xs_try, tryE_rt, tryE_nx, tryE_ex, fin_rt, fin_nx, fin_ex, finP_rt, finP_nx, op_addI, op_subI, cmp_lt, cmp_le, cmp_gt, cmp_ge, cmp_eqI, cmp_neI, cmp_eqB, cmp_neB, aug_add, ix_of, cmp_isN, cmp_isNotN, bi_lenL, bi_lenT, bi_listL, bi_listT, bi_tupL, bi_tupT, bi_sum, bi_int, bi_all, bi_any, items_L, items_T, dat_d, own_d, at0, at1, at2, al0, al1,  List.getD_cons_zero, List.getD_cons_succ, List.set_cons_zero, List.set_cons_succ, List.length_cons, List.length_nil, Option.map_some, Option.bind_some, Option.map_none, reduceIte, Nat.reduceLT, Nat.reduceAdd, wipeE, List.length_map, List.getElem?_cons_zero, List.getElem?_cons_succ, bind_dP, at0d, at1d, at2d, cut2d, ite_and, ite_or, ite_int]
  show finF false ((forL _ ((a.pcs b).map dI) _).then _) = _
  refine for_fin (enc := dI) (xs := a.pcs b) (fun pre e => ∃ c6 c10 c11 c12 X Y, e = [.dat a.d, .dat b.d, .dat (.int a.m), .dat (.int a.k), .dat (.int b.k), X, c6, Y, .own false (((pre.map (part a.m a.k)).filter fun b => decide (b ≠ [])).map dI), .dat (.int ((pre.filter fun b => decide (part a.m a.k b = [])).length)), c10, c11, c12]) ⟨_, _, _, _, _, _, rfl⟩ (fun pre x post hx e he => ?_) fun e he => ?_
  · obtain ⟨c6, c10, c11, c12, X, Y, rfl⟩ := he
    have hx' : x ∈ a.pcs b := by rw [hx]; simp
    have hl : x.length ≤ 300 := by have := block_len e hx'; omega
    have e3 : ((pre ++ [x]).map (part a.m a.k)).filter (fun b => decide (b ≠ [])) = (pre.map (part a.m a.k)).filter (fun b => decide (b ≠ [])) ++ (if part a.m a.k x ≠ [] then [part a.m a.k x] else []) := by
      rw [List.map_append, List.filter_append]
      congr 1
      by_cases q : part a.m a.k x ≠ [] <;> simp [q]
    have e4 : ((((pre ++ [x]).filter fun b => decide (part a.m a.k b = [])).length : Nat) : Int) = ((pre.filter fun b => decide (part a.m a.k b = [])).length : Int) + (if part a.m a.k x = [] then 1 else 0) := by
      rw [List.filter_append, List.length_append]
      by_cases q : part a.m a.k x = [] <;> simp [q]
    have ep := part_law (m := a.m) (k := a.k) k0 (block_asc e hx')
    rw [forB_some (bind_nm (by simp))]
    simp -implicitDefEqProofs only [evO_some, bnd_ok, bnd_ex, lift_some, liftC_dat, liftC_own, fl_ok, fl_ex, then_nx, then_rt, then_ex, data_dat, data_own, data_ex, truth_ok, truth_ex, readC_dat, readC_own, peekC_dat, peekC_own, ev_var, ev_lit, ev_gc, ev_fnm, ev_bin, ev_not, ev_and, ev_or, ev_cmp, ev_chn, ev_ite, ev_tup, ev_lst, ev_idx, ev_vix, ev_vln, ev_vcl, ev_vcr, ev_slc, ev_rev, ev_app, ev_appP, ev_bi, ev_mn, ev_rgl, ev_rgt, ev_isi, ev_mth, ev_neg, evs_nil, evs_cons, evo_non, evo_som, evc_non, evc_som, evi_seq, evi_rng, callR_dat, callR_own, callR_ex, callA_eq, callP_own, callRp_ok, callRp_ex, putP_own, xss_nil, xss_cons, xs_set, stC_ok, bindS_some, xs_asg, xs_tpar, bind_nm, bind_tp, binds_nil, binds_cons, ownC_some, ownQ_own, ownAt_eq, xs_sti, xs_aug, xs_apd, xs_xtd, xs_exp, xs_iff, xs_for, xs_whl, xs_ret, xs_rse, xs_pas, xs_try, tryE_rt, tryE_nx, tryE_ex, fin_rt, fin_nx, fin_ex, finP_rt, finP_nx, op_addI, op_subI, cmp_lt, cmp_le, cmp_gt, cmp_ge, cmp_eqI, cmp_neI, cmp_eqB, cmp_neB, aug_add, ix_of, cmp_isN, cmp_isNotN, bi_lenL, bi_lenT, bi_listL, bi_listT, bi_tupL, bi_tupT, bi_sum, bi_int, bi_all, bi_any, items_L, items_T, dat_d, own_d, at0, at1, at2, al0, al1,  List.getD_cons_zero, List.getD_cons_succ, List.set_cons_zero, List.set_cons_succ, List.length_cons, List.length_nil, Option.map_some, Option.bind_some, Option.map_none, reduceIte, Nat.reduceLT, Nat.reduceAdd, wipeE, List.length_map, List.getElem?_cons_zero, List.getElem?_cons_succ, bind_dP, at0d, at1d, at2d, cut2d, ite_and, ite_or, ite_int]
    rw [ev_filterS x .int (fun y => y < a.m ∨ a.m + a.k ≤ y) (fun y => .int (if y < a.m then y else y - a.k)) (by simp -implicitDefEqProofs only [evO_some, bnd_ok, bnd_ex, lift_some, liftC_dat, liftC_own, fl_ok, fl_ex, then_nx, then_rt, then_ex, data_dat, data_own, data_ex, truth_ok, truth_ex, readC_dat, readC_own, peekC_dat, peekC_own, ev_var, ev_lit, ev_gc, ev_fnm, ev_bin, ev_not, ev_and, ev_or, ev_cmp, ev_chn, ev_ite, ev_tup, ev_lst, ev_idx, ev_vix, ev_vln, ev_vcl, ev_vcr, ev_slc, ev_rev, ev_app, ev_appP, ev_bi, ev_mn, ev_rgl, ev_rgt, ev_isi, ev_mth, ev_neg, evs_nil, evs_cons, evo_non, evo_som, evc_non, evc_som, evi_seq, evi_rng, callR_dat, callR_own, callR_ex, callA_eq, callP_own, callRp_ok, callRp_ex, putP_own, xss_nil, xss_cons, xs_set, stC_ok, bindS_some, xs_asg, xs_tpar, bind_nm, bind_tp, binds_nil, binds_cons, ownC_some, ownQ_own, ownAt_eq, xs_sti, xs_aug, xs_apd, xs_xtd, xs_exp, xs_iff, xs_for, xs_whl, xs_ret, xs_rse, xs_pas, xs_try, tryE_rt, tryE_nx, tryE_ex, fin_rt, fin_nx, fin_ex, finP_rt, finP_nx, op_addI, op_subI, cmp_lt, cmp_le, cmp_gt, cmp_ge, cmp_eqI, cmp_neI, cmp_eqB, cmp_neB, aug_add, ix_of, cmp_isN, cmp_isNotN, bi_lenL, bi_lenT, bi_listL, bi_listT, bi_tupL, bi_tupT, bi_sum, bi_int, bi_all, bi_any, items_L, items_T, dat_d, own_d, at0, at1, at2, al0, al1,  List.getD_cons_zero, List.getD_cons_succ, List.set_cons_zero, List.set_cons_succ, List.length_cons, List.length_nil, Option.map_some, Option.bind_some, Option.map_none, reduceIte, Nat.reduceLT, Nat.reduceAdd, wipeE, List.length_map, List.getElem?_cons_zero, List.getElem?_cons_succ, bind_dP, at0d, at1d, at2d, cut2d, ite_and, ite_or, ite_int]) fun y hy => ⟨_, by
        have g : (decide (y < a.m) || decide (a.m + a.k ≤ y)) = decide (y < a.m ∨ a.m + a.k ≤ y) := (Bool.decide_or _ _).symm
        simp -implicitDefEqProofs only [evO_some, bnd_ok, bnd_ex, lift_some, liftC_dat, liftC_own, fl_ok, fl_ex, then_nx, then_rt, then_ex, data_dat, data_own, data_ex, truth_ok, truth_ex, readC_dat, readC_own, peekC_dat, peekC_own, ev_var, ev_lit, ev_gc, ev_fnm, ev_bin, ev_not, ev_and, ev_or, ev_cmp, ev_chn, ev_ite, ev_tup, ev_lst, ev_idx, ev_vix, ev_vln, ev_vcl, ev_vcr, ev_slc, ev_rev, ev_app, ev_appP, ev_bi, ev_mn, ev_rgl, ev_rgt, ev_isi, ev_mth, ev_neg, evs_nil, evs_cons, evo_non, evo_som, evc_non, evc_som, evi_seq, evi_rng, callR_dat, callR_own, callR_ex, callA_eq, callP_own, callRp_ok, callRp_ex, putP_own, xss_nil, xss_cons, xs_set, stC_ok, bindS_some, xs_asg, xs_tpar, bind_nm, bind_tp, binds_nil, binds_cons, ownC_some, ownQ_own, ownAt_eq, xs_sti, xs_aug, xs_apd, xs_xtd, xs_exp, xs_iff, xs_for, xs_whl, xs_ret, xs_rse, xs_pas, xs_try, tryE_rt, tryE_nx, tryE_ex, fin_rt, fin_nx, fin_ex, finP_rt, finP_nx, op_addI, op_subI, cmp_lt, cmp_le, cmp_gt, cmp_ge, cmp_eqI, cmp_neI, cmp_eqB, cmp_neB, aug_add, ix_of, cmp_isN, cmp_isNotN, bi_lenL, bi_lenT, bi_listL, bi_listT, bi_tupL, bi_tupT, bi_sum, bi_int, bi_all, bi_any, items_L, items_T, dat_d, own_d, at0, at1, at2, al0, al1,  List.getD_cons_zero, List.getD_cons_succ, List.set_cons_zero, List.set_cons_succ, List.length_cons, List.length_nil, Option.map_some, Option.bind_some, Option.map_none, reduceIte, Nat.reduceLT, Nat.reduceAdd, wipeE, List.length_map, List.getElem?_cons_zero, List.getElem?_cons_succ, bind_dP, at0d, at1d, at2d, cut2d, ite_and, ite_or, ite_int, g]; rfl, by simp -implicitDefEqProofs only [evO_some, bnd_ok, bnd_ex, lift_some, liftC_dat, liftC_own, fl_ok, fl_ex, then_nx, then_rt, then_ex, data_dat, data_own, data_ex, truth_ok, truth_ex, readC_dat, readC_own, peekC_dat, peekC_own, ev_var, ev_lit, ev_gc, ev_fnm, ev_bin, ev_not, ev_and, ev_or, ev_cmp, ev_chn, ev_ite, ev_tup, ev_lst, ev_idx, ev_vix, ev_vln, ev_vcl, ev_vcr, ev_slc, ev_rev, ev_app, ev_appP, ev_bi, ev_mn, ev_rgl, ev_rgt, ev_isi, ev_mth, ev_neg, evs_nil, evs_cons, evo_non, evo_som, evc_non, evc_som, evi_seq, evi_rng, callR_dat, callR_own, callR_ex, callA_eq, callP_own, callRp_ok, callRp_ex, putP_own, xss_nil, xss_cons, xs_set, stC_ok, bindS_some, xs_asg, xs_tpar, bind_nm, bind_tp, binds_nil, binds_cons, ownC_some, ownQ_own, ownAt_eq, xs_sti, xs_aug, xs_apd, xs_xtd, xs_exp, xs_iff, xs_for, xs_whl, xs_ret, xs_rse, xs_pas, xs_try, tryE_rt, tryE_nx, tryE_ex, fin_rt, fin_nx, fin_ex, finP_rt, finP_nx, op_addI, op_subI, cmp_lt, cmp_le, cmp_gt, cmp_ge, cmp_eqI, cmp_neI, cmp_eqB, cmp_neB, aug_add, ix_of, cmp_isN, cmp_isNotN, bi_lenL, bi_lenT, bi_listL, bi_listT, bi_tupL, bi_tupT, bi_sum, bi_int, bi_all, bi_any, items_L, items_T, dat_d, own_d, at0, at1, at2, al0, al1,  List.getD_cons_zero, List.getD_cons_succ, List.set_cons_zero, List.set_cons_succ, List.length_cons, List.length_nil, Option.map_some, Option.bind_some, Option.map_none, reduceIte, Nat.reduceLT, Nat.reduceAdd, wipeE, List.length_map, List.getElem?_cons_zero, List.getElem?_cons_succ, bind_dP, at0d, at1d, at2d, cut2d, ite_and, ite_or, ite_int], fun _ => ⟨_, by
        by_cases q : y < a.m
        · simp -implicitDefEqProofs only [evO_some, bnd_ok, bnd_ex, lift_some, liftC_dat, liftC_own, fl_ok, fl_ex, then_nx, then_rt, then_ex, data_dat, data_own, data_ex, truth_ok, truth_ex, readC_dat, readC_own, peekC_dat, peekC_own, ev_var, ev_lit, ev_gc, ev_fnm, ev_bin, ev_not, ev_and, ev_or, ev_cmp, ev_chn, ev_ite, ev_tup, ev_lst, ev_idx, ev_vix, ev_vln, ev_vcl, ev_vcr, ev_slc, ev_rev, ev_app, ev_appP, ev_bi, ev_mn, ev_rgl, ev_rgt, ev_isi, ev_mth, ev_neg, evs_nil, evs_cons, evo_non, evo_som, evc_non, evc_som, evi_seq, evi_rng, callR_dat, callR_own, callR_ex, callA_eq, callP_own, callRp_ok, callRp_ex, putP_own, xss_nil, xss_cons, xs_set, stC_ok, bindS_some, xs_asg, xs_tpar, bind_nm, bind_tp, binds_nil, binds_cons, ownC_some, ownQ_own, ownAt_eq, xs_sti, xs_aug, xs_apd, xs_xtd, xs_exp, xs_iff, xs_for, xs_whl, xs_ret, xs_rse, xs_pas, xs_try, tryE_rt, tryE_nx, tryE_ex, fin_rt, fin_nx, fin_ex, finP_rt, finP_nx, op_addI, op_subI, cmp_lt, cmp_le, cmp_gt, cmp_ge, cmp_eqI, cmp_neI, cmp_eqB, cmp_neB, aug_add, ix_of, cmp_isN, cmp_isNotN, bi_lenL, bi_lenT, bi_listL, bi_listT, bi_tupL, bi_tupT, bi_sum, bi_int, bi_all, bi_any, items_L, items_T, dat_d, own_d, at0, at1, at2, al0, al1,  List.getD_cons_zero, List.getD_cons_succ, List.set_cons_zero, List.set_cons_succ, List.length_cons, List.length_nil, Option.map_some, Option.bind_some, Option.map_none, reduceIte, Nat.reduceLT, Nat.reduceAdd, wipeE, List.length_map, List.getElem?_cons_zero, List.getElem?_cons_succ, bind_dP, at0d, at1d, at2d, cut2d, ite_and, ite_or, ite_int, ownC_own, ownD_some, set5_1, set5_2, set5_3, at5_0, at5_1, at5_2, at5_3, at5_4, Int.reduceLT, Int.reduceLE, Int.reduceNeg, and_self, true_and, op_mulI, op_mod, op_div, decide_true, decide_false, Bool.false_eq_true, if_false, if_true, q] <;> rfl
        · simp -implicitDefEqProofs only [evO_some, bnd_ok, bnd_ex, lift_some, liftC_dat, liftC_own, fl_ok, fl_ex, then_nx, then_rt, then_ex, data_dat, data_own, data_ex, truth_ok, truth_ex, readC_dat, readC_own, peekC_dat, peekC_own, ev_var, ev_lit, ev_gc, ev_fnm, ev_bin, ev_not, ev_and, ev_or, ev_cmp, ev_chn, ev_ite, ev_tup, ev_lst, ev_idx, ev_vix, ev_vln, ev_vcl, ev_vcr, ev_slc, ev_rev, ev_app, ev_appP, ev_bi, ev_mn, ev_rgl, ev_rgt, ev_isi, ev_mth, ev_neg, evs_nil, evs_cons, evo_non, evo_som, evc_non, evc_som, evi_seq, evi_rng, callR_dat, callR_own, callR_ex, callA_eq, callP_own, callRp_ok, callRp_ex, putP_own, xss_nil, xss_cons, xs_set, stC_ok, bindS_some, xs_asg, xs_tpar, bind_nm, bind_tp, binds_nil, binds_cons, ownC_some, ownQ_own, ownAt_eq, xs_sti, xs_aug, xs_apd, xs_xtd, xs_exp, xs_iff, xs_for, xs_whl, xs_ret, xs_rse, xs_pas, xs_try, tryE_rt, tryE_nx, tryE_ex, fin_rt, fin_nx, fin_ex, finP_rt, finP_nx, op_addI, op_subI, cmp_lt, cmp_le, cmp_gt, cmp_ge, cmp_eqI, cmp_neI, cmp_eqB, cmp_neB, aug_add, ix_of, cmp_isN, cmp_isNotN, bi_lenL, bi_lenT, bi_listL, bi_listT, bi_tupL, bi_tupT, bi_sum, bi_int, bi_all, bi_any, items_L, items_T, dat_d, own_d, at0, at1, at2, al0, al1,  List.getD_cons_zero, List.getD_cons_succ, List.set_cons_zero, List.set_cons_succ, List.length_cons, List.length_nil, Option.map_some, Option.bind_some, Option.map_none, reduceIte, Nat.reduceLT, Nat.reduceAdd, wipeE, List.length_map, List.getElem?_cons_zero, List.getElem?_cons_succ, bind_dP, at0d, at1d, at2d, cut2d, ite_and, ite_or, ite_int, ownC_own, ownD_some, set5_1, set5_2, set5_3, at5_0, at5_1, at5_2, at5_3, at5_4, Int.reduceLT, Int.reduceLE, Int.reduceNeg, and_self, true_and, op_mulI, op_mod, op_div, decide_true, decide_false, Bool.false_eq_true, if_false, if_true, q] <;> rfl, by simp -implicitDefEqProofs only [evO_some, bnd_ok, bnd_ex, lift_some, liftC_dat, liftC_own, fl_ok, fl_ex, then_nx, then_rt, then_ex, data_dat, data_own, data_ex, truth_ok, truth_ex, readC_dat, readC_own, peekC_dat, peekC_own, ev_var, ev_lit, ev_gc, ev_fnm, ev_bin, ev_not, ev_and, ev_or, ev_cmp, ev_chn, ev_ite, ev_tup, ev_lst, ev_idx, ev_vix, ev_vln, ev_vcl, ev_vcr, ev_slc, ev_rev, ev_app, ev_appP, ev_bi, ev_mn, ev_rgl, ev_rgt, ev_isi, ev_mth, ev_neg, evs_nil, evs_cons, evo_non, evo_som, evc_non, evc_som, evi_seq, evi_rng, callR_dat, callR_own, callR_ex, callA_eq, callP_own, callRp_ok, callRp_ex, putP_own, xss_nil, xss_cons, xs_set, stC_ok, bindS_some, xs_asg, xs_tpar, bind_nm, bind_tp, binds_nil, binds_cons, ownC_some, ownQ_own, ownAt_eq, xs_sti, xs_aug, xs_apd, xs_xtd, xs_exp, xs_iff, xs_for, xs_whl, xs_ret, xs_rse, xs_pas, xs_try, tryE_rt, tryE_nx, tryE_ex, fin_rt, fin_nx, fin_ex, finP_rt, finP_nx, op_addI, op_subI, cmp_lt, cmp_le, cmp_gt, cmp_ge, cmp_eqI, cmp_neI, cmp_eqB, cmp_neB, aug_add, ix_of, cmp_isN, cmp_isNotN, bi_lenL, bi_lenT, bi_listL, bi_listT, bi_tupL, bi_tupT, bi_sum, bi_int, bi_all, bi_any, items_L, items_T, dat_d, own_d, at0, at1, at2, al0, al1,  List.getD_cons_zero, List.getD_cons_succ, List.set_cons_zero, List.set_cons_succ, List.length_cons, List.length_nil, Option.map_some, Option.bind_some, Option.map_none, reduceIte, Nat.reduceLT, Nat.reduceAdd, wipeE, List.length_map, List.getElem?_cons_zero, List.getElem?_cons_succ, bind_dP, at0d, at1d, at2d, cut2d, ite_and, ite_or, ite_int]⟩⟩]
    have ep2 : (x.filter fun y => decide (y < a.m ∨ a.m + a.k ≤ y)).map (fun y => Z.D.int (if y < a.m then y else y - a.k)) = (part a.m a.k x).map .int := by
      rw [← ep, List.map_map]
      rfl
    simp -implicitDefEqProofs only [evO_some, bnd_ok, bnd_ex, lift_some, liftC_dat, liftC_own, fl_ok, fl_ex, then_nx, then_rt, then_ex, data_dat, data_own, data_ex, truth_ok, truth_ex, readC_dat, readC_own, peekC_dat, peekC_own, ev_var, ev_lit, ev_gc, ev_fnm, ev_bin, ev_not, ev_and, ev_or, ev_cmp, ev_chn, ev_ite, ev_tup, ev_lst, ev_idx, ev_vix, ev_vln, ev_vcl, ev_vcr, ev_slc, ev_rev, ev_app, ev_appP, ev_bi, ev_mn, ev_rgl, ev_rgt, ev_isi, ev_mth, ev_neg, evs_nil, evs_cons, evo_non, evo_som, evc_non, evc_som, evi_seq, evi_rng, callR_dat, callR_own, callR_ex, callA_eq, callP_own, callRp_ok, callRp_ex, putP_own, xss_nil, xss_cons, xs_set, stC_ok, bindS_some, xs_asg, xs_tpar, bind_nm, bind_tp, binds_nil, binds_cons, ownC_some, ownQ_own, ownAt_eq, xs_sti, xs_aug, xs_apd, xs_xtd, xs_exp, xs_iff, xs_for, xs_whl, xs_ret, xs_rse, xs_pas, xs_try, tryE_rt, tryE_nx, tryE_ex, fin_rt, fin_nx, fin_ex, finP_rt, finP_nx, op_addI, op_subI, cmp_lt, cmp_le, cmp_gt, cmp_ge, cmp_eqI, cmp_neI, cmp_eqB, cmp_neB, aug_add, ix_of, cmp_isN, cmp_isNotN, bi_lenL, bi_lenT, bi_listL, bi_listT, bi_tupL, bi_tupT, bi_sum, bi_int, bi_all, bi_any, items_L, items_T, dat_d, own_d, at0, at1, at2, al0, al1,  List.getD_cons_zero, List.getD_cons_succ, List.set_cons_zero, List.set_cons_succ, List.length_cons, List.length_nil, Option.map_some, Option.bind_some, Option.map_none, reduceIte, Nat.reduceLT, Nat.reduceAdd, wipeE, List.length_map, List.getElem?_cons_zero, List.getElem?_cons_succ, bind_dP, at0d, at1d, at2d, cut2d, ite_and, ite_or, ite_int, ep2, cmp_eq_nil]
    by_cases q : part a.m a.k x = []
    · simp -implicitDefEqProofs only [evO_some, bnd_ok, bnd_ex, lift_some, liftC_dat, liftC_own, fl_ok, fl_ex, then_nx, then_rt, then_ex, data_dat, data_own, data_ex, truth_ok, truth_ex, readC_dat, readC_own, peekC_dat, peekC_own, ev_var, ev_lit, ev_gc, ev_fnm, ev_bin, ev_not, ev_and, ev_or, ev_cmp, ev_chn, ev_ite, ev_tup, ev_lst, ev_idx, ev_vix, ev_vln, ev_vcl, ev_vcr, ev_slc, ev_rev, ev_app, ev_appP, ev_bi, ev_mn, ev_rgl, ev_rgt, ev_isi, ev_mth, ev_neg, evs_nil, evs_cons, evo_non, evo_som, evc_non, evc_som, evi_seq, evi_rng, callR_dat, callR_own, callR_ex, callA_eq, callP_own, callRp_ok, callRp_ex, putP_own, xss_nil, xss_cons, xs_set, stC_ok, bindS_some, xs_asg, xs_tpar, bind_nm, bind_tp, binds_nil, binds_cons, ownC_some, ownQ_own, ownAt_eq, xs_sti, xs_aug, xs_apd, xs_xtd, xs_exp, xs_iff, xs_for, xs_whl, xs_ret, xs_rse, xs_pas, xs_try, tryE_rt, tryE_nx, tryE_ex, fin_rt, fin_nx, fin_ex, finP_rt, finP_nx, op_addI, op_subI, cmp_lt, cmp_le, cmp_gt, cmp_ge, cmp_eqI, cmp_neI, cmp_eqB, cmp_neB, aug_add, ix_of, cmp_isN, cmp_isNotN, bi_lenL, bi_lenT, bi_listL, bi_listT, bi_tupL, bi_tupT, bi_sum, bi_int, bi_all, bi_any, items_L, items_T, dat_d, own_d, at0, at1, at2, al0, al1,  List.getD_cons_zero, List.getD_cons_succ, List.set_cons_zero, List.set_cons_succ, List.length_cons, List.length_nil, Option.map_some, Option.bind_some, Option.map_none, reduceIte, Nat.reduceLT, Nat.reduceAdd, wipeE, List.length_map, List.getElem?_cons_zero, List.getElem?_cons_succ, bind_dP, at0d, at1d, at2d, cut2d, ite_and, ite_or, ite_int, ownC_own, ownD_some, set5_1, set5_2, set5_3, at5_0, at5_1, at5_2, at5_3, at5_4, Int.reduceLT, Int.reduceLE, Int.reduceNeg, and_self, true_and, op_mulI, op_mod, op_div, decide_true, decide_false, Bool.false_eq_true, if_false, if_true, q]
      rw [e3, e4, if_neg (by simpa using q), if_pos q, List.append_nil]
      exact ⟨_, rfl, _, _, _, _, _, _, rfl⟩
    · have hl2 : ((pre.map (part a.m a.k)).filter fun b => decide (b ≠ [])).length < LIM := by
        have f3 := List.length_filter_le (fun b => decide (b ≠ [])) (pre.map (part a.m a.k))
        have f4 : pre.length ≤ (a.pcs b).length := by rw [hx]; simp
        rw [List.length_map] at f3
        unfold LIM; omega
      simp -implicitDefEqProofs only [evO_some, bnd_ok, bnd_ex, lift_some, liftC_dat, liftC_own, fl_ok, fl_ex, then_nx, then_rt, then_ex, data_dat, data_own, data_ex, truth_ok, truth_ex, readC_dat, readC_own, peekC_dat, peekC_own, ev_var, ev_lit, ev_gc, ev_fnm, ev_bin, ev_not, ev_and, ev_or, ev_cmp, ev_chn, ev_ite, ev_tup, ev_lst, ev_idx, ev_vix, ev_vln, ev_vcl, ev_vcr, ev_slc, ev_rev, ev_app, ev_appP, ev_bi, ev_mn, ev_rgl, ev_rgt, ev_isi, ev_mth, ev_neg, evs_nil, evs_cons, evo_non, evo_som, evc_non, evc_som, evi_seq, evi_rng, callR_dat, callR_own, callR_ex, callA_eq, callP_own, callRp_ok, callRp_ex, putP_own, xss_nil, xss_cons, xs_set, stC_ok, bindS_some, xs_asg, xs_tpar, bind_nm, bind_tp, binds_nil, binds_cons, ownC_some, ownQ_own, ownAt_eq, xs_sti, xs_aug, xs_apd, xs_xtd, xs_exp, xs_iff, xs_for, xs_whl, xs_ret, xs_rse, xs_pas, xs_try, tryE_rt, tryE_nx, tryE_ex, fin_rt, fin_nx, fin_ex, finP_rt, finP_nx, op_addI, op_subI, cmp_lt, cmp_le, cmp_gt, cmp_ge, cmp_eqI, cmp_neI, cmp_eqB, cmp_neB, aug_add, ix_of, cmp_isN, cmp_isNotN, bi_lenL, bi_lenT, bi_listL, bi_listT, bi_tupL, bi_tupT, bi_sum, bi_int, bi_all, bi_any, items_L, items_T, dat_d, own_d, at0, at1, at2, al0, al1,  List.getD_cons_zero, List.getD_cons_succ, List.set_cons_zero, List.set_cons_succ, List.length_cons, List.length_nil, Option.map_some, Option.bind_some, Option.map_none, reduceIte, Nat.reduceLT, Nat.reduceAdd, wipeE, List.length_map, List.getElem?_cons_zero, List.getElem?_cons_succ, bind_dP, at0d, at1d, at2d, cut2d, ite_and, ite_or, ite_int, ownC_own, ownD_some, set5_1, set5_2, set5_3, at5_0, at5_1, at5_2, at5_3, at5_4, Int.reduceLT, Int.reduceLE, Int.reduceNeg, and_self, true_and, op_mulI, op_mod, op_div, decide_true, decide_false, Bool.false_eq_true, if_false, if_true, q, hl2]
      rw [e3, e4, if_pos q, if_neg q, Int.add_zero, List.map_append]
      exact ⟨_, rfl, _, _, _, _, _, _, rfl⟩
  · obtain ⟨c6, c10, c11, c12, X, Y, rfl⟩ := he
    have hk' : (((a.pcs b).map (part a.m a.k)).filter fun b => decide (b ≠ [])) = keptOf a.m a.k b.k a.r b.r := rfl
    simp -implicitDefEqProofs only [evO_some, bnd_ok, bnd_ex, lift_some, liftC_dat, liftC_own, fl_ok, fl_ex, then_nx, then_rt, then_ex, data_dat, data_own, data_ex, truth_ok, truth_ex, readC_dat, readC_own, peekC_dat, peekC_own, ev_var, ev_lit, ev_gc, ev_fnm, ev_bin, ev_not, ev_and, ev_or, ev_cmp, ev_chn, ev_ite, ev_tup, ev_lst, ev_idx, ev_vix, ev_vln, ev_vcl, ev_vcr, ev_slc, ev_rev, ev_app, ev_appP, ev_bi, ev_mn, ev_rgl, ev_rgt, ev_isi, ev_mth, ev_neg, evs_nil, evs_cons, evo_non, evo_som, evc_non, evc_som, evi_seq, evi_rng, callR_dat, callR_own, callR_ex, callA_eq, callP_own, callRp_ok, callRp_ex, putP_own, xss_nil, xss_cons, xs_set, stC_ok, bindS_some, xs_asg, xs_tpar, bind_nm, bind_tp, binds_nil, binds_cons, ownC_some, ownQ_own, ownAt_eq, xs_sti, xs_aug, xs_apd, xs_xtd, xs_exp, xs_iff, xs_for, xs_whl, xs_ret, xs_rse, xs_pas, xs_try, tryE_rt, tryE_nx, tryE_ex, fin_rt, fin_nx, fin_ex, finP_rt, finP_nx, op_addI, op_subI, cmp_lt, cmp_le, cmp_gt, cmp_ge, cmp_eqI, cmp_neI, cmp_eqB, cmp_neB, aug_add, ix_of, cmp_isN, cmp_isNotN, bi_lenL, bi_lenT, bi_listL, bi_listT, bi_tupL, bi_tupT, bi_sum, bi_int, bi_all, bi_any, items_L, items_T, dat_d, own_d, at0, at1, at2, al0, al1,  List.getD_cons_zero, List.getD_cons_succ, List.set_cons_zero, List.set_cons_succ, List.length_cons, List.length_nil, Option.map_some, Option.bind_some, Option.map_none, reduceIte, Nat.reduceLT, Nat.reduceAdd, wipeE, List.length_map, List.getElem?_cons_zero, List.getElem?_cons_succ, bind_dP, at0d, at1d, at2d, cut2d, ite_and, ite_or, ite_int, hk', bi_sortL (pc.sortable pe (by omega)) (pc.sort pe)]
    rfl

theorem sp__law_still {k : Nat} {n : Int} (h0 : 0 ≤ n) (h1 : n ≤ 100) : rn (k + 1) i__law_still none [.int n] = .ok (.dat (still n).d) [] := by
  rw [st__law_still, b__law_still]
  simp -implicitDefEqProofs only [evO_some, bnd_ok, bnd_ex, lift_some, liftC_dat, liftC_own, fl_ok, fl_ex, then_nx, then_rt, then_ex, data_dat, data_own, data_ex, truth_ok, truth_ex, readC_dat, readC_own, peekC_dat, peekC_own, ev_var, ev_lit, ev_gc, ev_fnm, ev_bin, ev_not, ev_and, ev_or, ev_cmp, ev_chn, ev_ite, ev_tup, ev_lst, ev_idx, ev_vix, ev_vln, ev_vcl, ev_vcr, ev_slc, ev_rev, ev_app, ev_appP, ev_bi, ev_mn, ev_rgl, ev_rgt, ev_isi, ev_mth, ev_neg, evs_nil, evs_cons, evo_non, evo_som, evc_non, evc_som, evi_seq, evi_rng, callR_dat, callR_own, callR_ex, callA_eq, callP_own, callRp_ok, callRp_ex, putP_own, xss_nil, xss_cons, xs_set, stC_ok, bindS_some, xs_asg, xs_tpar, bind_nm, bind_tp, binds_nil, binds_cons, ownC_some, ownQ_own, ownAt_eq, xs_sti, xs_aug, xs_apd, xs_xtd, xs_exp, xs_iff, xs_for, xs_whl, xs_ret, xs_rse, xs_pas, xs_try, tryE_rt, tryE_nx, tryE_ex, fin_rt, fin_nx, fin_ex, finP_rt, finP_nx, op_addI, op_subI, cmp_lt, cmp_le, cmp_gt, cmp_ge, cmp_eqI, cmp_neI, cmp_eqB, cmp_neB, aug_add, ix_of, cmp_isN, cmp_isNotN, bi_lenL, bi_lenT, bi_listL, bi_listT, bi_tupL, bi_tupT, bi_sum, bi_int, bi_all, bi_any, items_L, items_T, dat_d, own_d, at0, at1, at2, al0, al1,  List.getD_cons_zero, List.getD_cons_succ, List.set_cons_zero, List.set_cons_succ, List.length_cons, List.length_nil, Option.map_some, Option.bind_some, Option.map_none, reduceIte, Nat.reduceLT, Nat.reduceAdd, wipeE, List.length_map, List.getElem?_cons_zero, List.getElem?_cons_succ, bind_dP, at0d, at1d, at2d, cut2d, ite_and, ite_or, ite_int]
  rw [ev_mapS (rng n) .int (fun i => dI [i, n + i]) ?hit fun i hi => ?hb]
  case hit =>
    simp -implicitDefEqProofs only [evO_some, bnd_ok, bnd_ex, lift_some, liftC_dat, liftC_own, fl_ok, fl_ex, then_nx, then_rt, then_ex, data_dat, data_own, data_ex, truth_ok, truth_ex, readC_dat, readC_own, peekC_dat, peekC_own, ev_var, ev_lit, ev_gc, ev_fnm, ev_bin, ev_not, ev_and, ev_or, ev_cmp, ev_chn, ev_ite, ev_tup, ev_lst, ev_idx, ev_vix, ev_vln, ev_vcl, ev_vcr, ev_slc, ev_rev, ev_app, ev_appP, ev_bi, ev_mn, ev_rgl, ev_rgt, ev_isi, ev_mth, ev_neg, evs_nil, evs_cons, evo_non, evo_som, evc_non, evc_som, evi_seq, evi_rng, callR_dat, callR_own, callR_ex, callA_eq, callP_own, callRp_ok, callRp_ex, putP_own, xss_nil, xss_cons, xs_set, stC_ok, bindS_some, xs_asg, xs_tpar, bind_nm, bind_tp, binds_nil, binds_cons, ownC_some, ownQ_own, ownAt_eq, xs_sti, xs_aug, xs_apd, xs_xtd, xs_exp, xs_iff, xs_for, xs_whl, xs_ret, xs_rse, xs_pas, xs_try, tryE_rt, tryE_nx, tryE_ex, fin_rt, fin_nx, fin_ex, finP_rt, finP_nx, op_addI, op_subI, cmp_lt, cmp_le, cmp_gt, cmp_ge, cmp_eqI, cmp_neI, cmp_eqB, cmp_neB, aug_add, ix_of, cmp_isN, cmp_isNotN, bi_lenL, bi_lenT, bi_listL, bi_listT, bi_tupL, bi_tupT, bi_sum, bi_int, bi_all, bi_any, items_L, items_T, dat_d, own_d, at0, at1, at2, al0, al1,  List.getD_cons_zero, List.getD_cons_succ, List.set_cons_zero, List.set_cons_succ, List.length_cons, List.length_nil, Option.map_some, Option.bind_some, Option.map_none, reduceIte, Nat.reduceLT, Nat.reduceAdd, wipeE, List.length_map, List.getElem?_cons_zero, List.getElem?_cons_succ, bind_dP, at0d, at1d, at2d, cut2d, ite_and, ite_or, ite_int]
    rw [rngD_one (by omega) (by omega)]
    simp -implicitDefEqProofs only [evO_some, bnd_ok, bnd_ex, lift_some, liftC_dat, liftC_own, fl_ok, fl_ex, then_nx, then_rt, then_ex, data_dat, data_own, data_ex, truth_ok, truth_ex, readC_dat, readC_own, peekC_dat, peekC_own, ev_var, ev_lit, ev_gc, ev_fnm, ev_bin, ev_not, ev_and, ev_or, ev_cmp, ev_chn, ev_ite, ev_tup, ev_lst, ev_idx, ev_vix, ev_vln, ev_vcl, ev_vcr, ev_slc, ev_rev, ev_app, ev_appP, ev_bi, ev_mn, ev_rgl, ev_rgt, ev_isi, ev_mth, ev_neg, evs_nil, evs_cons, evo_non, evo_som, evc_non, evc_som, evi_seq, evi_rng, callR_dat, callR_own, callR_ex, callA_eq, callP_own, callRp_ok, callRp_ex, putP_own, xss_nil, xss_cons, xs_set, stC_ok, bindS_some, xs_asg, xs_tpar, bind_nm, bind_tp, binds_nil, binds_cons, ownC_some, ownQ_own, ownAt_eq, xs_sti, xs_aug, xs_apd, xs_xtd, xs_exp, xs_iff, xs_for, xs_whl, xs_ret, xs_rse, xs_pas, xs_try, tryE_rt, tryE_nx, tryE_ex, fin_rt, fin_nx, fin_ex, finP_rt, finP_nx, op_addI, op_subI, cmp_lt, cmp_le, cmp_gt, cmp_ge, cmp_eqI, cmp_neI, cmp_eqB, cmp_neB, aug_add, ix_of, cmp_isN, cmp_isNotN, bi_lenL, bi_lenT, bi_listL, bi_listT, bi_tupL, bi_tupT, bi_sum, bi_int, bi_all, bi_any, items_L, items_T, dat_d, own_d, at0, at1, at2, al0, al1,  List.getD_cons_zero, List.getD_cons_succ, List.set_cons_zero, List.set_cons_succ, List.length_cons, List.length_nil, Option.map_some, Option.bind_some, Option.map_none, reduceIte, Nat.reduceLT, Nat.reduceAdd, wipeE, List.length_map, List.getElem?_cons_zero, List.getElem?_cons_succ, bind_dP, at0d, at1d, at2d, cut2d, ite_and, ite_or, ite_int]
  case hb =>
    exact ⟨_, by simp -implicitDefEqProofs only [evO_some, bnd_ok, bnd_ex, lift_some, liftC_dat, liftC_own, fl_ok, fl_ex, then_nx, then_rt, then_ex, data_dat, data_own, data_ex, truth_ok, truth_ex, readC_dat, readC_own, peekC_dat, peekC_own, ev_var, ev_lit, ev_gc, ev_fnm, ev_bin, ev_not, ev_and, ev_or, ev_cmp, ev_chn, ev_ite, ev_tup, ev_lst, ev_idx, ev_vix, ev_vln, ev_vcl, ev_vcr, ev_slc, ev_rev, ev_app, ev_appP, ev_bi, ev_mn, ev_rgl, ev_rgt, ev_isi, ev_mth, ev_neg, evs_nil, evs_cons, evo_non, evo_som, evc_non, evc_som, evi_seq, evi_rng, callR_dat, callR_own, callR_ex, callA_eq, callP_own, callRp_ok, callRp_ex, putP_own, xss_nil, xss_cons, xs_set, stC_ok, bindS_some, xs_asg, xs_tpar, bind_nm, bind_tp, binds_nil, binds_cons, ownC_some, ownQ_own, ownAt_eq, xs_sti, xs_aug, xs_apd, xs_xtd, xs_exp, xs_iff, xs_for, xs_whl, xs_ret, xs_rse, xs_pas, xs_try, tryE_rt, tryE_nx, tryE_ex, fin_rt, fin_nx, fin_ex, finP_rt, finP_nx, op_addI, op_subI, cmp_lt, cmp_le, cmp_gt, cmp_ge, cmp_eqI, cmp_neI, cmp_eqB, cmp_neB, aug_add, ix_of, cmp_isN, cmp_isNotN, bi_lenL, bi_lenT, bi_listL, bi_listT, bi_tupL, bi_tupT, bi_sum, bi_int, bi_all, bi_any, items_L, items_T, dat_d, own_d, at0, at1, at2, al0, al1,  List.getD_cons_zero, List.getD_cons_succ, List.set_cons_zero, List.set_cons_succ, List.length_cons, List.length_nil, Option.map_some, Option.bind_some, Option.map_none, reduceIte, Nat.reduceLT, Nat.reduceAdd, wipeE, List.length_map, List.getElem?_cons_zero, List.getElem?_cons_succ, bind_dP, at0d, at1d, at2d, cut2d, ite_and, ite_or, ite_int]; rfl, by simp -implicitDefEqProofs only [evO_some, bnd_ok, bnd_ex, lift_some, liftC_dat, liftC_own, fl_ok, fl_ex, then_nx, then_rt, then_ex, data_dat, data_own, data_ex, truth_ok, truth_ex, readC_dat, readC_own, peekC_dat, peekC_own, ev_var, ev_lit, ev_gc, ev_fnm, ev_bin, ev_not, ev_and, ev_or, ev_cmp, ev_chn, ev_ite, ev_tup, ev_lst, ev_idx, ev_vix, ev_vln, ev_vcl, ev_vcr, ev_slc, ev_rev, ev_app, ev_appP, ev_bi, ev_mn, ev_rgl, ev_rgt, ev_isi, ev_mth, ev_neg, evs_nil, evs_cons, evo_non, evo_som, evc_non, evc_som, evi_seq, evi_rng, callR_dat, callR_own, callR_ex, callA_eq, callP_own, callRp_ok, callRp_ex, putP_own, xss_nil, xss_cons, xs_set, stC_ok, bindS_some, xs_asg, xs_tpar, bind_nm, bind_tp, binds_nil, binds_cons, ownC_some, ownQ_own, ownAt_eq, xs_sti, xs_aug, xs_apd, xs_xtd, xs_exp, xs_iff, xs_for, xs_whl, xs_ret, xs_rse, xs_pas, xs_try, tryE_rt, tryE_nx, tryE_ex, fin_rt, fin_nx, fin_ex, finP_rt, finP_nx, op_addI, op_subI, cmp_lt, cmp_le, cmp_gt, cmp_ge, cmp_eqI, cmp_neI, cmp_eqB, cmp_neB, aug_add, ix_of, cmp_isN, cmp_isNotN, bi_lenL, bi_lenT, bi_listL, bi_listT, bi_tupL, bi_tupT, bi_sum, bi_int, bi_all, bi_any, items_L, items_T, dat_d, own_d, at0, at1, at2, al0, al1,  List.getD_cons_zero, List.getD_cons_succ, List.set_cons_zero, List.set_cons_succ, List.length_cons, List.length_nil, Option.map_some, Option.bind_some, Option.map_none, reduceIte, Nat.reduceLT, Nat.reduceAdd, wipeE, List.length_map, List.getElem?_cons_zero, List.getElem?_cons_succ, bind_dP, at0d, at1d, at2d, cut2d, ite_and, ite_or, ite_int]⟩
  simp -implicitDefEqProofs only [evO_some, bnd_ok, bnd_ex, lift_some, liftC_dat, liftC_own, fl_ok, fl_ex, then_nx, then_rt, then_ex, data_dat, data_own, data_ex, truth_ok, truth_ex, readC_dat, readC_own, peekC_dat, peekC_own, ev_var, ev_lit, ev_gc, ev_fnm, ev_bin, ev_not, ev_and, ev_or, ev_cmp, ev_chn, ev_ite, ev_tup, ev_lst, ev_idx, ev_vix, ev_vln, ev_vcl, ev_vcr, ev_slc, ev_rev, ev_app, ev_appP, ev_bi, ev_mn, ev_rgl, ev_rgt, ev_isi, ev_mth, ev_neg, evs_nil, evs_cons, evo_non, evo_som, evc_non, evc_som, evi_seq, evi_rng, callR_dat, callR_own, callR_ex, callA_eq, callP_own, callRp_ok, callRp_ex, putP_own, xss_nil, xss_cons, xs_set, stC_ok, bindS_some, xs_asg, xs_tpar, bind_nm, bind_tp, binds_nil, binds_cons, ownC_some, ownQ_own, ownAt_eq, xs_sti, xs_aug, xs_apd, xs_xtd, xs_exp, xs_iff, xs_for, xs_whl, xs_ret, xs_rse, xs_pas, xs_try, tryE_rt, tryE_nx, tryE_ex, fin_rt, fin_nx, fin_ex, finP_rt, finP_nx, op_addI, op_subI, cmp_lt, cmp_le, cmp_gt, cmp_ge, cmp_eqI, cmp_neI, cmp_eqB, cmp_neB, aug_add, ix_of, cmp_isN, cmp_isNotN, bi_lenL, bi_lenT, bi_listL, bi_listT, bi_tupL, bi_tupT, bi_sum, bi_int, bi_all, bi_any, items_L, items_T, dat_d, own_d, at0, at1, at2, al0, al1,  List.getD_cons_zero, List.getD_cons_succ, List.set_cons_zero, List.set_cons_succ, List.length_cons, List.length_nil, Option.map_some, Option.bind_some, Option.map_none, reduceIte, Nat.reduceLT, Nat.reduceAdd, wipeE, List.length_map, List.getElem?_cons_zero, List.getElem?_cons_succ, bind_dP, at0d, at1d, at2d, cut2d, ite_and, ite_or, ite_int]
  rw [Dg.d_eq, ← still_bs]
  unfold dB
  rw [List.map_map]
  rfl

def uf : DD := .str "unfit"
theorem cmp_uf {d : DD} {n : Nat} (h : d.sh 60 = true) (hd : D.eq d uf = false) : cmpD .Eq d uf = some false ∧ cmpD .NotEq d uf = some true := by
  rw [cmp_eq h (by decide +kernel), cmp_ne h (by decide +kernel), hd]
  exact ⟨rfl, rfl⟩
theorem ne_uf : cmpD .NotEq uf uf = some false := by
  rw [cmp_ne (by decide +kernel) (by decide +kernel)]
  decide +kernel
theorem sp__law_try {k : Nat} {i : Int} {a b : Dg} (ha : a.Ok) (hb : b.Ok) (hk : a.k = b.m) : ∃ d, rn (k + 6) i__law_try none [.int i, a.d, b.d] = .ok (.dat d) [] ∧ cmpD .Eq d uf = some false := by
  rw [st__law_try, b__law_try]
  have hc := sp_chain (k := k + 1) (X := .lst [a.d, b.d]) ha.m0 ha.m1 (l := [a, b]) (q := b.k) ⟨ha, rfl, hb, hk.symm, rfl⟩ rfl
  have hd := sp_chain_lost (k := k + 1) (X := .tup [a.d, b.d]) ha.m0 ha.m1 (l := [a, b]) (q := b.k) ⟨ha, rfl, hb, hk.symm, rfl⟩ rfl
  have s1 : ∀ c : Dg, cmpD .Eq c.d uf = some false := fun c => (cmp_uf (n := 0) (c.sh_d 57) rfl).1
  have s2 : ∀ j : Int, cmpD .Eq (.int j) uf = some false := fun j => (cmp_uf (n := 0) rfl rfl).1
  by_cases h0 : i = 0
  · simp -implicitDefEqProofs only [evO_some, bnd_ok, bnd_ex, lift_some, liftC_dat, liftC_own, fl_ok, fl_ex, then_nx, then_rt, then_ex, data_dat, data_own, data_ex, truth_ok, truth_ex, readC_dat, readC_own, peekC_dat, peekC_own, ev_var, ev_lit, ev_gc, ev_fnm, ev_bin, ev_not, ev_and, ev_or, ev_cmp, ev_chn, ev_ite, ev_tup, ev_lst, ev_idx, ev_vix, ev_vln, ev_vcl, ev_vcr, ev_slc, ev_rev, ev_app, ev_appP, ev_bi, ev_mn, ev_rgl, ev_rgt, ev_isi, ev_mth, ev_neg, evs_nil, evs_cons, evo_non, evo_som, evc_non, evc_som, evi_seq, evi_rng, callR_dat, callR_own, callR_ex, callA_eq, callP_own, callRp_ok, callRp_ex, putP_own, xss_nil, xss_cons, xs_set, stC_ok, bindS_some, xs_asg, xs_tpar, bind_nm, bind_tp, binds_nil, binds_cons, ownC_some, ownQ_own, ownAt_eq, xs_sti, xs_aug, xs_apd, xs_xtd, xs_exp, xs_iff, xs_for, xs_whl, xs_ret, xs_rse, xs_pas, xs_try, tryE_rt, tryE_nx, tryE_ex, fin_rt, fin_nx, fin_ex, finP_rt, finP_nx, op_addI, op_subI, cmp_lt, cmp_le, cmp_gt, cmp_ge, cmp_eqI, cmp_neI, cmp_eqB, cmp_neB, aug_add, ix_of, cmp_isN, cmp_isNotN, bi_lenL, bi_lenT, bi_listL, bi_listT, bi_tupL, bi_tupT, bi_sum, bi_int, bi_all, bi_any, items_L, items_T, dat_d, own_d, at0, at1, at2, al0, al1,  List.getD_cons_zero, List.getD_cons_succ, List.set_cons_zero, List.set_cons_succ, List.length_cons, List.length_nil, Option.map_some, Option.bind_some, Option.map_none, reduceIte, Nat.reduceLT, Nat.reduceAdd, wipeE, List.length_map, List.getElem?_cons_zero, List.getElem?_cons_succ, bind_dP, at0d, at1d, at2d, cut2d, ite_and, ite_or, ite_int, ownC_own, ownD_some, set5_1, set5_2, set5_3, at5_0, at5_1, at5_2, at5_3, at5_4, Int.reduceLT, Int.reduceLE, Int.reduceNeg, and_self, true_and, op_mulI, op_mod, op_div, decide_true, decide_false, Bool.false_eq_true, if_false, if_true, h0, sp_then ha hb hk]
    exact ⟨_, rfl, s1 _⟩
  by_cases h1 : i = 1
  · simp -implicitDefEqProofs only [evO_some, bnd_ok, bnd_ex, lift_some, liftC_dat, liftC_own, fl_ok, fl_ex, then_nx, then_rt, then_ex, data_dat, data_own, data_ex, truth_ok, truth_ex, readC_dat, readC_own, peekC_dat, peekC_own, ev_var, ev_lit, ev_gc, ev_fnm, ev_bin, ev_not, ev_and, ev_or, ev_cmp, ev_chn, ev_ite, ev_tup, ev_lst, ev_idx, ev_vix, ev_vln, ev_vcl, ev_vcr, ev_slc, ev_rev, ev_app, ev_appP, ev_bi, ev_mn, ev_rgl, ev_rgt, ev_isi, ev_mth, ev_neg, evs_nil, evs_cons, evo_non, evo_som, evc_non, evc_som, evi_seq, evi_rng, callR_dat, callR_own, callR_ex, callA_eq, callP_own, callRp_ok, callRp_ex, putP_own, xss_nil, xss_cons, xs_set, stC_ok, bindS_some, xs_asg, xs_tpar, bind_nm, bind_tp, binds_nil, binds_cons, ownC_some, ownQ_own, ownAt_eq, xs_sti, xs_aug, xs_apd, xs_xtd, xs_exp, xs_iff, xs_for, xs_whl, xs_ret, xs_rse, xs_pas, xs_try, tryE_rt, tryE_nx, tryE_ex, fin_rt, fin_nx, fin_ex, finP_rt, finP_nx, op_addI, op_subI, cmp_lt, cmp_le, cmp_gt, cmp_ge, cmp_eqI, cmp_neI, cmp_eqB, cmp_neB, aug_add, ix_of, cmp_isN, cmp_isNotN, bi_lenL, bi_lenT, bi_listL, bi_listT, bi_tupL, bi_tupT, bi_sum, bi_int, bi_all, bi_any, items_L, items_T, dat_d, own_d, at0, at1, at2, al0, al1,  List.getD_cons_zero, List.getD_cons_succ, List.set_cons_zero, List.set_cons_succ, List.length_cons, List.length_nil, Option.map_some, Option.bind_some, Option.map_none, reduceIte, Nat.reduceLT, Nat.reduceAdd, wipeE, List.length_map, List.getElem?_cons_zero, List.getElem?_cons_succ, bind_dP, at0d, at1d, at2d, cut2d, ite_and, ite_or, ite_int, ownC_own, ownD_some, set5_1, set5_2, set5_3, at5_0, at5_1, at5_2, at5_3, at5_4, Int.reduceLT, Int.reduceLE, Int.reduceNeg, and_self, true_and, op_mulI, op_mod, op_div, decide_true, decide_false, Bool.false_eq_true, if_false, if_true, h0, h1, sp_lost ha hb hk]
    exact ⟨_, rfl, s2 _⟩
  by_cases h2 : i = 2
  · simp -implicitDefEqProofs only [evO_some, bnd_ok, bnd_ex, lift_some, liftC_dat, liftC_own, fl_ok, fl_ex, then_nx, then_rt, then_ex, data_dat, data_own, data_ex, truth_ok, truth_ex, readC_dat, readC_own, peekC_dat, peekC_own, ev_var, ev_lit, ev_gc, ev_fnm, ev_bin, ev_not, ev_and, ev_or, ev_cmp, ev_chn, ev_ite, ev_tup, ev_lst, ev_idx, ev_vix, ev_vln, ev_vcl, ev_vcr, ev_slc, ev_rev, ev_app, ev_appP, ev_bi, ev_mn, ev_rgl, ev_rgt, ev_isi, ev_mth, ev_neg, evs_nil, evs_cons, evo_non, evo_som, evc_non, evc_som, evi_seq, evi_rng, callR_dat, callR_own, callR_ex, callA_eq, callP_own, callRp_ok, callRp_ex, putP_own, xss_nil, xss_cons, xs_set, stC_ok, bindS_some, xs_asg, xs_tpar, bind_nm, bind_tp, binds_nil, binds_cons, ownC_some, ownQ_own, ownAt_eq, xs_sti, xs_aug, xs_apd, xs_xtd, xs_exp, xs_iff, xs_for, xs_whl, xs_ret, xs_rse, xs_pas, xs_try, tryE_rt, tryE_nx, tryE_ex, fin_rt, fin_nx, fin_ex, finP_rt, finP_nx, op_addI, op_subI, cmp_lt, cmp_le, cmp_gt, cmp_ge, cmp_eqI, cmp_neI, cmp_eqB, cmp_neB, aug_add, ix_of, cmp_isN, cmp_isNotN, bi_lenL, bi_lenT, bi_listL, bi_listT, bi_tupL, bi_tupT, bi_sum, bi_int, bi_all, bi_any, items_L, items_T, dat_d, own_d, at0, at1, at2, al0, al1,  List.getD_cons_zero, List.getD_cons_succ, List.set_cons_zero, List.set_cons_succ, List.length_cons, List.length_nil, Option.map_some, Option.bind_some, Option.map_none, reduceIte, Nat.reduceLT, Nat.reduceAdd, wipeE, List.length_map, List.getElem?_cons_zero, List.getElem?_cons_succ, bind_dP, at0d, at1d, at2d, cut2d, ite_and, ite_or, ite_int, ownC_own, ownD_some, set5_1, set5_2, set5_3, at5_0, at5_1, at5_2, at5_3, at5_4, Int.reduceLT, Int.reduceLE, Int.reduceNeg, and_self, true_and, op_mulI, op_mod, op_div, decide_true, decide_false, Bool.false_eq_true, if_false, if_true, h0, h1, h2, hc]
    exact ⟨_, rfl, s1 _⟩
  · simp -implicitDefEqProofs only [evO_some, bnd_ok, bnd_ex, lift_some, liftC_dat, liftC_own, fl_ok, fl_ex, then_nx, then_rt, then_ex, data_dat, data_own, data_ex, truth_ok, truth_ex, readC_dat, readC_own, peekC_dat, peekC_own, ev_var, ev_lit, ev_gc, ev_fnm, ev_bin, ev_not, ev_and, ev_or, ev_cmp, ev_chn, ev_ite, ev_tup, ev_lst, ev_idx, ev_vix, ev_vln, ev_vcl, ev_vcr, ev_slc, ev_rev, ev_app, ev_appP, ev_bi, ev_mn, ev_rgl, ev_rgt, ev_isi, ev_mth, ev_neg, evs_nil, evs_cons, evo_non, evo_som, evc_non, evc_som, evi_seq, evi_rng, callR_dat, callR_own, callR_ex, callA_eq, callP_own, callRp_ok, callRp_ex, putP_own, xss_nil, xss_cons, xs_set, stC_ok, bindS_some, xs_asg, xs_tpar, bind_nm, bind_tp, binds_nil, binds_cons, ownC_some, ownQ_own, ownAt_eq, xs_sti, xs_aug, xs_apd, xs_xtd, xs_exp, xs_iff, xs_for, xs_whl, xs_ret, xs_rse, xs_pas, xs_try, tryE_rt, tryE_nx, tryE_ex, fin_rt, fin_nx, fin_ex, finP_rt, finP_nx, op_addI, op_subI, cmp_lt, cmp_le, cmp_gt, cmp_ge, cmp_eqI, cmp_neI, cmp_eqB, cmp_neB, aug_add, ix_of, cmp_isN, cmp_isNotN, bi_lenL, bi_lenT, bi_listL, bi_listT, bi_tupL, bi_tupT, bi_sum, bi_int, bi_all, bi_any, items_L, items_T, dat_d, own_d, at0, at1, at2, al0, al1,  List.getD_cons_zero, List.getD_cons_succ, List.set_cons_zero, List.set_cons_succ, List.length_cons, List.length_nil, Option.map_some, Option.bind_some, Option.map_none, reduceIte, Nat.reduceLT, Nat.reduceAdd, wipeE, List.length_map, List.getElem?_cons_zero, List.getElem?_cons_succ, bind_dP, at0d, at1d, at2d, cut2d, ite_and, ite_or, ite_int, ownC_own, ownD_some, set5_1, set5_2, set5_3, at5_0, at5_1, at5_2, at5_3, at5_4, Int.reduceLT, Int.reduceLE, Int.reduceNeg, and_self, true_and, op_mulI, op_mod, op_div, decide_true, decide_false, Bool.false_eq_true, if_false, if_true, h0, h1, h2, hd]
    exact ⟨_, rfl, s2 _⟩
theorem ux__law_try {k : Nat} {i : Int} {a b : Dg} (ha : a.Ok) (hk : a.k ≠ b.m) : rn (k + 6) i__law_try none [.int i, a.d, b.d] = .ok (.dat uf) [] := by
  rw [st__law_try, b__law_try]
  have hc := ux_chain (k := k + 1) (X := .lst [a.d, b.d]) ha.m0 ha.m1 (l := [a]) (b := b) (l' := []) (q := a.k) ⟨ha, rfl, rfl⟩ hk rfl
  have hd := ux_chain_lost (k := k + 1) (X := .tup [a.d, b.d]) ha.m0 ha.m1 (l := [a]) (b := b) (l' := []) (q := a.k) ⟨ha, rfl, rfl⟩ hk rfl
  by_cases h0 : i = 0
  · simp -implicitDefEqProofs only [evO_some, bnd_ok, bnd_ex, lift_some, liftC_dat, liftC_own, fl_ok, fl_ex, then_nx, then_rt, then_ex, data_dat, data_own, data_ex, truth_ok, truth_ex, readC_dat, readC_own, peekC_dat, peekC_own, ev_var, ev_lit, ev_gc, ev_fnm, ev_bin, ev_not, ev_and, ev_or, ev_cmp, ev_chn, ev_ite, ev_tup, ev_lst, ev_idx, ev_vix, ev_vln, ev_vcl, ev_vcr, ev_slc, ev_rev, ev_app, ev_appP, ev_bi, ev_mn, ev_rgl, ev_rgt, ev_isi, ev_mth, ev_neg, evs_nil, evs_cons, evo_non, evo_som, evc_non, evc_som, evi_seq, evi_rng, callR_dat, callR_own, callR_ex, callA_eq, callP_own, callRp_ok, callRp_ex, putP_own, xss_nil, xss_cons, xs_set, stC_ok, bindS_some, xs_asg, xs_tpar, bind_nm, bind_tp, binds_nil, binds_cons, ownC_some, ownQ_own, ownAt_eq, xs_sti, xs_aug, xs_apd, xs_xtd, xs_exp, xs_iff, xs_for, xs_whl, xs_ret, xs_rse, xs_pas, xs_try, tryE_rt, tryE_nx, tryE_ex, fin_rt, fin_nx, fin_ex, finP_rt, finP_nx, op_addI, op_subI, cmp_lt, cmp_le, cmp_gt, cmp_ge, cmp_eqI, cmp_neI, cmp_eqB, cmp_neB, aug_add, ix_of, cmp_isN, cmp_isNotN, bi_lenL, bi_lenT, bi_listL, bi_listT, bi_tupL, bi_tupT, bi_sum, bi_int, bi_all, bi_any, items_L, items_T, dat_d, own_d, at0, at1, at2, al0, al1,  List.getD_cons_zero, List.getD_cons_succ, List.set_cons_zero, List.set_cons_succ, List.length_cons, List.length_nil, Option.map_some, Option.bind_some, Option.map_none, reduceIte, Nat.reduceLT, Nat.reduceAdd, wipeE, List.length_map, List.getElem?_cons_zero, List.getElem?_cons_succ, bind_dP, at0d, at1d, at2d, cut2d, ite_and, ite_or, ite_int, ownC_own, ownD_some, set5_1, set5_2, set5_3, at5_0, at5_1, at5_2, at5_3, at5_4, Int.reduceLT, Int.reduceLE, Int.reduceNeg, and_self, true_and, op_mulI, op_mod, op_div, decide_true, decide_false, Bool.false_eq_true, if_false, if_true, h0, ux_then hk]; rfl
  by_cases h1 : i = 1
  · simp -implicitDefEqProofs only [evO_some, bnd_ok, bnd_ex, lift_some, liftC_dat, liftC_own, fl_ok, fl_ex, then_nx, then_rt, then_ex, data_dat, data_own, data_ex, truth_ok, truth_ex, readC_dat, readC_own, peekC_dat, peekC_own, ev_var, ev_lit, ev_gc, ev_fnm, ev_bin, ev_not, ev_and, ev_or, ev_cmp, ev_chn, ev_ite, ev_tup, ev_lst, ev_idx, ev_vix, ev_vln, ev_vcl, ev_vcr, ev_slc, ev_rev, ev_app, ev_appP, ev_bi, ev_mn, ev_rgl, ev_rgt, ev_isi, ev_mth, ev_neg, evs_nil, evs_cons, evo_non, evo_som, evc_non, evc_som, evi_seq, evi_rng, callR_dat, callR_own, callR_ex, callA_eq, callP_own, callRp_ok, callRp_ex, putP_own, xss_nil, xss_cons, xs_set, stC_ok, bindS_some, xs_asg, xs_tpar, bind_nm, bind_tp, binds_nil, binds_cons, ownC_some, ownQ_own, ownAt_eq, xs_sti, xs_aug, xs_apd, xs_xtd, xs_exp, xs_iff, xs_for, xs_whl, xs_ret, xs_rse, xs_pas, xs_try, tryE_rt, tryE_nx, tryE_ex, fin_rt, fin_nx, fin_ex, finP_rt, finP_nx, op_addI, op_subI, cmp_lt, cmp_le, cmp_gt, cmp_ge, cmp_eqI, cmp_neI, cmp_eqB, cmp_neB, aug_add, ix_of, cmp_isN, cmp_isNotN, bi_lenL, bi_lenT, bi_listL, bi_listT, bi_tupL, bi_tupT, bi_sum, bi_int, bi_all, bi_any, items_L, items_T, dat_d, own_d, at0, at1, at2, al0, al1,  List.getD_cons_zero, List.getD_cons_succ, List.set_cons_zero, List.set_cons_succ, List.length_cons, List.length_nil, Option.map_some, Option.bind_some, Option.map_none, reduceIte, Nat.reduceLT, Nat.reduceAdd, wipeE, List.length_map, List.getElem?_cons_zero, List.getElem?_cons_succ, bind_dP, at0d, at1d, at2d, cut2d, ite_and, ite_or, ite_int, ownC_own, ownD_some, set5_1, set5_2, set5_3, at5_0, at5_1, at5_2, at5_3, at5_4, Int.reduceLT, Int.reduceLE, Int.reduceNeg, and_self, true_and, op_mulI, op_mod, op_div, decide_true, decide_false, Bool.false_eq_true, if_false, if_true, h0, h1, ux_lost hk]; rfl
  by_cases h2 : i = 2
  · simp -implicitDefEqProofs only [evO_some, bnd_ok, bnd_ex, lift_some, liftC_dat, liftC_own, fl_ok, fl_ex, then_nx, then_rt, then_ex, data_dat, data_own, data_ex, truth_ok, truth_ex, readC_dat, readC_own, peekC_dat, peekC_own, ev_var, ev_lit, ev_gc, ev_fnm, ev_bin, ev_not, ev_and, ev_or, ev_cmp, ev_chn, ev_ite, ev_tup, ev_lst, ev_idx, ev_vix, ev_vln, ev_vcl, ev_vcr, ev_slc, ev_rev, ev_app, ev_appP, ev_bi, ev_mn, ev_rgl, ev_rgt, ev_isi, ev_mth, ev_neg, evs_nil, evs_cons, evo_non, evo_som, evc_non, evc_som, evi_seq, evi_rng, callR_dat, callR_own, callR_ex, callA_eq, callP_own, callRp_ok, callRp_ex, putP_own, xss_nil, xss_cons, xs_set, stC_ok, bindS_some, xs_asg, xs_tpar, bind_nm, bind_tp, binds_nil, binds_cons, ownC_some, ownQ_own, ownAt_eq, xs_sti, xs_aug, xs_apd, xs_xtd, xs_exp, xs_iff, xs_for, xs_whl, xs_ret, xs_rse, xs_pas, xs_try, tryE_rt, tryE_nx, tryE_ex, fin_rt, fin_nx, fin_ex, finP_rt, finP_nx, op_addI, op_subI, cmp_lt, cmp_le, cmp_gt, cmp_ge, cmp_eqI, cmp_neI, cmp_eqB, cmp_neB, aug_add, ix_of, cmp_isN, cmp_isNotN, bi_lenL, bi_lenT, bi_listL, bi_listT, bi_tupL, bi_tupT, bi_sum, bi_int, bi_all, bi_any, items_L, items_T, dat_d, own_d, at0, at1, at2, al0, al1,  List.getD_cons_zero, List.getD_cons_succ, List.set_cons_zero, List.set_cons_succ, List.length_cons, List.length_nil, Option.map_some, Option.bind_some, Option.map_none, reduceIte, Nat.reduceLT, Nat.reduceAdd, wipeE, List.length_map, List.getElem?_cons_zero, List.getElem?_cons_succ, bind_dP, at0d, at1d, at2d, cut2d, ite_and, ite_or, ite_int, ownC_own, ownD_some, set5_1, set5_2, set5_3, at5_0, at5_1, at5_2, at5_3, at5_4, Int.reduceLT, Int.reduceLE, Int.reduceNeg, and_self, true_and, op_mulI, op_mod, op_div, decide_true, decide_false, Bool.false_eq_true, if_false, if_true, h0, h1, h2, hc]; rfl
  · simp -implicitDefEqProofs only [evO_some, bnd_ok, bnd_ex, lift_some, liftC_dat, liftC_own, fl_ok, fl_ex, then_nx, then_rt, then_ex, data_dat, data_own, data_ex, truth_ok, truth_ex, readC_dat, readC_own, peekC_dat, peekC_own, ev_var, ev_lit, ev_gc, ev_fnm, ev_bin, ev_not, ev_and, ev_or, ev_cmp, ev_chn, ev_ite, ev_tup, ev_lst, ev_idx, ev_vix, ev_vln, ev_vcl, ev_vcr, ev_slc, ev_rev, ev_app, ev_appP, ev_bi, ev_mn, ev_rgl, ev_rgt, ev_isi, ev_mth, ev_neg, evs_nil, evs_cons, evo_non, evo_som, evc_non, evc_som, evi_seq, evi_rng, callR_dat, callR_own, callR_ex, callA_eq, callP_own, callRp_ok, callRp_ex, putP_own, xss_nil, xss_cons, xs_set, stC_ok, bindS_some, xs_asg, xs_tpar, bind_nm, bind_tp, binds_nil, binds_cons, ownC_some, ownQ_own, ownAt_eq, xs_sti, xs_aug, xs_apd, xs_xtd, xs_exp, xs_iff, xs_for, xs_whl, xs_ret, xs_rse, xs_pas, xs_try, tryE_rt, tryE_nx, tryE_ex, fin_rt, fin_nx, fin_ex, finP_rt, finP_nx, op_addI, op_subI, cmp_lt, cmp_le, cmp_gt, cmp_ge, cmp_eqI, cmp_neI, cmp_eqB, cmp_neB, aug_add, ix_of, cmp_isN, cmp_isNotN, bi_lenL, bi_lenT, bi_listL, bi_listT, bi_tupL, bi_tupT, bi_sum, bi_int, bi_all, bi_any, items_L, items_T, dat_d, own_d, at0, at1, at2, al0, al1,  List.getD_cons_zero, List.getD_cons_succ, List.set_cons_zero, List.set_cons_succ, List.length_cons, List.length_nil, Option.map_some, Option.bind_some, Option.map_none, reduceIte, Nat.reduceLT, Nat.reduceAdd, wipeE, List.length_map, List.getElem?_cons_zero, List.getElem?_cons_succ, bind_dP, at0d, at1d, at2d, cut2d, ite_and, ite_or, ite_int, ownC_own, ownD_some, set5_1, set5_2, set5_3, at5_0, at5_1, at5_2, at5_3, at5_4, Int.reduceLT, Int.reduceLE, Int.reduceNeg, and_self, true_and, op_mulI, op_mod, op_div, decide_true, decide_false, Bool.false_eq_true, if_false, if_true, h0, h1, h2, hd]; rfl

end GC
namespace GC
open Classical Z G M
theorem chain3 {a b c : Dg} (ha : a.Ok) : chain a.m [a, b, c] = (a.then b).then c := by
  show (((still a.m).then a).then b).then c = _
  rw [still_then ha]
theorem chain1 {a : Dg} (ha : a.Ok) : chain a.m [a] = a := still_then ha
theorem chainLost3 {a b c : Dg} (ha : a.Ok) : chainLost a.m [a, b, c] = a.lost b + (a.then b).lost c := by
  show 0 + (still a.m).lost a + ((still a.m).then a).lost b + (((still a.m).then a).then b).lost c = _
  rw [still_then ha, still_lost ha]
  omega
theorem chainLost1 {a : Dg} (ha : a.Ok) : chainLost a.m [a] = 0 := by
  show 0 + (still a.m).lost a = _
  rw [still_lost ha]; rfl
theorem law_run (k : Nat) (ns : List Int) : Rets (rn (k + 21) i_law none [.lst (ns.map .int)]) fun c _ => c = .dat (.bl true) := by
  obtain ⟨q0, hp, p0⟩ := sp__law_pool (k := k + 19) (ns := ns)
  obtain ⟨m, q1, d1, m0, m1, p1⟩ := sp__law_draw (k := k + 18) (many := 5) p0 (by omega) (by omega)
  obtain ⟨h, q2, d2, h0, h1, p2⟩ := sp__law_draw (k := k + 18) (many := 5) p1 (by omega) (by omega)
  obtain ⟨n, q3, d3, n0, n1, p3⟩ := sp__law_draw (k := k + 18) (many := 5) p2 (by omega) (by omega)
  obtain ⟨r, q4, d4, r0, r1, p4⟩ := sp__law_draw (k := k + 18) (many := 4) p3 (by omega) (by omega)
  obtain ⟨_, q5, e1, a, rfl, ha, am, ak, p5⟩ := sp__law_diagram (j := k + 16) (m := m) (k := h) p4 m0 (by omega) h0 (by omega)
  obtain ⟨_, q6, e2, b, rfl, hb, bm, bk, p6⟩ := sp__law_diagram (j := k + 16) (m := h) (k := n) p5 h0 (by omega) n0 (by omega)
  obtain ⟨_, q7, e3, c, rfl, hc, cm, ck, p7⟩ := sp__law_diagram (j := k + 16) (m := n) (k := r) p6 n0 (by omega) r0 (by omega)
  subst am ak bk ck
  have hab : a.k = b.m := bm.symm
  have hbc : b.k = c.m := cm.symm
  have oab := then_ok ha hb
  have hs : ∀ x, okD 4 x = true → rn (k + 20) i__law_same none [x, x] = .ok (.dat (.bl true)) [] := fun x hx => by
    have := sp__law_same 4 (k := k + 15) x x hx hx
    rw [decide_eq_true rfl] at this
    exact this
  rw [st_law, b_law]
  have hw : (if a.k < 5 then a.k + 1 else 0) ≠ a.k ∧ 0 ≤ (if a.k < 5 then a.k + 1 else 0) ∧ (if a.k < 5 then a.k + 1 else 0) ≤ 100 := by split <;> omega
  obtain ⟨_, q8, e4, w, rfl, hwo, wm, wk, p8⟩ := sp__law_diagram (j := k + 16) (m := if a.k < 5 then a.k + 1 else 0) (k := b.k) p7 hw.2.1 hw.2.2 n0 (by omega)
  obtain ⟨_, q9, e5, s, rfl, hso, sm, sk, p9⟩ := sp__law_diagram (j := k + 16) (m := a.m) (k := a.m) p8 m0 (by omega) m0 (by omega)
  have b1 := sp__law_behind (k := k + 18) ha hb hab
  have b2 := sp__law_behind (k := k + 18) oab hc hbc
  have t1 := sp_then (k := k + 17) ha hb hab
  have l1 := sp_lost (k := k + 17) ha hb hab
  have c1 := sp_chain (k := k + 16) (X := .lst [a.d, b.d, c.d]) ha.m0 ha.m1 (l := [a, b, c]) (q := c.k) ⟨ha, rfl, hb, hab.symm, hc, hbc.symm, rfl⟩ rfl
  have c2 := sp_chain_lost (k := k + 16) (X := .tup [a.d, b.d, c.d]) ha.m0 ha.m1 (l := [a, b, c]) (q := c.k) ⟨ha, rfl, hb, hab.symm, hc, hbc.symm, rfl⟩ rfl
  have c3 := sp_chain (k := k + 16) (X := .tup []) ha.m0 ha.m1 (l := []) (q := a.m) rfl rfl
  have c4 := sp_chain_lost (k := k + 16) (X := .lst []) ha.m0 ha.m1 (l := []) (q := a.m) rfl rfl
  have c5 := sp_chain (k := k + 16) (X := .tup [a.d]) ha.m0 ha.m1 (l := [a]) (q := a.k) ⟨ha, rfl, rfl⟩ rfl
  have c6 := sp_chain_lost (k := k + 16) (X := .lst [a.d]) ha.m0 ha.m1 (l := [a]) (q := a.k) ⟨ha, rfl, rfl⟩ rfl
  rw [chain3 ha] at c1
  rw [chainLost3 ha] at c2
  rw [chain1 ha] at c5
  rw [chainLost1 ha] at c6
  have st := sp__law_still (k := k + 19) ha.m0 ha.m1
  have st2 := sp_still (k := k + 19) ha.m0 ha.m1
  have st3 := sp_still (k := k + 19) ha.k0 ha.k1
  have os := still_ok ha.m0 ha.m1
  have ok1 : okD 4 (.lst [(a.then b).d, .int (a.lost b)]) = true := okD_lst (by simp) (by simp [okD_d oab, okD_int])
  have ok2 : okD 4 (.lst [((a.then b).then c).d, .int (a.lost b + (a.then b).lost c)]) = true := okD_lst (by simp) (by simp [okD_d (then_ok oab hc), okD_int])
  have ok3 : okD 4 (.lst [(still a.m).d, .int 0, a.d, .int 0]) = true := okD_lst (by simp) (by simp [okD_d os, okD_d ha, okD_int])
  have ok4 : okD 4 (.lst [a.d, a.d, .int 0]) = true := okD_lst (by simp) (by simp [okD_d ha, okD_int])
  have u1 := sp_then (k := k + 17) os ha rfl
  have u2 := sp_then (k := k + 17) ha (still_ok ha.k0 ha.k1) rfl
  have u3 := sp_lost (k := k + 17) ha (still_ok ha.k0 ha.k1) rfl
  rw [still_then ha] at u1
  rw [then_still ha] at u2
  rw [lost_still ha] at u3
  simp -implicitDefEqProofs only [evO_some, bnd_ok, bnd_ex, lift_some, liftC_dat, liftC_own, fl_ok, fl_ex, then_nx, then_rt, then_ex, data_dat, data_own, data_ex, truth_ok, truth_ex, readC_dat, readC_own, peekC_dat, peekC_own, ev_var, ev_lit, ev_gc, ev_fnm, ev_bin, ev_not, ev_and, ev_or, ev_cmp, ev_chn, ev_ite, ev_tup, ev_lst, ev_idx, ev_vix, ev_vln, ev_vcl, ev_vcr, ev_slc, ev_rev, ev_app, ev_appP, ev_bi, ev_mn, ev_rgl, ev_rgt, ev_isi, ev_mth, ev_neg, evs_nil, evs_cons, evo_non, evo_som, evc_non, evc_som, evi_seq, evi_rng, callR_dat, callR_own, callR_ex, callA_eq, callP_own, callRp_ok, callRp_ex, putP_own, xss_nil, xss_cons, xs_set, stC_ok, bindS_some, xs_asg, xs_tpar, bind_nm, bind_tp, binds_nil, binds_cons, ownC_some, ownQ_own, ownAt_eq, xs_sti, xs_aug, xs_apd, xs_xtd, xs_exp, xs_iff, xs_for, xs_whl, xs_ret, xs_rse, xs_pas, xs_try, tryE_rt, tryE_nx, tryE_ex, fin_rt, fin_nx, fin_ex, finP_rt, finP_nx, op_addI, op_subI, cmp_lt, cmp_le, cmp_gt, cmp_ge, cmp_eqI, cmp_neI, cmp_eqB, cmp_neB, aug_add, ix_of, cmp_isN, cmp_isNotN, bi_lenL, bi_lenT, bi_listL, bi_listT, bi_tupL, bi_tupT, bi_sum, bi_int, bi_all, bi_any, items_L, items_T, dat_d, own_d, at0, at1, at2, al0, al1,  List.getD_cons_zero, List.getD_cons_succ, List.set_cons_zero, List.set_cons_succ, List.length_cons, List.length_nil, Option.map_some, Option.bind_some, Option.map_none, reduceIte, Nat.reduceLT, Nat.reduceAdd, wipeE, List.length_map, List.getElem?_cons_zero, List.getElem?_cons_succ, bind_dP, at0d, at1d, at2d, cut2d, ite_and, ite_or, ite_int, ownC_own, ownD_some, set5_1, set5_2, set5_3, at5_0, at5_1, at5_2, at5_3, at5_4, Int.reduceLT, Int.reduceLE, Int.reduceNeg, and_self, true_and, op_mulI, op_mod, op_div, decide_true, decide_false, Bool.false_eq_true, if_false, if_true, hp, d1, d2, d3, d4, e1, e2, e3, b1, b2, t1, l1, hs _ ok1, hs _ ok2, hs _ ok3, c1, c2, c3, c4, c5, c6, st, chain, List.foldl_nil, chainLost, Bool.not_true]
  have tb : ∀ i : Int, rn (k + 20) i__law_try none [.int i, a.d, w.d] = .ok (.dat uf) [] := fun i => ux__law_try (k := k + 14) ha (by rw [wm]; exact fun q => hw.1 q.symm)
  have e4' := e4
  simp -implicitDefEqProofs only [evO_some, bnd_ok, bnd_ex, lift_some, liftC_dat, liftC_own, fl_ok, fl_ex, then_nx, then_rt, then_ex, data_dat, data_own, data_ex, truth_ok, truth_ex, readC_dat, readC_own, peekC_dat, peekC_own, ev_var, ev_lit, ev_gc, ev_fnm, ev_bin, ev_not, ev_and, ev_or, ev_cmp, ev_chn, ev_ite, ev_tup, ev_lst, ev_idx, ev_vix, ev_vln, ev_vcl, ev_vcr, ev_slc, ev_rev, ev_app, ev_appP, ev_bi, ev_mn, ev_rgl, ev_rgt, ev_isi, ev_mth, ev_neg, evs_nil, evs_cons, evo_non, evo_som, evc_non, evc_som, evi_seq, evi_rng, callR_dat, callR_own, callR_ex, callA_eq, callP_own, callRp_ok, callRp_ex, putP_own, xss_nil, xss_cons, xs_set, stC_ok, bindS_some, xs_asg, xs_tpar, bind_nm, bind_tp, binds_nil, binds_cons, ownC_some, ownQ_own, ownAt_eq, xs_sti, xs_aug, xs_apd, xs_xtd, xs_exp, xs_iff, xs_for, xs_whl, xs_ret, xs_rse, xs_pas, xs_try, tryE_rt, tryE_nx, tryE_ex, fin_rt, fin_nx, fin_ex, finP_rt, finP_nx, op_addI, op_subI, cmp_lt, cmp_le, cmp_gt, cmp_ge, cmp_eqI, cmp_neI, cmp_eqB, cmp_neB, aug_add, ix_of, cmp_isN, cmp_isNotN, bi_lenL, bi_lenT, bi_listL, bi_listT, bi_tupL, bi_tupT, bi_sum, bi_int, bi_all, bi_any, items_L, items_T, dat_d, own_d, at0, at1, at2, al0, al1,  List.getD_cons_zero, List.getD_cons_succ, List.set_cons_zero, List.set_cons_succ, List.length_cons, List.length_nil, Option.map_some, Option.bind_some, Option.map_none, reduceIte, Nat.reduceLT, Nat.reduceAdd, wipeE, List.length_map, List.getElem?_cons_zero, List.getElem?_cons_succ, bind_dP, at0d, at1d, at2d, cut2d, ite_and, ite_or, ite_int, ownC_own, ownD_some, set5_1, set5_2, set5_3, at5_0, at5_1, at5_2, at5_3, at5_4, Int.reduceLT, Int.reduceLE, Int.reduceNeg, and_self, true_and, op_mulI, op_mod, op_div, decide_true, decide_false, Bool.false_eq_true, if_false, if_true, e4]
  rw [rngD_one (by decide) (by decide)]
  simp -implicitDefEqProofs only [evO_some, bnd_ok, bnd_ex, lift_some, liftC_dat, liftC_own, fl_ok, fl_ex, then_nx, then_rt, then_ex, data_dat, data_own, data_ex, truth_ok, truth_ex, readC_dat, readC_own, peekC_dat, peekC_own, ev_var, ev_lit, ev_gc, ev_fnm, ev_bin, ev_not, ev_and, ev_or, ev_cmp, ev_chn, ev_ite, ev_tup, ev_lst, ev_idx, ev_vix, ev_vln, ev_vcl, ev_vcr, ev_slc, ev_rev, ev_app, ev_appP, ev_bi, ev_mn, ev_rgl, ev_rgt, ev_isi, ev_mth, ev_neg, evs_nil, evs_cons, evo_non, evo_som, evc_non, evc_som, evi_seq, evi_rng, callR_dat, callR_own, callR_ex, callA_eq, callP_own, callRp_ok, callRp_ex, putP_own, xss_nil, xss_cons, xs_set, stC_ok, bindS_some, xs_asg, xs_tpar, bind_nm, bind_tp, binds_nil, binds_cons, ownC_some, ownQ_own, ownAt_eq, xs_sti, xs_aug, xs_apd, xs_xtd, xs_exp, xs_iff, xs_for, xs_whl, xs_ret, xs_rse, xs_pas, xs_try, tryE_rt, tryE_nx, tryE_ex, fin_rt, fin_nx, fin_ex, finP_rt, finP_nx, op_addI, op_subI, cmp_lt, cmp_le, cmp_gt, cmp_ge, cmp_eqI, cmp_neI, cmp_eqB, cmp_neB, aug_add, ix_of, cmp_isN, cmp_isNotN, bi_lenL, bi_lenT, bi_listL, bi_listT, bi_tupL, bi_tupT, bi_sum, bi_int, bi_all, bi_any, items_L, items_T, dat_d, own_d, at0, at1, at2, al0, al1,  List.getD_cons_zero, List.getD_cons_succ, List.set_cons_zero, List.set_cons_succ, List.length_cons, List.length_nil, Option.map_some, Option.bind_some, Option.map_none, reduceIte, Nat.reduceLT, Nat.reduceAdd, wipeE, List.length_map, List.getElem?_cons_zero, List.getElem?_cons_succ, bind_dP, at0d, at1d, at2d, cut2d, ite_and, ite_or, ite_int, ownC_own, ownD_some, set5_1, set5_2, set5_3, at5_0, at5_1, at5_2, at5_3, at5_4, Int.reduceLT, Int.reduceLE, Int.reduceNeg, and_self, true_and, op_mulI, op_mod, op_div, decide_true, decide_false, Bool.false_eq_true, if_false, if_true]
  refine for_rets (enc := Z.D.int) (xs := rng 4) (fun pre e => ∃ c14, e = [.dat (.lst (ns.map .int)), .own false q8, .dat (.int a.m), .dat (.int a.k), .dat (.int b.k), .dat (.int c.k), .dat a.d, .dat b.d, .dat c.d, .dat (a.then b).d, .dat (.int (a.lost b)), .dat ((a.then b).then c).d, .dat (.int ((a.then b).lost c)), .dat w.d, c14, .no, .no, .no]) ⟨_, rfl⟩ (fun pre i post hx e he => ?_) fun e he => ?_
  · obtain ⟨c14, rfl⟩ := he
    obtain ⟨d, g1, g2⟩ := sp__law_try (k := k + 14) (i := i) ha hb hab
    have g3 : cmpD .NotEq uf (.str "unfit") = some false := ne_uf
    have g4 : cmpD .Eq d (.str "unfit") = some false := g2
    rw [forB_some (bind_nm (by simp))]
    simp -implicitDefEqProofs only [evO_some, bnd_ok, bnd_ex, lift_some, liftC_dat, liftC_own, fl_ok, fl_ex, then_nx, then_rt, then_ex, data_dat, data_own, data_ex, truth_ok, truth_ex, readC_dat, readC_own, peekC_dat, peekC_own, ev_var, ev_lit, ev_gc, ev_fnm, ev_bin, ev_not, ev_and, ev_or, ev_cmp, ev_chn, ev_ite, ev_tup, ev_lst, ev_idx, ev_vix, ev_vln, ev_vcl, ev_vcr, ev_slc, ev_rev, ev_app, ev_appP, ev_bi, ev_mn, ev_rgl, ev_rgt, ev_isi, ev_mth, ev_neg, evs_nil, evs_cons, evo_non, evo_som, evc_non, evc_som, evi_seq, evi_rng, callR_dat, callR_own, callR_ex, callA_eq, callP_own, callRp_ok, callRp_ex, putP_own, xss_nil, xss_cons, xs_set, stC_ok, bindS_some, xs_asg, xs_tpar, bind_nm, bind_tp, binds_nil, binds_cons, ownC_some, ownQ_own, ownAt_eq, xs_sti, xs_aug, xs_apd, xs_xtd, xs_exp, xs_iff, xs_for, xs_whl, xs_ret, xs_rse, xs_pas, xs_try, tryE_rt, tryE_nx, tryE_ex, fin_rt, fin_nx, fin_ex, finP_rt, finP_nx, op_addI, op_subI, cmp_lt, cmp_le, cmp_gt, cmp_ge, cmp_eqI, cmp_neI, cmp_eqB, cmp_neB, aug_add, ix_of, cmp_isN, cmp_isNotN, bi_lenL, bi_lenT, bi_listL, bi_listT, bi_tupL, bi_tupT, bi_sum, bi_int, bi_all, bi_any, items_L, items_T, dat_d, own_d, at0, at1, at2, al0, al1,  List.getD_cons_zero, List.getD_cons_succ, List.set_cons_zero, List.set_cons_succ, List.length_cons, List.length_nil, Option.map_some, Option.bind_some, Option.map_none, reduceIte, Nat.reduceLT, Nat.reduceAdd, wipeE, List.length_map, List.getElem?_cons_zero, List.getElem?_cons_succ, bind_dP, at0d, at1d, at2d, cut2d, ite_and, ite_or, ite_int, ownC_own, ownD_some, set5_1, set5_2, set5_3, at5_0, at5_1, at5_2, at5_3, at5_4, Int.reduceLT, Int.reduceLE, Int.reduceNeg, and_self, true_and, op_mulI, op_mod, op_div, decide_true, decide_false, Bool.false_eq_true, if_false, if_true, tb, g1, g3, g4]
    exact ⟨_, rfl, _, rfl⟩
  obtain ⟨c14, rfl⟩ := he
  simp -implicitDefEqProofs only [evO_some, bnd_ok, bnd_ex, lift_some, liftC_dat, liftC_own, fl_ok, fl_ex, then_nx, then_rt, then_ex, data_dat, data_own, data_ex, truth_ok, truth_ex, readC_dat, readC_own, peekC_dat, peekC_own, ev_var, ev_lit, ev_gc, ev_fnm, ev_bin, ev_not, ev_and, ev_or, ev_cmp, ev_chn, ev_ite, ev_tup, ev_lst, ev_idx, ev_vix, ev_vln, ev_vcl, ev_vcr, ev_slc, ev_rev, ev_app, ev_appP, ev_bi, ev_mn, ev_rgl, ev_rgt, ev_isi, ev_mth, ev_neg, evs_nil, evs_cons, evo_non, evo_som, evc_non, evc_som, evi_seq, evi_rng, callR_dat, callR_own, callR_ex, callA_eq, callP_own, callRp_ok, callRp_ex, putP_own, xss_nil, xss_cons, xs_set, stC_ok, bindS_some, xs_asg, xs_tpar, bind_nm, bind_tp, binds_nil, binds_cons, ownC_some, ownQ_own, ownAt_eq, xs_sti, xs_aug, xs_apd, xs_xtd, xs_exp, xs_iff, xs_for, xs_whl, xs_ret, xs_rse, xs_pas, xs_try, tryE_rt, tryE_nx, tryE_ex, fin_rt, fin_nx, fin_ex, finP_rt, finP_nx, op_addI, op_subI, cmp_lt, cmp_le, cmp_gt, cmp_ge, cmp_eqI, cmp_neI, cmp_eqB, cmp_neB, aug_add, ix_of, cmp_isN, cmp_isNotN, bi_lenL, bi_lenT, bi_listL, bi_listT, bi_tupL, bi_tupT, bi_sum, bi_int, bi_all, bi_any, items_L, items_T, dat_d, own_d, at0, at1, at2, al0, al1,  List.getD_cons_zero, List.getD_cons_succ, List.set_cons_zero, List.set_cons_succ, List.length_cons, List.length_nil, Option.map_some, Option.bind_some, Option.map_none, reduceIte, Nat.reduceLT, Nat.reduceAdd, wipeE, List.length_map, List.getElem?_cons_zero, List.getElem?_cons_succ, bind_dP, at0d, at1d, at2d, cut2d, ite_and, ite_or, ite_int, ownC_own, ownD_some, set5_1, set5_2, set5_3, at5_0, at5_1, at5_2, at5_3, at5_4, Int.reduceLT, Int.reduceLE, Int.reduceNeg, and_self, true_and, op_mulI, op_mod, op_div, decide_true, decide_false, Bool.false_eq_true, if_false, if_true, e5, st]
  refine for_rets (enc := Z.D.int) (xs := rng 4) (fun pre e => ∃ c17, e = [.dat (.lst (ns.map .int)), .own false q9, .dat (.int a.m), .dat (.int a.k), .dat (.int b.k), .dat (.int c.k), .dat a.d, .dat b.d, .dat c.d, .dat (a.then b).d, .dat (.int (a.lost b)), .dat ((a.then b).then c).d, .dat (.int ((a.then b).lost c)), .dat w.d, c14, .dat s.d, .dat (chain a.m (List.replicate pre.length s)).d, c17]) ⟨_, rfl⟩ (fun pre i post hx e he => ?_) fun e he => ?_
  · obtain ⟨c17, rfl⟩ := he
    obtain ⟨hi, i0, i1⟩ := rng_at hx
    subst hi
    have sq : s.m = s.k := sm.trans sk.symm
    have pw := sp_power (k := k + 15) (j := pre.length) hso sq (by omega)
    have ok := chain_ok (n := s.m) hso.m0 hso.m1 (rep_fits hso sq pre.length)
    have ok5 : okD 4 (chain a.m (List.replicate pre.length s)).d = true := by rw [← sm]; exact okD_d (n := 1) ok.1
    have bh := sp__law_behind (k := k + 18) ok.1 hso ok.2.2
    rw [← chain_rep] at bh
    rw [sm] at pw bh
    have el : (pre ++ [(pre.length : Int)]).length = pre.length + 1 := by simp
    rw [forB_some (bind_nm (by simp)), el]
    simp -implicitDefEqProofs only [evO_some, bnd_ok, bnd_ex, lift_some, liftC_dat, liftC_own, fl_ok, fl_ex, then_nx, then_rt, then_ex, data_dat, data_own, data_ex, truth_ok, truth_ex, readC_dat, readC_own, peekC_dat, peekC_own, ev_var, ev_lit, ev_gc, ev_fnm, ev_bin, ev_not, ev_and, ev_or, ev_cmp, ev_chn, ev_ite, ev_tup, ev_lst, ev_idx, ev_vix, ev_vln, ev_vcl, ev_vcr, ev_slc, ev_rev, ev_app, ev_appP, ev_bi, ev_mn, ev_rgl, ev_rgt, ev_isi, ev_mth, ev_neg, evs_nil, evs_cons, evo_non, evo_som, evc_non, evc_som, evi_seq, evi_rng, callR_dat, callR_own, callR_ex, callA_eq, callP_own, callRp_ok, callRp_ex, putP_own, xss_nil, xss_cons, xs_set, stC_ok, bindS_some, xs_asg, xs_tpar, bind_nm, bind_tp, binds_nil, binds_cons, ownC_some, ownQ_own, ownAt_eq, xs_sti, xs_aug, xs_apd, xs_xtd, xs_exp, xs_iff, xs_for, xs_whl, xs_ret, xs_rse, xs_pas, xs_try, tryE_rt, tryE_nx, tryE_ex, fin_rt, fin_nx, fin_ex, finP_rt, finP_nx, op_addI, op_subI, cmp_lt, cmp_le, cmp_gt, cmp_ge, cmp_eqI, cmp_neI, cmp_eqB, cmp_neB, aug_add, ix_of, cmp_isN, cmp_isNotN, bi_lenL, bi_lenT, bi_listL, bi_listT, bi_tupL, bi_tupT, bi_sum, bi_int, bi_all, bi_any, items_L, items_T, dat_d, own_d, at0, at1, at2, al0, al1,  List.getD_cons_zero, List.getD_cons_succ, List.set_cons_zero, List.set_cons_succ, List.length_cons, List.length_nil, Option.map_some, Option.bind_some, Option.map_none, reduceIte, Nat.reduceLT, Nat.reduceAdd, wipeE, List.length_map, List.getElem?_cons_zero, List.getElem?_cons_succ, bind_dP, at0d, at1d, at2d, cut2d, ite_and, ite_or, ite_int, ownC_own, ownD_some, set5_1, set5_2, set5_3, at5_0, at5_1, at5_2, at5_3, at5_4, Int.reduceLT, Int.reduceLE, Int.reduceNeg, and_self, true_and, op_mulI, op_mod, op_div, decide_true, decide_false, Bool.false_eq_true, if_false, if_true, pw, hs _ ok5, bh, Bool.not_true]
    exact ⟨_, rfl, _, rfl⟩
  obtain ⟨c17, rfl⟩ := he
  simp -implicitDefEqProofs only [evO_some, bnd_ok, bnd_ex, lift_some, liftC_dat, liftC_own, fl_ok, fl_ex, then_nx, then_rt, then_ex, data_dat, data_own, data_ex, truth_ok, truth_ex, readC_dat, readC_own, peekC_dat, peekC_own, ev_var, ev_lit, ev_gc, ev_fnm, ev_bin, ev_not, ev_and, ev_or, ev_cmp, ev_chn, ev_ite, ev_tup, ev_lst, ev_idx, ev_vix, ev_vln, ev_vcl, ev_vcr, ev_slc, ev_rev, ev_app, ev_appP, ev_bi, ev_mn, ev_rgl, ev_rgt, ev_isi, ev_mth, ev_neg, evs_nil, evs_cons, evo_non, evo_som, evc_non, evc_som, evi_seq, evi_rng, callR_dat, callR_own, callR_ex, callA_eq, callP_own, callRp_ok, callRp_ex, putP_own, xss_nil, xss_cons, xs_set, stC_ok, bindS_some, xs_asg, xs_tpar, bind_nm, bind_tp, binds_nil, binds_cons, ownC_some, ownQ_own, ownAt_eq, xs_sti, xs_aug, xs_apd, xs_xtd, xs_exp, xs_iff, xs_for, xs_whl, xs_ret, xs_rse, xs_pas, xs_try, tryE_rt, tryE_nx, tryE_ex, fin_rt, fin_nx, fin_ex, finP_rt, finP_nx, op_addI, op_subI, cmp_lt, cmp_le, cmp_gt, cmp_ge, cmp_eqI, cmp_neI, cmp_eqB, cmp_neB, aug_add, ix_of, cmp_isN, cmp_isNotN, bi_lenL, bi_lenT, bi_listL, bi_listT, bi_tupL, bi_tupT, bi_sum, bi_int, bi_all, bi_any, items_L, items_T, dat_d, own_d, at0, at1, at2, al0, al1,  List.getD_cons_zero, List.getD_cons_succ, List.set_cons_zero, List.set_cons_succ, List.length_cons, List.length_nil, Option.map_some, Option.bind_some, Option.map_none, reduceIte, Nat.reduceLT, Nat.reduceAdd, wipeE, List.length_map, List.getElem?_cons_zero, List.getElem?_cons_succ, bind_dP, at0d, at1d, at2d, cut2d, ite_and, ite_or, ite_int, ownC_own, ownD_some, set5_1, set5_2, set5_3, at5_0, at5_1, at5_2, at5_3, at5_4, Int.reduceLT, Int.reduceLE, Int.reduceNeg, and_self, true_and, op_mulI, op_mod, op_div, decide_true, decide_false, Bool.false_eq_true, if_false, if_true, st2, st3, u1, u2, u3, hs _ ok4]
  exact ⟨_, _, rfl, rfl⟩

end GC
namespace GC
open Z PySem PySem.Spec L2 G
abbrev PW := PySem.Challenge.pw_bothsidesjoined_k04_behind_one_another_t
abbrev RWx := PySem.Challenge.rw_bothsidesjoined_k04_behind_one_another_t
def top (i : Nat) : Stmt := PW.main.body.getD i (.Pass ⟨0, 0, 0, 0⟩)
abbrev D0 : He.DefD := ⟨("is_whole", none), "is_whole", "is_whole", defArgs (top 4), defBody (top 4), defScope (top 4), [], []⟩
abbrev D1 : He.DefD := ⟨("merged", none), "merged", "merged", defArgs (top 5), defBody (top 5), defScope (top 5), [], []⟩
abbrev D2 : He.DefD := ⟨("links_of", none), "links_of", "links_of", defArgs (top 6), defBody (top 6), defScope (top 6), [], []⟩
abbrev D3 : He.DefD := ⟨("still", none), "still", "still", defArgs (top 7), defBody (top 7), defScope (top 7), [], []⟩
abbrev D4 : He.DefD := ⟨("stacked", none), "stacked", "stacked", defArgs (top 9), defBody (top 9), defScope (top 9), [], []⟩
abbrev D5 : He.DefD := ⟨("then", none), "then", "then", defArgs (top 10), defBody (top 10), defScope (top 10), [], []⟩
abbrev D6 : He.DefD := ⟨("lost", none), "lost", "lost", defArgs (top 11), defBody (top 11), defScope (top 11), [], []⟩
abbrev D7 : He.DefD := ⟨("chain", none), "chain", "chain", defArgs (top 12), defBody (top 12), defScope (top 12), [], []⟩
abbrev D8 : He.DefD := ⟨("chain_lost", none), "chain_lost", "chain_lost", defArgs (top 13), defBody (top 13), defScope (top 13), [], []⟩
abbrev D9 : He.DefD := ⟨("power", none), "power", "power", defArgs (top 14), defBody (top 14), defScope (top 14), [], []⟩
abbrev D10 : He.DefD := ⟨("_law_same", none), "_law_same", "_law_same", defArgs (top 16), defBody (top 16), defScope (top 16), [], []⟩
abbrev D11 : He.DefD := ⟨("_law_pool", none), "_law_pool", "_law_pool", defArgs (top 17), defBody (top 17), defScope (top 17), [], []⟩
abbrev D12 : He.DefD := ⟨("_law_spread", none), "_law_spread", "_law_spread", defArgs (top 18), defBody (top 18), defScope (top 18), [], []⟩
abbrev D13 : He.DefD := ⟨("_law_draw", none), "_law_draw", "_law_draw", defArgs (top 19), defBody (top 19), defScope (top 19), [], []⟩
abbrev D14 : He.DefD := ⟨("_law_shuffled", none), "_law_shuffled", "_law_shuffled", defArgs (top 20), defBody (top 20), defScope (top 20), [], []⟩
abbrev D15 : He.DefD := ⟨("_law_merge", none), "_law_merge", "_law_merge", defArgs (top 21), defBody (top 21), defScope (top 21), [], []⟩
abbrev D16 : He.DefD := ⟨("_law_some", none), "_law_some", "_law_some", defArgs (top 22), defBody (top 22), defScope (top 22), [], []⟩
abbrev D17 : He.DefD := ⟨("_law_diagram", none), "_law_diagram", "_law_diagram", defArgs (top 23), defBody (top 23), defScope (top 23), [], []⟩
abbrev D18 : He.DefD := ⟨("_law_behind", none), "_law_behind", "_law_behind", defArgs (top 24), defBody (top 24), defScope (top 24), [], []⟩
abbrev D19 : He.DefD := ⟨("_law_still", none), "_law_still", "_law_still", defArgs (top 25), defBody (top 25), defScope (top 25), [], []⟩
abbrev D20 : He.DefD := ⟨("_law_try", none), "_law_try", "_law_try", defArgs (top 26), defBody (top 26), defScope (top 26), [], []⟩
abbrev D21 : He.DefD := ⟨("law", none), "law", "law", defArgs (top 27), defBody (top 27), defScope (top 27), [], []⟩
def fn : List He.DefD := [D0, D1, D2, D3, D4, D5, D6, D7, D8, D9, D10, D11, D12, D13, D14, D15, D16, D17, D18, D19, D20, D21]
def fa : List He.Fa := [.glo "is_whole", .glo "merged", .glo "links_of", .glo "still", .glo "stacked", .glo "then", .glo "lost", .glo "chain", .glo "chain_lost", .glo "power", .glo "_law_same", .glo "_law_pool", .glo "_law_spread", .glo "_law_draw", .glo "_law_shuffled", .glo "_law_merge", .glo "_law_some", .glo "_law_diagram", .glo "_law_behind", .glo "_law_still", .glo "_law_try", .glo "law", .free "len", .free "sum", .free "min", .free "int", .free "list", .free "tuple", .free "sorted", .free "all", .free "any", .free "repr", .free "str", .free "range", .free "isinstance", .free "bool", .free "set", .free "enumerate", .free "zip", .glo "Unfit", .exc "Unfit", .exm "Unfit" "Unfit" true]
abbrev R : PySem.W.OpenRow := PySem.W.OpenLaw.row RWx
abbrev hk : PySem.W.Hook := He.hookD 4 fa fn
def ob (s : PySem.W.SharedT) : He.AlD := He.obsDG 4 fa fn (HandSHeadRun.getT s)
theorem ob_eq (s : PySem.W.SharedT) : ob s = hk.obs s.abs := He.obsDG_eq (HandSHeadRun.getT_eq s)
def loose : List Str := (PW.main.scope.names.map (·.1)).filter fun x => !(x == "law" || x == "__name__")
theorem run (w : World) : HandSHeadRun.RunEq R (PySem.W.view R.prog [27]) hk ob 5000 loose w := by
  intro os
  kernel_rfl
theorem chk_0 : defB nm N_is_whole d_is_whole (defScope (top 4)) (N_is_whole.take 1) (defBody (top 4)) = true := by decide +kernel
theorem chm_1 : (fnScB N_merged (N_merged.take 2) (defScope (top 5)) && decide ((N_merged.take 2).length = 2) && mrgB nm N_merged (defScope (top 5)) (defBody (top 5))) = true := by decide +kernel
theorem chk_2 : defB nm N_links_of d_links_of (defScope (top 6)) (N_links_of.take 1) (defBody (top 6)) = true := by decide +kernel
theorem chk_3 : defB nm N_still d_still (defScope (top 7)) (N_still.take 1) (defBody (top 7)) = true := by decide +kernel
theorem chk_4 : defB nm N_stacked d_stacked (defScope (top 9)) (N_stacked.take 2) (defBody (top 9)) = true := by decide +kernel
theorem chk_5 : defB nm N_then d_then (defScope (top 10)) (N_then.take 2) (defBody (top 10)) = true := by decide +kernel
theorem chk_6 : defB nm N_lost d_lost (defScope (top 11)) (N_lost.take 2) (defBody (top 11)) = true := by decide +kernel
theorem chk_7 : defB nm N_chain d_chain (defScope (top 12)) (N_chain.take 2) (defBody (top 12)) = true := by decide +kernel
theorem chk_8 : defB nm N_chain_lost d_chain_lost (defScope (top 13)) (N_chain_lost.take 2) (defBody (top 13)) = true := by decide +kernel
theorem chk_9 : defB nm N_power d_power (defScope (top 14)) (N_power.take 2) (defBody (top 14)) = true := by decide +kernel
theorem chk_10 : defB nm N__law_same d__law_same (defScope (top 16)) (N__law_same.take 2) (defBody (top 16)) = true := by decide +kernel
theorem chk_11 : defB nm N__law_pool d__law_pool (defScope (top 17)) (N__law_pool.take 1) (defBody (top 17)) = true := by decide +kernel
theorem chk_12 : defB nm N__law_spread d__law_spread (defScope (top 18)) (N__law_spread.take 1) (defBody (top 18)) = true := by decide +kernel
theorem chk_13 : defB nm N__law_draw d__law_draw (defScope (top 19)) (N__law_draw.take 2) (defBody (top 19)) = true := by decide +kernel
theorem chk_14 : defB nm N__law_shuffled d__law_shuffled (defScope (top 20)) (N__law_shuffled.take 2) (defBody (top 20)) = true := by decide +kernel
theorem chk_15 : defB nm N__law_merge d__law_merge (defScope (top 21)) (N__law_merge.take 2) (defBody (top 21)) = true := by decide +kernel
theorem chk_16 : defB nm N__law_some d__law_some (defScope (top 22)) (N__law_some.take 3) (defBody (top 22)) = true := by decide +kernel
theorem chk_17 : defB nm N__law_diagram d__law_diagram (defScope (top 23)) (N__law_diagram.take 3) (defBody (top 23)) = true := by decide +kernel
theorem chk_18 : defB nm N__law_behind d__law_behind (defScope (top 24)) (N__law_behind.take 2) (defBody (top 24)) = true := by decide +kernel
theorem chk_19 : defB nm N__law_still d__law_still (defScope (top 25)) (N__law_still.take 1) (defBody (top 25)) = true := by decide +kernel
theorem chk_20 : defB nm N__law_try d__law_try (defScope (top 26)) (N__law_try.take 3) (defBody (top 26)) = true := by decide +kernel
theorem chk_21 : defB nm N_law d_law (defScope (top 27)) (N_law.take 1) (defBody (top 27)) = true := by decide +kernel
section
variable {P : Program} {w : World} {K : PySem.W.Frag} {h base : Heap} {mg : Str → Option Value}
def Row (P : Program) (w : World) (K : PySem.W.Frag) (mg : Str → Option Value) (base : Heap) (f : Nat) : Prop := ∃ a fd ps, mg (nm.nf f) = some (.ref a) ∧ PySem.W.keepIn K (.ref a) = true ∧ Binds K fd ps [] ∧ Kn nm P w K mg base a fd ps (Pt f)
theorem row_0 (X : K.In h) (Gm : h.Ns mainGlobals mg) (c : He.SaysD fa fn K) : Row P w K mg base 0 := by
  obtain ⟨fd, F⟩ := c.def_ 0 (d := D0) rfl
  exact ⟨_, fd, N_is_whole.take 1, He.glo_ok X Gm (c.fact 0 (f := .glo "is_whole") rfl), F.kp, F.bindsN (fun _ _ _ _ _ _ us hl => match us, hl with | [_], _ => rfl), .ast F chk_0⟩
theorem row_1 (X : K.In h) (Gm : h.Ns mainGlobals mg) (c : He.SaysD fa fn K) : Row P w K mg base 1 := by
  obtain ⟨fd, F⟩ := c.def_ 1 (d := D1) rfl
  exact ⟨_, fd, N_merged.take 2, He.glo_ok X Gm (c.fact 1 (f := .glo "merged") rfl), F.kp, F.bindsN (fun _ _ _ _ _ _ us hl => match us, hl with | [_, _], _ => rfl), .prim fun k M => mrg_ok M F chm_1⟩
theorem row_2 (X : K.In h) (Gm : h.Ns mainGlobals mg) (c : He.SaysD fa fn K) : Row P w K mg base 2 := by
  obtain ⟨fd, F⟩ := c.def_ 2 (d := D2) rfl
  exact ⟨_, fd, N_links_of.take 1, He.glo_ok X Gm (c.fact 2 (f := .glo "links_of") rfl), F.kp, F.bindsN (fun _ _ _ _ _ _ us hl => match us, hl with | [_], _ => rfl), .ast F chk_2⟩
theorem row_3 (X : K.In h) (Gm : h.Ns mainGlobals mg) (c : He.SaysD fa fn K) : Row P w K mg base 3 := by
  obtain ⟨fd, F⟩ := c.def_ 3 (d := D3) rfl
  exact ⟨_, fd, N_still.take 1, He.glo_ok X Gm (c.fact 3 (f := .glo "still") rfl), F.kp, F.bindsN (fun _ _ _ _ _ _ us hl => match us, hl with | [_], _ => rfl), .ast F chk_3⟩
theorem row_4 (X : K.In h) (Gm : h.Ns mainGlobals mg) (c : He.SaysD fa fn K) : Row P w K mg base 4 := by
  obtain ⟨fd, F⟩ := c.def_ 4 (d := D4) rfl
  exact ⟨_, fd, N_stacked.take 2, He.glo_ok X Gm (c.fact 4 (f := .glo "stacked") rfl), F.kp, F.bindsN (fun _ _ _ _ _ _ us hl => match us, hl with | [_, _], _ => rfl), .ast F chk_4⟩
theorem row_5 (X : K.In h) (Gm : h.Ns mainGlobals mg) (c : He.SaysD fa fn K) : Row P w K mg base 5 := by
  obtain ⟨fd, F⟩ := c.def_ 5 (d := D5) rfl
  exact ⟨_, fd, N_then.take 2, He.glo_ok X Gm (c.fact 5 (f := .glo "then") rfl), F.kp, F.bindsN (fun _ _ _ _ _ _ us hl => match us, hl with | [_, _], _ => rfl), .ast F chk_5⟩
theorem row_6 (X : K.In h) (Gm : h.Ns mainGlobals mg) (c : He.SaysD fa fn K) : Row P w K mg base 6 := by
  obtain ⟨fd, F⟩ := c.def_ 6 (d := D6) rfl
  exact ⟨_, fd, N_lost.take 2, He.glo_ok X Gm (c.fact 6 (f := .glo "lost") rfl), F.kp, F.bindsN (fun _ _ _ _ _ _ us hl => match us, hl with | [_, _], _ => rfl), .ast F chk_6⟩
theorem row_7 (X : K.In h) (Gm : h.Ns mainGlobals mg) (c : He.SaysD fa fn K) : Row P w K mg base 7 := by
  obtain ⟨fd, F⟩ := c.def_ 7 (d := D7) rfl
  exact ⟨_, fd, N_chain.take 2, He.glo_ok X Gm (c.fact 7 (f := .glo "chain") rfl), F.kp, F.bindsN (fun _ _ _ _ _ _ us hl => match us, hl with | [_, _], _ => rfl), .ast F chk_7⟩
theorem row_8 (X : K.In h) (Gm : h.Ns mainGlobals mg) (c : He.SaysD fa fn K) : Row P w K mg base 8 := by
  obtain ⟨fd, F⟩ := c.def_ 8 (d := D8) rfl
  exact ⟨_, fd, N_chain_lost.take 2, He.glo_ok X Gm (c.fact 8 (f := .glo "chain_lost") rfl), F.kp, F.bindsN (fun _ _ _ _ _ _ us hl => match us, hl with | [_, _], _ => rfl), .ast F chk_8⟩
theorem row_9 (X : K.In h) (Gm : h.Ns mainGlobals mg) (c : He.SaysD fa fn K) : Row P w K mg base 9 := by
  obtain ⟨fd, F⟩ := c.def_ 9 (d := D9) rfl
  exact ⟨_, fd, N_power.take 2, He.glo_ok X Gm (c.fact 9 (f := .glo "power") rfl), F.kp, F.bindsN (fun _ _ _ _ _ _ us hl => match us, hl with | [_, _], _ => rfl), .ast F chk_9⟩
theorem row_10 (X : K.In h) (Gm : h.Ns mainGlobals mg) (c : He.SaysD fa fn K) : Row P w K mg base 10 := by
  obtain ⟨fd, F⟩ := c.def_ 10 (d := D10) rfl
  exact ⟨_, fd, N__law_same.take 2, He.glo_ok X Gm (c.fact 10 (f := .glo "_law_same") rfl), F.kp, F.bindsN (fun _ _ _ _ _ _ us hl => match us, hl with | [_, _], _ => rfl), .ast F chk_10⟩
theorem row_11 (X : K.In h) (Gm : h.Ns mainGlobals mg) (c : He.SaysD fa fn K) : Row P w K mg base 11 := by
  obtain ⟨fd, F⟩ := c.def_ 11 (d := D11) rfl
  exact ⟨_, fd, N__law_pool.take 1, He.glo_ok X Gm (c.fact 11 (f := .glo "_law_pool") rfl), F.kp, F.bindsN (fun _ _ _ _ _ _ us hl => match us, hl with | [_], _ => rfl), .ast F chk_11⟩
theorem row_12 (X : K.In h) (Gm : h.Ns mainGlobals mg) (c : He.SaysD fa fn K) : Row P w K mg base 12 := by
  obtain ⟨fd, F⟩ := c.def_ 12 (d := D12) rfl
  exact ⟨_, fd, N__law_spread.take 1, He.glo_ok X Gm (c.fact 12 (f := .glo "_law_spread") rfl), F.kp, F.bindsN (fun _ _ _ _ _ _ us hl => match us, hl with | [_], _ => rfl), .ast F chk_12⟩
theorem row_13 (X : K.In h) (Gm : h.Ns mainGlobals mg) (c : He.SaysD fa fn K) : Row P w K mg base 13 := by
  obtain ⟨fd, F⟩ := c.def_ 13 (d := D13) rfl
  exact ⟨_, fd, N__law_draw.take 2, He.glo_ok X Gm (c.fact 13 (f := .glo "_law_draw") rfl), F.kp, F.bindsN (fun _ _ _ _ _ _ us hl => match us, hl with | [_, _], _ => rfl), .ast F chk_13⟩
theorem row_14 (X : K.In h) (Gm : h.Ns mainGlobals mg) (c : He.SaysD fa fn K) : Row P w K mg base 14 := by
  obtain ⟨fd, F⟩ := c.def_ 14 (d := D14) rfl
  exact ⟨_, fd, N__law_shuffled.take 2, He.glo_ok X Gm (c.fact 14 (f := .glo "_law_shuffled") rfl), F.kp, F.bindsN (fun _ _ _ _ _ _ us hl => match us, hl with | [_, _], _ => rfl), .ast F chk_14⟩
theorem row_15 (X : K.In h) (Gm : h.Ns mainGlobals mg) (c : He.SaysD fa fn K) : Row P w K mg base 15 := by
  obtain ⟨fd, F⟩ := c.def_ 15 (d := D15) rfl
  exact ⟨_, fd, N__law_merge.take 2, He.glo_ok X Gm (c.fact 15 (f := .glo "_law_merge") rfl), F.kp, F.bindsN (fun _ _ _ _ _ _ us hl => match us, hl with | [_, _], _ => rfl), .ast F chk_15⟩
theorem row_16 (X : K.In h) (Gm : h.Ns mainGlobals mg) (c : He.SaysD fa fn K) : Row P w K mg base 16 := by
  obtain ⟨fd, F⟩ := c.def_ 16 (d := D16) rfl
  exact ⟨_, fd, N__law_some.take 3, He.glo_ok X Gm (c.fact 16 (f := .glo "_law_some") rfl), F.kp, F.bindsN (fun _ _ _ _ _ _ us hl => match us, hl with | [_, _, _], _ => rfl), .ast F chk_16⟩
theorem row_17 (X : K.In h) (Gm : h.Ns mainGlobals mg) (c : He.SaysD fa fn K) : Row P w K mg base 17 := by
  obtain ⟨fd, F⟩ := c.def_ 17 (d := D17) rfl
  exact ⟨_, fd, N__law_diagram.take 3, He.glo_ok X Gm (c.fact 17 (f := .glo "_law_diagram") rfl), F.kp, F.bindsN (fun _ _ _ _ _ _ us hl => match us, hl with | [_, _, _], _ => rfl), .ast F chk_17⟩
theorem row_18 (X : K.In h) (Gm : h.Ns mainGlobals mg) (c : He.SaysD fa fn K) : Row P w K mg base 18 := by
  obtain ⟨fd, F⟩ := c.def_ 18 (d := D18) rfl
  exact ⟨_, fd, N__law_behind.take 2, He.glo_ok X Gm (c.fact 18 (f := .glo "_law_behind") rfl), F.kp, F.bindsN (fun _ _ _ _ _ _ us hl => match us, hl with | [_, _], _ => rfl), .ast F chk_18⟩
theorem row_19 (X : K.In h) (Gm : h.Ns mainGlobals mg) (c : He.SaysD fa fn K) : Row P w K mg base 19 := by
  obtain ⟨fd, F⟩ := c.def_ 19 (d := D19) rfl
  exact ⟨_, fd, N__law_still.take 1, He.glo_ok X Gm (c.fact 19 (f := .glo "_law_still") rfl), F.kp, F.bindsN (fun _ _ _ _ _ _ us hl => match us, hl with | [_], _ => rfl), .ast F chk_19⟩
theorem row_20 (X : K.In h) (Gm : h.Ns mainGlobals mg) (c : He.SaysD fa fn K) : Row P w K mg base 20 := by
  obtain ⟨fd, F⟩ := c.def_ 20 (d := D20) rfl
  exact ⟨_, fd, N__law_try.take 3, He.glo_ok X Gm (c.fact 20 (f := .glo "_law_try") rfl), F.kp, F.bindsN (fun _ _ _ _ _ _ us hl => match us, hl with | [_, _, _], _ => rfl), .ast F chk_20⟩
theorem row_21 (X : K.In h) (Gm : h.Ns mainGlobals mg) (c : He.SaysD fa fn K) : Row P w K mg base 21 := by
  obtain ⟨fd, F⟩ := c.def_ 21 (d := D21) rfl
  exact ⟨_, fd, N_law.take 1, He.glo_ok X Gm (c.fact 21 (f := .glo "law") rfl), F.kp, F.bindsN (fun _ _ _ _ _ _ us hl => match us, hl with | [_], _ => rfl), .ast F chk_21⟩
theorem rows (X : K.In h) (Gm : h.Ns mainGlobals mg) (c : He.SaysD fa fn K) : ∀ f, nm.pr f = true → Row P w K mg base f
  | 0, _ => row_0 X Gm c
  | 1, _ => row_1 X Gm c
  | 2, _ => row_2 X Gm c
  | 3, _ => row_3 X Gm c
  | 4, _ => row_4 X Gm c
  | 5, _ => row_5 X Gm c
  | 6, _ => row_6 X Gm c
  | 7, _ => row_7 X Gm c
  | 8, _ => row_8 X Gm c
  | 9, _ => row_9 X Gm c
  | 10, _ => row_10 X Gm c
  | 11, _ => row_11 X Gm c
  | 12, _ => row_12 X Gm c
  | 13, _ => row_13 X Gm c
  | 14, _ => row_14 X Gm c
  | 15, _ => row_15 X Gm c
  | 16, _ => row_16 X Gm c
  | 17, _ => row_17 X Gm c
  | 18, _ => row_18 X Gm c
  | 19, _ => row_19 X Gm c
  | 20, _ => row_20 X Gm c
  | 21, _ => row_21 X Gm c
  | n + 22, h => absurd (of_decide_eq_true (show decide (n + 22 < 22) = true from h)) (by omega)
theorem blts (X : K.In h) (Gm : h.Ns mainGlobals mg) (c : He.SaysD fa fn K) : ∀ x ∈ bltNames, mg x = none := by
  intro x hx
  simp only [bltNames, List.mem_cons, List.not_mem_nil, or_false] at hx
  rcases hx with rfl | rfl | rfl | rfl | rfl | rfl | rfl | rfl | rfl | rfl | rfl | rfl | rfl | rfl | rfl | rfl | rfl
  · exact He.free_ok X Gm (c.fact 22 (f := .free "len") rfl)
  · exact He.free_ok X Gm (c.fact 23 (f := .free "sum") rfl)
  · exact He.free_ok X Gm (c.fact 24 (f := .free "min") rfl)
  · exact He.free_ok X Gm (c.fact 25 (f := .free "int") rfl)
  · exact He.free_ok X Gm (c.fact 26 (f := .free "list") rfl)
  · exact He.free_ok X Gm (c.fact 27 (f := .free "tuple") rfl)
  · exact He.free_ok X Gm (c.fact 28 (f := .free "sorted") rfl)
  · exact He.free_ok X Gm (c.fact 29 (f := .free "all") rfl)
  · exact He.free_ok X Gm (c.fact 30 (f := .free "any") rfl)
  · exact He.free_ok X Gm (c.fact 31 (f := .free "repr") rfl)
  · exact He.free_ok X Gm (c.fact 32 (f := .free "str") rfl)
  · exact He.free_ok X Gm (c.fact 33 (f := .free "range") rfl)
  · exact He.free_ok X Gm (c.fact 34 (f := .free "isinstance") rfl)
  · exact He.free_ok X Gm (c.fact 35 (f := .free "bool") rfl)
  · exact He.free_ok X Gm (c.fact 36 (f := .free "set") rfl)
  · exact He.free_ok X Gm (c.fact 37 (f := .free "enumerate") rfl)
  · exact He.free_ok X Gm (c.fact 38 (f := .free "zip") rfl)
theorem excs (X : K.In h) (Gm : h.Ns mainGlobals mg) (c : He.SaysD fa fn K) : ∀ x, nm.px x = true → ∃ C, mg (nm.nx x) = some (.ref C) ∧ PySem.W.excIn K C He.veBase "ValueError.__new__" = true ∧ PySem.W.keepIn K (.ref C) = true ∧ PySem.W.subIn K (.ref C) (.type "BaseException") = some true ∧ PySem.W.typeIn K (.ref C) = some (.type "type")
  | 0, _ => let ⟨e1, e2, e3, e4⟩ := He.exc_ok (c.fact 40 (f := .exc "Unfit") rfl); ⟨_, He.glo_ok X Gm (c.fact 39 (f := .glo "Unfit") rfl), e1, e2, e3, e4⟩
  | n + 1, h => absurd (of_decide_eq_true (show decide (n + 1 < 1) = true from h)) (by omega)
theorem excd (X : K.In h) (Gm : h.Ns mainGlobals mg) (c : He.SaysD fa fn K) : ∀ x y, nm.px x = true → nm.px y = true → ∀ C D, mg (nm.nx x) = some (.ref C) → mg (nm.nx y) = some (.ref D) → PySem.W.exmOne K (.ref C) (.ref D) = some (decide (x = y)) := by
  intro x y hx hy C D hC hD
  have lx := of_decide_eq_true (show decide (x < 1) = true from hx)
  have ly := of_decide_eq_true (show decide (y < 1) = true from hy)
  match x, y, lx, ly, hC, hD with
  | 0, 0, _, _, hC, hD =>
    have e1 := hC.symm.trans (He.glo_ok X Gm (c.fact 39 (f := .glo "Unfit") rfl))
    have e2 := hD.symm.trans (He.glo_ok X Gm (c.fact 39 (f := .glo "Unfit") rfl))
    cases e1
    cases e2
    exact He.exm_ok (c.fact 41 (f := .exm "Unfit" "Unfit" true) rfl)
  | x + 1, _, h, _, _, _ => exact absurd h (by omega)
  | _, y + 1, _, h, _, _ => exact absurd h (by omega)
theorem glvs (X : K.In h) (Gm : h.Ns mainGlobals mg) (c : He.SaysD fa fn K) : ∀ i d, nm.gv i = some d → ∃ u v, mg (nm.ng i) = some u ∧ RelV v u ∧ ∀ F, Rp nm K mg F v d
  | n + 0, d, h => nomatch h
theorem mds (X : K.In h) (Gm : h.Ns mainGlobals mg) (c : He.SaysD fa fn K) (k : Nat) : Md nm (Z.run Pt nm.gv k) k P w K mg base := md_all (blts X Gm c) (glvs X Gm c) (excs X Gm c) (excd X Gm c) (rows X Gm c) k
end
end GC
open PySem PySem.W PySem.Calls PyProof.Rows in
/-- the law, by its evaluator's run -/
theorem cw_of_run (k : Nat) (hk : k ≤ 190) (hrun : ∀ ns : List Int, ns.length ≤ 63 → ∃ q, Z.run GC.Pt G.nm.gv k G.i_law none [.lst (ns.map Z.D.int)] = .ok (.dat (.bl true)) q) : PySem.Challenge.rw_bothsidesjoined_k04_behind_one_another_t.Holds := by
  w_on; o_law
  refine HandSHeadRun.head_any (r := OpenLaw.row PySem.Challenge.rw_bothsidesjoined_k04_behind_one_another_t) (q := view (OpenLaw.row PySem.Challenge.rw_bothsidesjoined_k04_behind_one_another_t).prog [27]) (H := GC.hk) (ob := GC.ob) (M := 5000) (loose := GC.loose) (d := HandSHeadRun.topDef (OpenLaw.row PySem.Challenge.rw_bothsidesjoined_k04_behind_one_another_t).prog 27) (kwd := []) GC.ob_eq
    (by kernel_rfl) (fun s => by kernel_rfl) GC.run (by kernel_rfl) (by kernel_rfl) (by kernel_rfl) (by rfl) (by first | assumption | decide +kernel) (by decide +kernel) ⟨rfl, rfl, rfl, rfl, rfl, by decide +kernel⟩ ?hw ?hc
  case hw => w_witness2
  case hc =>
    refine L2.walk_ofE (l := PySem.Challenge.rw_bothsidesjoined_k04_behind_one_another_t) (n := 63) (k := k) (x := "script") (CX := Z.CXw (PySem.Challenge.rw_bothsidesjoined_k04_behind_one_another_t).prog) rfl (by decide) (by kernel_rfl) ⟨rfl, ?_, ?_⟩ ?F Z.cx_none
    · exact Nat.lt_of_le_of_lt (Nat.add_le_add_right (Nat.add_le_add_left (Nat.mul_le_mul_left 3 hk) _) 5) (by decide)
    · exact Nat.lt_of_le_of_lt (Nat.add_le_add_right (Nat.add_le_add_left (Nat.mul_le_mul_left 16 hk) _) 200) (by decide)
    intro w mg f h Y Gm hmg0
    obtain ⟨K, KX, c⟩ := Y
    have hmg : mg ("law" : PySem.Str) = some (.ref f) := by
      have e : (HandSHeadRun.topDef (OpenLaw.row PySem.Challenge.rw_bothsidesjoined_k04_behind_one_another_t).prog 27).name = ("law" : PySem.Str) := by kernel_rfl
      rw [← e]
      exact hmg0
    obtain ⟨fd, F⟩ := c.def_ 21 (d := GC.D21) rfl
    have e := hmg.symm.trans (He.glo_ok KX Gm (c.fact 21 (f := .glo "law") rfl))
    cases e
    have b := L2.FunD.bindsA (ps := ["script"]) F fun _ _ _ _ _ _ us hl => match us, hl with | [_], _ => rfl
    cases k with
    | zero => exact (by obtain ⟨q, hq⟩ := hrun [] (by decide); cases hq)
    | succ k =>
    refine ⟨K, fd, Z.spF G.nm K mg (Z.run GC.Pt G.nm.gv (k + 1) G.i_law), KX, fun s v => b s [v] rfl, fun H a ns hl _ hS => Z.sp_law hrun H a ns hl hS, fun base KB GB => ?_⟩
    exact Z.fn_wide (Z.fd_ok (GC.mds KX Gm c k) F GC.chk_21)

theorem PySem.Challenge.cw_bothsidesjoined_k04_behind_one_another_t_holds : PySem.Challenge.rw_bothsidesjoined_k04_behind_one_another_t.Holds := by
  exact cw_of_run 21 (by decide) fun ns _ => by
    obtain ⟨c, q, h, rfl⟩ := GC.law_run 0 ns
    exact ⟨q, h⟩
