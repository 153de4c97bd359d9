import PyProof.Rows.All
import Wide.All
import OpenK.AllK
import Wide.FinOn
import HandS.ForMost
import HandS.Deep
import HandS.TupAny
import HandS.TupMul
import HandS.Wide
import HandS.Star
import HandS.Exc
import HandS.ExcOwn
import HandS.TryOnly
import HandS.WordsExc
import HandS.SetFor
import HandS.RaiseMore
import HandS.Zip
import HandS.FStr
import HandS.Head2
import HandS.HeadEnd
import HandS.HeadHook4
import PyProof.StrLawsRepr
import PySem.Challenge.RW_fewasked_k01_ratios
set_option Elab.async false
set_option linter.all false
set_option maxRecDepth 100000
namespace Ev
open PySem

inductive D where
  | v (p : PyData)
  | ref (r : Nat)
  /-- the script: read by a slice alone -/
  | scr (is : List Int)

inductive Cell where
  | lst (xs : List D)
  | dic (kvs : List (PyData × D))
  | ins (c : Str) (fs : List (Str × D))

abbrev Store := List (Option Cell)
abbrev Slots := List (Option D)
structure Err where
  cls : Str
  arg : Option PyData
inductive Out (α : Type) where
  | ok (a : α)
  | ex (e : Err)
abbrev R (α : Type) := Option (Out α × Store)

def R.bind {α β : Type} (x : R α) (f : α → Store → R β) : R β :=
  match x with
  | none => none
  | some (.ex e, M) => some (.ex e, M)
  | some (.ok a, M) => f a M
def retR {α : Type} (a : α) (M : Store) : R α := some (.ok a, M)
def need {α β : Type} (o : Option α) (f : α → Option β) : Option β :=
  match o with
  | none => none
  | some a => f a
@[simp] theorem bind_ok {α β : Type} (a : α) (M : Store) (f : α → Store → R β) : R.bind (some (.ok a, M)) f = f a M := rfl
@[simp] theorem bind_ret {α β : Type} (a : α) (M : Store) (f : α → Store → R β) : R.bind (retR a M) f = f a M := rfl
@[simp] theorem bind_ex {α β : Type} (e : Err) (M : Store) (f : α → Store → R β) : R.bind (some (.ex e, M)) f = some (.ex e, M) := rfl
@[simp] theorem bind_none {α β : Type} (f : α → Store → R β) : R.bind none f = none := rfl
@[simp] theorem need_some {α β : Type} (a : α) (f : α → Option β) : need (some a) f = f a := rfl
@[simp] theorem need_none {α β : Type} (f : α → Option β) : need none f = none := rfl

def LIM : Nat := 16777216

/-! ### terms -/
inductive ItK where
  | plain | range | range2 | enum | zip | items | vals
inductive Bi where
  | len | int | abs | max | min | sum | all | any | tuple | list | sorted | str | repr | lset | dict
inductive Mt where
  | index | count | join | split | bitlen | get
inductive Tg where
  | s (i : Nat)
  | tup (g : Tg)
  | nil
  | cons (g gs : Tg)

inductive E where
  | nil | cons (e es : E) | conss (e es : E)
  | v (i : Nat) | k (p : PyData) | g (x : Str)
  | tup (es : E) | lst (al : Bool) (es : E)
  | bin (o : Operator) (a b : E) | binA (o : Operator) (a b : E)
  | neg (a : E) | not (a : E)
  | cmp (o : CmpOp) (a b : E) | chain (o o2 : CmpOp) (a b c : E)
  | and (es : E) | or (es : E) | ifx (c a b : E)
  | sub (a i : E) | sl (a lo hi : E) | rev (a : E)
  | call (f : Str) (es : E)
  | bi (b : Bi) (es : E) | biA (b : Bi) (es : E)
  | mt (m : Mt) (o es : E)
  | comp (al : Bool) (elt : E) (tg : Tg) (k : ItK) (it ifs : E)
  | comp2 (al : Bool) (elt : E) (tg : Tg) (k : ItK) (it : E) (tg2 : Tg) (k2 : ItK) (it2 ifs : E)
  | frz (e : E)
  | told (e : E)
  | fst (es : E) | fmt (e : E)
  | pop (e : E)
inductive S where
  | skip | seq (a b : S)
  | expr (e : E)
  | asg (i : Nat) (e : E)
  | asgT (g : Tg) (e : E)
  | par (g : Tg) (es : E)
  | store (a i e : E)
  | app (x e : E)
  | ext (x e : E)
  | ret (e : E) | retN
  | raise (c : Str) (m : E)
  | ite (c : E) (a b : S)
  | for_ (live : List Bool) (tg : Tg) (k : ItK) (it : E) (b : S)
  | while_ (live : List Bool) (c : E) (b : S)
  | brk | cont

/-! ### data -/
def pures : List D → Option (List PyData)
  | [] => some []
  | .v p :: r => (pures r).map (p :: ·)
  | .ref _ :: _ => none
  | .scr _ :: _ => none
def puresKV : List (PyData × D) → Option (List (PyData × PyData))
  | [] => some []
  | (k, .v p) :: r => (puresKV r).map ((k, p) :: ·)
  | (_, .ref _) :: _ => none
  | (_, .scr _) :: _ => none
theorem pures_map : ∀ ps : List PyData, pures (ps.map .v) = some ps
  | [] => rfl
  | p :: r => by
    show (pures (r.map .v)).map (p :: ·) = _
    rw [pures_map r]
    rfl
/-- what a value shows to an operation that reads -/
def view (M : Store) : D → Option PyData
  | .v p => some p
  | .ref r => match M[r]? with
    | some (some (.lst xs)) => (pures xs).map .list
    | some (some (.dic kvs)) => (puresKV kvs).map .dict
    | _ => none
  | .scr _ => none
/-- a new list: as a value (never changed from now on), or as a cell -/
def mkL (al : Bool) (ds : List D) (M : Store) : R D :=
  match al with
  | true => retR (.ref M.length) (M ++ [some (.lst ds)])
  | false => need (pures ds) fun ps => retR (.v (.list ps)) M

def cut {α : Type} (xs : List α) (lo hi : Option Int) : List α :=
  List.take (HT.sIx xs.length xs.length hi - HT.sIx xs.length 0 lo) (List.drop (HT.sIx xs.length 0 lo) xs)

/-! ### operators -/
def eqOk (p q : PyData) : Bool := p.canLay0 && q.canLay0 && decide (min p.depth q.depth ≤ 64)
def oddLen (n : Nat) : Bool := decide (n ≤ LIM)
def smallI (i : Int) : Bool := decide (-(2 ^ 64) < i) && decide (i < 2 ^ 64)
def mulOk (i j : Int) : Bool := decide (i.natAbs.log2 + j.natAbs.log2 < 1000000)
def divOk (j : Int) : Bool := decide (j ≠ 0) && decide (j.natAbs.log2 < 9000)
def shOk (i j : Int) : Bool := decide (0 ≤ j) && decide (j ≤ 1000000) && decide (i.natAbs < 2 ^ 64)
def repOk (n : Nat) (k : Int) : Bool := decide (-(2 ^ 63) ≤ k) && decide (k < 2 ^ 63) && decide (n * k.toNat ≤ LIM)
def rep {α : Type} (k : Int) (xs : List α) : List α := (List.replicate k.toNat xs).flatten

def guardO {α : Type} (b : Bool) (a : α) : Option α := if b = true then some a else none

def binP : Operator → PyData → PyData → Option PyData
  | .Add, .int a, .int b => some (.int (a + b))
  | .Add, .str a, .str b => guardO (decide (a.length + b.length ≤ LIM)) (.str (a ++ b))
  | .Add, .tuple a, .tuple b => guardO (decide (a.length + b.length ≤ LIM)) (.tuple (a ++ b))
  | .Add, .list a, .list b => guardO (decide (a.length + b.length ≤ LIM)) (.list (a ++ b))
  | .Sub, .int a, .int b => some (.int (a - b))
  | .Mult, .int a, .int b => guardO (mulOk a b) (.int (a * b))
  | .Mult, .list a, .int k => guardO (repOk a.length k) (.list (rep k a))
  | .Mult, .tuple a, .int k => none
  | .FloorDiv, .int a, .int b => guardO (divOk b) (.int (a.fdiv b))
  | .Mod, .int a, .int b => guardO (decide (b ≠ 0)) (.int (a.fmod b))
  | .Pow, .int a, .int b => guardO (shOk a b) (.int (a ^ b.toNat))
  | .LShift, .int a, .int b => guardO (shOk a b) (.int (a * 2 ^ b.toNat))
  | .RShift, .int a, .int b => guardO (decide (0 ≤ b)) (.int (a / 2 ^ b.toNat))
  | .BitAnd, .int a, .int b => some (.int (Builtin.bitAnd a b))
  | .BitOr, .int a, .int b => some (.int (Builtin.bitOr a b))
  | .BitXor, .int a, .int b => some (.int (Builtin.bitXor a b))
  | _, _, _ => none

def isNon : PyData → Bool
  | .none => true
  | _ => false
def inP (x : PyData) : PyData → Option Bool
  | .list ds => guardO (x.canLay0 && PyData.canLayAll0 ds && decide (min (PyData.depthAll ds) x.depth ≤ 64)) (ds.any fun z => PyData.eqv z x)
  | .tuple ds => guardO (x.canLay0 && PyData.canLayAll0 ds && decide (min (PyData.depthAll ds) x.depth ≤ 64)) (ds.any fun z => PyData.eqv z x)
  | .str z => match x with
    | .str y => some (!(Builtin.Str.occurrences z y 0 z.length 1).isEmpty)
    | _ => none
  | _ => none
def cmpB : CmpOp → PyData → PyData → Option Bool
  | .Eq, .int a, .int b => some (decide (a = b))
  | .Eq, .str a, .str b => some (decide (a = b))
  | .NotEq, .int a, .int b => some (!decide (a = b))
  | .NotEq, .str a, .str b => some (!decide (a = b))
  | .Eq, p, q => guardO (eqOk p q) (PyData.eqv p q)
  | .NotEq, p, q => guardO (eqOk p q) (!PyData.eqv p q)
  | .Lt, .int a, .int b => some (decide (a < b))
  | .LtE, .int a, .int b => some (decide (a ≤ b))
  | .Gt, .int a, .int b => some (decide (b < a))
  | .GtE, .int a, .int b => some (decide (b ≤ a))
  | .Lt, .str a, .str b => some (decide (a.cps.toList < b.cps.toList))
  | .LtE, .str a, .str b => some (!decide (b.cps.toList < a.cps.toList))
  | .In, p, q => inP p q
  | .NotIn, p, q => (inP p q).map (!·)
  | .Is, p, .none => some (isNon p)
  | .IsNot, p, .none => some (!isNon p)
  | _, _, _ => none
def cmpP (o : CmpOp) (p q : PyData) : Option PyData := (cmpB o p q).map .bool
def signAt (c : Nat) : PyData := .str ⟨#[c]⟩
/-- x[i] -/
def ixD (M : Store) (x y : D) : Option D :=
  match x, y with
  | .v (.list ps), .v (.int i) => (L2.atI ps i).map .v
  | .v (.tuple ps), .v (.int i) => (L2.atI ps i).map .v
  | .v (.str z), .v (.int i) => need (L2.atI z.cps.toList i) fun c => guardO (decide (z.length ≤ LIM)) (.v (signAt c))
  | .ref r, .v (.int i) => match M[r]? with
    | some (some (.lst xs)) => L2.atI xs i
    | _ => none
  | _, _ => none
def optI : D → Option (Option Int)
  | .v (.int i) => some (some i)
  | .v .none => some none
  | _ => none
/-- x[lo:hi] -/
def slP (p : PyData) (lo hi : Option Int) : Option PyData :=
  match p with
  | .list ps => some (.list (cut ps lo hi))
  | .tuple ps => some (.tuple (cut ps lo hi))
  | .str z => guardO (decide (z.length ≤ LIM)) (.str (L2.cutS z lo hi))
  | _ => none

def slD (M : Store) (x : D) (lo hi : Option Int) : Option PyData :=
  match x with
  | .scr is => some (.list ((cut is lo hi).map .int))
  | _ => need (view M x) fun p => slP p lo hi
/-! ### built-ins -/
def intsOf : List PyData → Option (List Int)
  | [] => some []
  | .int i :: r => (intsOf r).map (i :: ·)
  | _ :: _ => none
def boolsOf : List PyData → Option (List Bool)
  | [] => some []
  | .bool b :: r => (boolsOf r).map (b :: ·)
  | _ :: _ => none
theorem intsOf_map : ∀ is : List Int, intsOf (is.map .int) = some is
  | [] => rfl
  | i :: r => by
    show (intsOf (r.map .int)).map (i :: ·) = _
    rw [intsOf_map r]
    rfl
theorem boolsOf_map : ∀ bs : List Bool, boolsOf (bs.map .bool) = some bs
  | [] => rfl
  | i :: r => by
    show (boolsOf (r.map .bool)).map (i :: ·) = _
    rw [boolsOf_map r]
    rfl
def seqOf : PyData → Option (List PyData)
  | .list ps => some ps
  | .tuple ps => some ps
  | _ => none
def maxI : List Int → Option Int
  | [] => none
  | i :: r => some (r.foldl (fun a b => if b > a then b else a) i)
def minI : List Int → Option Int
  | [] => none
  | i :: r => some (r.foldl (fun a b => if b < a then b else a) i)
def okInt (i : Int) : Bool := decide (i.natAbs.log2 < 1920)
def biP : Bi → List PyData → Option PyData
  | .len, [.list ps] => some (.int ps.length)
  | .len, [.tuple ps] => some (.int ps.length)
  | .len, [.str z] => guardO (decide (z.length ≤ LIM)) (.int z.length)
  | .int, [.int i] => some (.int i)
  | .int, [.bool b] => some (.int (if b then 1 else 0))
  | .abs, [.int i] => some (.int (if i < 0 then -i else i))
  | .max, [.int i, .int j] => some (.int (if j > i then j else i))
  | .min, [.int i, .int j] => some (.int (if j < i then j else i))
  | .max, [.list ps] => need (intsOf ps) fun is => (maxI is).map .int
  | .min, [.list ps] => need (intsOf ps) fun is => (minI is).map .int
  | .sum, [.list ps] => need (intsOf ps) fun is => some (.int is.sum)
  | .all, [.list ps] => need (boolsOf ps) fun bs => some (.bool (bs.all id))
  | .any, [.list ps] => need (boolsOf ps) fun bs => some (.bool (bs.any id))
  | .tuple, [.list ps] => some (.tuple ps)
  | .tuple, [.tuple ps] => some (.tuple ps)
  | .list, [p] => (seqOf p).map .list
  | .str, [.int i] => guardO (okInt i) (.str (toString i))
  | .repr, [p] => guardO (p.showable && p.canLay0 && decide (p.depth ≤ 64) && decide (p.shown.length ≤ LIM)) (.str p.shown)
  | _, _ => none
def mtP : Mt → PyData → List PyData → Option PyData
  | _, _, _ => none

/-! ### what is walked -/
def rangeL (lo : Int) (n : Nat) : List D := (List.range n).map fun (i : Nat) => .v (.int (lo + (i : Int)))
def zipL : List PyData → List PyData → List D
  | a :: r, b :: s => .v (.tuple [a, b]) :: zipL r s
  | _, _ => []
def enumL (i : Nat) : List PyData → List D
  | [] => []
  | a :: r => .v (.tuple [.int i, a]) :: enumL (i + 1) r
def inR (i : Int) : Bool := decide (-(2 ^ 62) ≤ i) && decide (i < 2 ^ 62)
mutual
def sameP : PyData → PyData → Bool
  | .none, .none => true
  | .bool a, .bool b => decide (a = b)
  | .int a, .int b => decide (a = b)
  | .str a, .str b => decide (a = b)
  | .list a, .list b => samePs a b
  | .tuple a, .tuple b => samePs a b
  | _, _ => false
def samePs : List PyData → List PyData → Bool
  | [], [] => true
  | a :: r, b :: s => sameP a b && samePs r s
  | _, _ => false
end
def sameD : D → D → Bool
  | .v p, .v q => sameP p q
  | .ref r, .ref s => decide (r = s)
  | _, _ => false
def sameDs : List D → List D → Bool
  | [], [] => true
  | a :: r, b :: s => sameD a b && sameDs r s
  | _, _ => false
def sameLst (r : Nat) (M N : Store) : Bool :=
  match M[r]?, N[r]? with
  | some (some (.lst xs)), some (some (.lst ys)) => sameDs xs ys
  | _, _ => false
def stays (rs : List Nat) (M N : Store) : Bool := rs.all fun r => sameLst r M N

def refsD : D → List Nat
  | .ref r => [r]
  | .v _ => []
  | .scr _ => []
/-- the items, and the cells that must stand still meanwhile -/
def plainOf (x : D) (M : Store) : Option (List D × List Nat) :=
  match x with
  | .v (.list ps) => some (ps.map .v, [])
  | .v (.tuple ps) => some (ps.map .v, [])
  | .v (.str z) => guardO (decide (z.length ≤ LIM)) (z.cps.toList.map fun c => .v (signAt c), [])
  | .ref r => match M[r]? with
    | some (some (.lst xs)) => guardO (sameDs xs xs) (xs, [r])
    | _ => none
  | _ => none
def range1Of (x : D) : Option (List D × List Nat) :=
  match x with
  | .v (.int n) => guardO (inR n && decide (n ≤ (LIM : Nat))) (rangeL 0 n.toNat, [])
  | _ => none
def range2Of (x y : D) : Option (List D × List Nat) :=
  match x, y with
  | .v (.int a), .v (.int b) => guardO (inR a && inR b && decide (b - a ≤ (LIM : Nat))) (rangeL a (b - a).toNat, [])
  | _, _ => none
def enumOf (x : D) (M : Store) : Option (List D × List Nat) := need (view M x) fun p => match p with
    | .list ps => guardO (samePs ps ps) (enumL 0 ps, refsD x)
    | _ => none
def zipOf (x y : D) (M : Store) : Option (List D × List Nat) := need (view M x) fun p => need (view M y) fun q => match p, q with
    | .list ps, .list qs => guardO (samePs ps ps && samePs qs qs) (zipL ps qs, refsD x ++ refsD y)
    | .tuple ps, .tuple qs => some (zipL ps qs, [])
    | _, _ => none
def on1 {β : Type} (f : D → Option β) (ds : List D) : Option β :=
  match ds with
  | [x] => f x
  | _ => none
def on2 {β : Type} (f : D → D → Option β) (ds : List D) : Option β :=
  match ds with
  | [x, y] => f x y
  | _ => none
def itemsOf (k : ItK) (ds : List D) (M : Store) : Option (List D × List Nat) :=
  match k with
  | .plain => on1 (fun x => plainOf x M) ds
  | .range => on1 range1Of ds
  | .range2 => on2 range2Of ds
  | .enum => on1 (fun x => enumOf x M) ds
  | .zip => on2 (fun x y => zipOf x y M) ds
  | .items => none
  | .vals => none

/-! ### targets -/
mutual
def setT : Tg → D → Slots → Option Slots
  | .s i, d, σ => if i < σ.length then some (σ.set i (some d)) else none
  | .tup g, d, σ => match d with
    | .v (.tuple ps) => setTs g (ps.map .v) σ
    | .v (.list ps) => setTs g (ps.map .v) σ
    | _ => none
  | .nil, _, _ => none
  | .cons _ _, _, _ => none
def setTs : Tg → List D → Slots → Option Slots
  | .nil, ds, σ => match ds with
    | [] => some σ
    | _ => none
  | .cons g gs, ds, σ => match ds with
    | d :: r => need (setT g d σ) fun σ' => setTs gs r σ'
    | [] => none
  | .s _, _, _ => none
  | .tup _, _, _ => none
end

def wipeT : Tg → Slots → Slots
  | .s i, σ => σ.set i none
  | .tup g, σ => wipeT g σ
  | .nil, σ => σ
  | .cons g gs, σ => wipeT gs (wipeT g σ)
/-! ### calls: the cells that a callee can reach -/
def refsDs (ds : List D) : List Nat := ds.flatMap refsD
def refsC : Cell → List Nat
  | .lst xs => refsDs xs
  | .dic kvs => refsDs (kvs.map (·.2))
  | .ins _ fs => refsDs (fs.map (·.2))
def close (M : Store) : Nat → List Nat → List Nat → Option (List Nat)
  | 0, _, _ => none
  | _ + 1, [], acc => some acc
  | n + 1, r :: rs, acc => if r ∈ acc then close M n rs acc else match M[r]? with
    | some (some c) => close M n (refsC c ++ rs) (acc ++ [r])
    | _ => none
def mapD (f : Nat → Nat) : D → D
  | .ref r => .ref (f r)
  | .v p => .v p
  | .scr is => .scr is
def mapC (f : Nat → Nat) : Cell → Cell
  | .lst xs => .lst (xs.map (mapD f))
  | .dic kvs => .dic (kvs.map fun p => (p.1, mapD f p.2))
  | .ins c fs => .ins c (fs.map fun p => (p.1, mapD f p.2))
def mapO (f : Nat → Nat) : Out D → Out D
  | .ok d => .ok (mapD f d)
  | .ex e => .ex e
def putAll (M : Store) : List Nat → Store → Store
  | r :: rs, c :: cs => putAll (M.set r c) rs cs
  | _, _ => M
/-- a call by f, over the cells that the arguments reach -/
def callX (f : List D → Store → R D) (ds : List D) (M : Store) : R D :=
  need (close M 1000 (refsDs ds) []) fun ord =>
    match f (ds.map (mapD ord.idxOf)) (ord.map fun r => ((M[r]?).getD none).map (mapC ord.idxOf)) with
    | none => none
    | some (o, M1) =>
      let back : Nat → Nat := fun j => match ord[j]? with
        | some r => r
        | none => M.length + (j - ord.length)
      some (mapO back o, putAll M ord ((M1.take ord.length).map (·.map (mapC back))) ++ (M1.drop ord.length).map (·.map (mapC back)))

/-! ### the evaluator -/
inductive Flow where
  | nx | ret (d : D) | brk | cont | ex (e : Err)
abbrev RS := Option (Flow × Slots × Store)
structure Sig where
  call : Str → List D → Store → R D
  glob : Str → Option PyData
  loop : List Bool → (Slots → Store → R D) → (Slots → Store → RS) → Slots → Store → RS

/-- an exception may not leave from here -/
def calmR {α : Type} (x : R α) : R α := match x with
  | some (.ok a, M) => some (.ok a, M)
  | _ => none
def compL (step : D → Store → R (Option (List D))) (ok : Store → Bool) : List D → Store → R (List D)
  | [], M => retR [] M
  | d :: ds, M => (calmR (step d M)).bind fun o M1 => if ok M1 = true then (compL step ok ds M1).bind fun r M2 => retR (match o with | some x => x ++ r | none => r) M2 else none
/-- the slots that are looked at again -/
def keepS : List Bool → Slots → Slots
  | true :: m, d :: r => d :: keepS m r
  | false :: m, _ :: r => none :: keepS m r
  | _, σ => σ
def refsS : Slots → List Nat
  | [] => []
  | some d :: r => refsD d ++ refsS r
  | none :: r => refsS r
def cellsBelow (n : Nat) (M : Store) : Bool := M.all fun o => match o with
  | some c => (refsC c).all (· < n)
  | none => true
/-- a turn's end: what is not looked at again is forgotten, and the turn's own cells -/
def tidy (live : List Bool) (n : Nat) (σ : Slots) (M : Store) (f : Slots → Store → RS) : RS :=
  f (keepS live σ) (if (refsS (keepS live σ)).all (· < n) && cellsBelow n (M.take n) then M.take n else M)
def forL (live : List Bool) (n : Nat) (step : D → Slots → Store → RS) (ok : Store → Bool) : List D → Slots → Store → RS
  | [], σ, M => some (.nx, σ, M)
  | d :: ds, σ, M => match step d σ M with
    | none => none
    | some (.nx, σ', M') => if ok M' = true then tidy live n σ' M' (forL live n step ok ds) else none
    | some (.cont, σ', M') => if ok M' = true then tidy live n σ' M' (forL live n step ok ds) else none
    | some (.brk, σ', M') => some (.nx, σ', M')
    | some (.ret d, σ', M') => some (.ret d, σ', M')
    | some (.ex e, σ', M') => some (.ex e, σ', M')
def boolD : D → Option Bool
  | .v (.bool b) => some b
  | _ => none
def toldName (c : Str) : Option Str :=
  if c = "NotAllowed" then some "refused" else if c = "TooLarge" then some "large" else if c = "Missing" then some "missing" else if c = "BadForm" then some "form" else if c = "Broken" then some "broken" else none
mutual
def evE (G : Sig) : E → Slots → Store → R D
  | .v i, σ, M => match σ[i]? with
    | some (some d) => retR d M
    | _ => none
  | .k p, _, M => retR (.v p) M
  | .g x, _, M => need (G.glob x) fun p => retR (.v p) M
  | .tup es, σ, M => (evEs G es σ M).bind fun ds M => need (pures ds) fun ps => if ps.length ≤ LIM then retR (.v (.tuple ps)) M else none
  | .lst al es, σ, M => (evEs G es σ M).bind fun ds M => if ds.length ≤ LIM then mkL al ds M else none
  | .bin o a b, σ, M => (evE G a σ M).bind fun x M => (evE G b σ M).bind fun y M => need (view M x) fun p => need (view M y) fun q => need (binP o p q) fun r => retR (.v r) M
  | .binA o a b, σ, M => (evE G a σ M).bind fun x M => (evE G b σ M).bind fun y M => need (view M x) fun p => need (view M y) fun q => need (binP o p q) fun r => match r with
    | .list ps => mkL true (ps.map .v) M
    | _ => none
  | .neg a, σ, M => (evE G a σ M).bind fun x M => match x with
    | .v (.int i) => retR (.v (.int (-i))) M
    | _ => none
  | .not a, σ, M => (evE G a σ M).bind fun x M => need (boolD x) fun b => retR (.v (.bool (!b))) M
  | .cmp o a b, σ, M => (evE G a σ M).bind fun x M => (evE G b σ M).bind fun y M => need (view M x) fun p => need (view M y) fun q => need (cmpB o p q) fun r => retR (.v (.bool r)) M
  | .chain o o2 a b c, σ, M => (evE G a σ M).bind fun x M => (evE G b σ M).bind fun y M => need (view M x) fun p => need (view M y) fun q => need (cmpB o p q) fun r =>
      if r = true then (evE G c σ M).bind fun z M => need (view M y) fun q => need (view M z) fun u => need (cmpB o2 q u) fun r => retR (.v (.bool r)) M else retR (.v (.bool false)) M
  | .and es, σ, M => (evAnd G es σ M).bind fun b M => retR (.v (.bool b)) M
  | .or es, σ, M => (evOr G es σ M).bind fun b M => retR (.v (.bool b)) M
  | .ifx c a b, σ, M => (evE G c σ M).bind fun x M => need (boolD x) fun t => if t = true then evE G a σ M else evE G b σ M
  | .sub a i, σ, M => (evE G a σ M).bind fun x M => (evE G i σ M).bind fun y M => need (ixD M x y) fun d => retR d M
  | .sl a lo hi, σ, M => (evE G a σ M).bind fun x M => (evO G lo σ M).bind fun l M => (evO G hi σ M).bind fun h M => need (slD M x l h) fun q => retR (.v q) M
  | .rev a, σ, M => none
  | .call f es, σ, M => (evEs G es σ M).bind fun ds M => callX (G.call f) ds M
  | .bi b es, σ, M => (evEs G es σ M).bind fun ds M => need (ds.mapM (view M)) fun ps => need (biP b ps) fun r => retR (.v r) M
  | .biA b es, σ, M => (evEs G es σ M).bind fun ds M => need (ds.mapM (view M)) fun ps => need (biP b ps) fun r => match r with
    | .list ps => mkL true (ps.map .v) M
    | _ => none
  | .mt m o es, σ, M => (evE G o σ M).bind fun x M => (evEs G es σ M).bind fun ds M => need (view M x) fun p => need (ds.mapM (view M)) fun ps => need (mtP m p ps) fun r => retR (.v r) M
  | .comp al elt tg k it ifs, σ, M => (evEs G it σ M).bind fun ds M => need (itemsOf k ds M) fun it =>
      (compL (fun d M => need (setT tg d (wipeT tg σ)) fun σ' => (evAnd G ifs σ' M).bind fun b M => if b = true then (evE G elt σ' M).bind fun x M => retR (some [x]) M else retR none M) (stays it.2 M) it.1 M).bind fun ds M => mkL al ds M
  | .comp2 al elt tg k it tg2 k2 it2 ifs, σ, M => none
  | .frz e, σ, M => (evE G e σ M).bind fun x M => match x with
    | .ref r => need (view M x) fun p => retR (.v p) (M.set r none)
    | .v p => retR (.v p) M
    | .scr _ => none
  | .told e, σ, M => match evE G e σ M with
    | some (.ok (.v p), M') => retR (.v (.tuple [.str "told", p])) M'
    | some (.ex er, M') => need (toldName er.cls) fun x => retR (.v (.tuple [.str x])) M'
    | _ => none
  | .fst es, σ, M => (evF G es ⟨#[]⟩ σ M).bind fun z M => retR (.v (.str z)) M
  | .fmt e, σ, M => (evE G e σ M).bind fun x M => match x with
    | .v (.int i) => if okInt i = true then retR (.v (.str (toString i))) M else none
    | .v (.str z) => if z.length ≤ LIM then retR (.v (.str z)) M else none
    | _ => none
  | .pop e, σ, M => (evE G e σ M).bind fun x M => match x with
    | .ref r => match M[r]? with
      | some (some (.lst xs)) => match xs.getLast? with
        | some d => retR d (M.set r (some (.lst xs.dropLast)))
        | none => none
      | _ => none
    | _ => none
  | .nil, _, _ => none
  | .cons _ _, _, _ => none
  | .conss _ _, _, _ => none
def evEs (G : Sig) : E → Slots → Store → R (List D)
  | .nil, _, M => retR [] M
  | .cons e es, σ, M => (evE G e σ M).bind fun x M => (evEs G es σ M).bind fun xs M => retR (x :: xs) M
  | .conss e es, σ, M => (evE G e σ M).bind fun x M => need (view M x) fun p => need (seqOf p) fun ps => (evEs G es σ M).bind fun xs M => retR (ps.map .v ++ xs) M
  | _, _, _ => none
def evAnd (G : Sig) : E → Slots → Store → R Bool
  | .nil, _, M => retR true M
  | .cons e es, σ, M => (evE G e σ M).bind fun x M => need (boolD x) fun b => if b = true then evAnd G es σ M else retR false M
  | _, _, _ => none
def evOr (G : Sig) : E → Slots → Store → R Bool
  | .nil, _, M => retR false M
  | .cons e es, σ, M => (evE G e σ M).bind fun x M => need (boolD x) fun b => if b = true then retR true M else evOr G es σ M
  | _, _, _ => none
def evF (G : Sig) : E → Str → Slots → Store → R Str
  | .nil, acc, _, M => retR acc M
  | .cons e es, acc, σ, M => (evE G e σ M).bind fun x M => match x with
    | .v (.str y) => if (acc ++ y).length ≤ LIM then evF G es (acc ++ y) σ M else none
    | _ => none
  | _, _, _, _ => none
def evO (G : Sig) : E → Slots → Store → R (Option Int)
  | .nil, _, M => retR none M
  | .cons e .nil, σ, M => (evE G e σ M).bind fun x M => match x with
    | .v (.int i) => retR (some i) M
    | _ => none
  | _, _, _ => none
end

/-- from an expression into a statement -/
def R.go {α : Type} (x : R α) (σ : Slots) (f : α → Store → RS) : RS :=
  match x with
  | none => none
  | some (.ex e, M) => some (.ex e, σ, M)
  | some (.ok a, M) => f a M
@[simp] theorem go_ok {α : Type} (a : α) (M : Store) (σ : Slots) (f : α → Store → RS) : R.go (some (.ok a, M)) σ f = f a M := rfl
@[simp] theorem go_ret {α : Type} (a : α) (M : Store) (σ : Slots) (f : α → Store → RS) : R.go (retR a M) σ f = f a M := rfl
@[simp] theorem go_ex {α : Type} (e : Err) (M : Store) (σ : Slots) (f : α → Store → RS) : R.go (some (.ex e, M)) σ f = some (.ex e, σ, M) := rfl
@[simp] theorem go_none {α : Type} (σ : Slots) (f : α → Store → RS) : R.go none σ f = none := rfl
def thenS (x : RS) (f : Slots → Store → RS) : RS :=
  match x with
  | none => none
  | some (.nx, σ, M) => f σ M
  | some (.ret d, σ, M) => some (.ret d, σ, M)
  | some (.brk, σ, M) => some (.brk, σ, M)
  | some (.cont, σ, M) => some (.cont, σ, M)
  | some (.ex e, σ, M) => some (.ex e, σ, M)
@[simp] theorem thenS_nx (σ : Slots) (M : Store) (f : Slots → Store → RS) : thenS (some (.nx, σ, M)) f = f σ M := rfl
@[simp] theorem thenS_ret (d : D) (σ : Slots) (M : Store) (f : Slots → Store → RS) : thenS (some (.ret d, σ, M)) f = some (.ret d, σ, M) := rfl
@[simp] theorem thenS_brk (σ : Slots) (M : Store) (f : Slots → Store → RS) : thenS (some (.brk, σ, M)) f = some (.brk, σ, M) := rfl
@[simp] theorem thenS_cont (σ : Slots) (M : Store) (f : Slots → Store → RS) : thenS (some (.cont, σ, M)) f = some (.cont, σ, M) := rfl
@[simp] theorem thenS_ex (e : Err) (σ : Slots) (M : Store) (f : Slots → Store → RS) : thenS (some (.ex e, σ, M)) f = some (.ex e, σ, M) := rfl
@[simp] theorem thenS_none (f : Slots → Store → RS) : thenS none f = none := rfl
/-- a[i] = d -/
def putIx (M : Store) (x y d : D) : Option Store :=
  match x, y with
  | .ref r, .v (.int i) => match M[r]? with
    | some (some (.lst xs)) => (L2.ixN xs.length i).map fun j => M.set r (some (.lst (xs.set j d)))
    | _ => none
  | _, _ => none
def appC (M : Store) (x d : D) : Option Store :=
  match x with
  | .ref r => match M[r]? with
    | some (some (.lst xs)) => guardO (decide (xs.length < LIM)) (M.set r (some (.lst (xs ++ [d]))))
    | _ => none
  | _ => none
def extC (M : Store) (x : D) (ds : List D) : Option Store :=
  match x with
  | .ref r => match M[r]? with
    | some (some (.lst xs)) => guardO (decide (xs.length + ds.length ≤ LIM)) (M.set r (some (.lst (xs ++ ds))))
    | _ => none
  | _ => none
def listD (M : Store) (x : D) : Option (List D) :=
  match x with
  | .v (.list ps) => some (ps.map .v)
  | .ref r => match M[r]? with
    | some (some (.lst xs)) => some xs
    | _ => none
  | _ => none
def isL (M : Store) (x : D) : Bool :=
  match x with
  | .ref r => match M[r]? with
    | some (some (.lst _)) => true
    | _ => false
  | _ => false

def evS (G : Sig) : S → Slots → Store → RS
  | .skip, σ, M => some (.nx, σ, M)
  | .seq a b, σ, M => thenS (evS G a σ M) fun σ M => evS G b σ M
  | .expr e, σ, M => (evE G e σ M).go σ fun _ M => some (.nx, σ, M)
  | .asg i e, σ, M => (evE G e σ M).go σ fun x M => if i < σ.length then some (.nx, σ.set i (some x), M) else none
  | .asgT g e, σ, M => (evE G e σ M).go σ fun x M => need (setT (.tup g) x σ) fun σ' => some (.nx, σ', M)
  | .par g es, σ, M => (evEs G es σ M).go σ fun xs M => need (setTs g xs σ) fun σ' => some (.nx, σ', M)
  | .store a i e, σ, M => (evE G e σ M).go σ fun d M => (evE G a σ M).go σ fun x M => (evE G i σ M).go σ fun y M => need (putIx M x y d) fun M => some (.nx, σ, M)
  | .app x e, σ, M => (evE G x σ M).go σ fun x M => if isL M x = true then (evE G e σ M).go σ fun d M => need (appC M x d) fun M => some (.nx, σ, M) else none
  | .ext x e, σ, M => (evE G x σ M).go σ fun x M => if isL M x = true then (evE G e σ M).go σ fun d M => need (listD M d) fun ds => need (extC M x ds) fun M => some (.nx, σ, M) else none
  | .ret e, σ, M => (evE G e σ M).go σ fun x M => some (.ret x, σ, M)
  | .retN, σ, M => some (.ret (.v .none), σ, M)
  | .raise c m, σ, M => (evE G m σ M).go σ fun x M => match x with
    | .v (.str _) => some (.ex ⟨c, none⟩, σ, M)
    | _ => none
  | .ite c a b, σ, M => (evE G c σ M).go σ fun x M => need (boolD x) fun t => if t = true then evS G a σ M else evS G b σ M
  | .for_ live tg k it b, σ, M => (evEs G it σ M).go σ fun ds M => need (itemsOf k ds M) fun it => forL live M.length (fun d σ M => need (setT tg d σ) fun σ' => evS G b σ' M) (stays it.2 M) it.1 σ M
  | .while_ live c b, σ, M => G.loop live (fun σ M => evE G c σ M) (fun σ M => evS G b σ M) σ M
  | .brk, σ, M => some (.brk, σ, M)
  | .cont, σ, M => some (.cont, σ, M)

/-! ### defs -/
structure Def where
  ps : Nat
  n : Nat
  body : S
structure Pr where
  defs : Str → Option Def
  glob : Str → Option PyData
def below (n : Nat) : Out D → Bool
  | .ok d => (refsD d).all (· < n)
  | .ex _ => true
def leave (n : Nat) (o : Out D) (M : Store) : R D := if below n o && cellsBelow n (M.take n) then some (o, M.take n) else some (o, M)
def runDef (G : Sig) (d : Def) (ds : List D) (M : Store) : R D :=
  if ds.length = d.ps then
    match evS G d.body (ds.map some ++ List.replicate (d.n - d.ps) none) M with
    | some (.ret x, _, M') => leave M.length (.ok x) M'
    | some (.nx, _, M') => leave M.length (.ok (.v .none)) M'
    | some (.ex e, _, M') => leave M.length (.ex e) M'
    | _ => none
  else none
abbrev Loop := List Bool → (Slots → Store → R D) → (Slots → Store → RS) → Slots → Store → RS
def callK (P : Pr) (W : Loop) : Nat → Str → List D → Store → R D
  | 0, _, _, _ => none
  | k + 1, f, ds, M => match P.defs f with
    | none => none
    | some d => runDef ⟨callK P W k, P.glob, W⟩ d ds M
def whileN (live : List Bool) (n0 : Nat) (c : Slots → Store → R D) (b : Slots → Store → RS) : Nat → Slots → Store → RS
  | 0, _, _ => none
  | n + 1, σ, M => (c σ M).go σ fun x M => need (boolD x) fun t => if t = true then
      match b σ M with
      | some (.nx, σ, M) => tidy live n0 σ M (whileN live n0 c b n)
      | some (.cont, σ, M) => tidy live n0 σ M (whileN live n0 c b n)
      | some (.brk, σ, M) => some (.nx, σ, M)
      | some (.ret d, σ, M) => some (.ret d, σ, M)
      | some (.ex e, σ, M) => some (.ex e, σ, M)
      | none => none
    else some (.nx, σ, M)
def loopN (n : Nat) : Loop := fun live c b σ M => whileN live M.length c b n σ M
end Ev

set_option maxRecDepth 100000
set_option maxHeartbeats 1000000
namespace Ev
open PySem PySem.Spec PyProof.Rows L2

/-! ### values -/
mutual
inductive Rp (K : PySem.W.Frag) (Z : Addr → Prop) (H : Hp) : V → PyData → Prop
  | non : Rp K Z H .non .none
  | bl (b : Bool) : Rp K Z H (.bl b) (.bool b)
  | int (i : Int) : Rp K Z H (.int i) (.int i)
  | str (x : Str) : Rp K Z H (.str x) (.str x)
  | lst {a : Addr} {xs : List V} {ds : List PyData} : Z a → H a = some (.lst xs) → Rps K Z H xs ds → Rp K Z H (.ref a) (.list ds)
  | tup {a : Addr} {xs : List V} {ds : List PyData} : SqT K H a xs → Rps K Z H xs ds → Rp K Z H (.ref a) (.tuple ds)
inductive Rps (K : PySem.W.Frag) (Z : Addr → Prop) (H : Hp) : List V → List PyData → Prop
  | nil : Rps K Z H [] []
  | cons {v : V} {vs : List V} {d : PyData} {ds : List PyData} : Rp K Z H v d → Rps K Z H vs ds → Rps K Z H (v :: vs) (d :: ds)
end
variable {K : PySem.W.Frag} {Z Z' Z'' : Addr → Prop} {H H' H'' : Hp} {mu mu' mu'' : List Addr} {M M' M'' : Store}

mutual
theorem Rp.dp : ∀ {v : V} {p : PyData}, Rp K Z H v p → Dp K H v p
  | _, _, .non => .non
  | _, _, .bl b => .bl b
  | _, _, .int i => .int i
  | _, _, .str x => .str x
  | _, _, .lst _ h r => .lst (.inl (.inl h)) r.dp
  | _, _, .tup h r => .tup h r.dp
theorem Rps.dp : ∀ {vs : List V} {ps : List PyData}, Rps K Z H vs ps → DpAll K H vs ps
  | _, _, .nil => .nil
  | _, _, .cons h r => .cons h.dp r.dp
end
/-- the script: known to the object, or of the written part -/
def ScrAt (K : PySem.W.Frag) (H : Hp) (a : Addr) (xs : List V) : Prop :=
  (∃ o, H a = some (.frz o (.lst xs))) ∨
    ∃ (o : Obj) (its : Array Value) (n : Nat), K.lookup a = some o ∧ o.cls = .type "list" ∧ o.dict = none ∧ o.data = .seq its n ∧ its.size ≤ sizeLine ∧ Vals xs its.toList
theorem ScrAt.sq {a : Addr} {xs : List V} (h : ScrAt K H a xs) : SqL K H a xs := h.elim (fun q => .inl (.inr q)) .inr
/-- the heap keeps what stands at frozen places, and every tuple -/
structure Hold (K : PySem.W.Frag) (Z Z' : Addr → Prop) (H H' : Hp) : Prop where
  z : ∀ a, Z a → Z' a
  l : ∀ a xs, Z a → H a = some (.lst xs) → H' a = some (.lst xs)
  q : ∀ a xs, ScrAt K H a xs → ScrAt K H' a xs
  t : ∀ a xs, SqT K H a xs → SqT K H' a xs
mutual
theorem Rp.hold (h : Hold K Z Z' H H') : ∀ {v : V} {p : PyData}, Rp K Z H v p → Rp K Z' H' v p
  | _, _, .non => .non
  | _, _, .bl b => .bl b
  | _, _, .int i => .int i
  | _, _, .str x => .str x
  | _, _, .lst z q r => .lst (h.z _ z) (h.l _ _ z q) (r.hold h)
  | _, _, .tup q r => .tup (h.t _ _ q) (r.hold h)
theorem Rps.hold (h : Hold K Z Z' H H') : ∀ {vs : List V} {ps : List PyData}, Rps K Z H vs ps → Rps K Z' H' vs ps
  | _, _, .nil => .nil
  | _, _, .cons q r => .cons (q.hold h) (r.hold h)
end
theorem Rps.length : ∀ {vs : List V} {ps : List PyData}, Rps K Z H vs ps → vs.length = ps.length
  | _, _, .nil => rfl
  | _, _, .cons _ r => congrArg (· + 1) r.length
theorem Rps.append : ∀ {vs ws : List V} {ps qs : List PyData}, Rps K Z H vs ps → Rps K Z H ws qs → Rps K Z H (vs ++ ws) (ps ++ qs)
  | _, _, _, _, .nil, s => s
  | _, _, _, _, .cons r t, s => .cons r (t.append s)
theorem Rps.get : ∀ {vs : List V} {ps : List PyData} {i : Nat} {p : PyData}, Rps K Z H vs ps → ps[i]? = some p → ∃ v, vs[i]? = some v ∧ Rp K Z H v p
  | _, _, _, _, .nil, e => by simp at e
  | _, _, 0, _, .cons r _, e => by
    simp at e
    subst e
    exact ⟨_, rfl, r⟩
  | _, _, i + 1, p, .cons _ t, e => by
    obtain ⟨v, h1, h2⟩ := Rps.get (i := i) (p := p) t (by simpa using e)
    exact ⟨v, by simpa using h1, h2⟩
theorem Rps.take : ∀ {vs : List V} {ps : List PyData} (n : Nat), Rps K Z H vs ps → Rps K Z H (vs.take n) (ps.take n)
  | _, _, 0, _ => .nil
  | _, _, _ + 1, .nil => .nil
  | _, _, n + 1, .cons r t => .cons r (t.take n)
theorem Rps.drop : ∀ {vs : List V} {ps : List PyData} (n : Nat), Rps K Z H vs ps → Rps K Z H (vs.drop n) (ps.drop n)
  | _, _, 0, r => r
  | _, _, _ + 1, .nil => .nil
  | _, _, n + 1, .cons _ t => t.drop n
theorem Rps.rep {vs : List V} {ps : List PyData} (r : Rps K Z H vs ps) : ∀ n : Nat, Rps K Z H (List.replicate n vs).flatten (List.replicate n ps).flatten
  | 0 => .nil
  | n + 1 => by
    rw [List.replicate_succ, List.replicate_succ, List.flatten_cons, List.flatten_cons]
    exact r.append (r.rep n)
theorem Rps.cut {vs : List V} {ps : List PyData} (r : Rps K Z H vs ps) (lo hi : Option Int) : Rps K Z H (cutV vs lo hi) (Ev.cut ps lo hi) := by
  unfold cutV Ev.cut
  rw [r.length]
  exact (r.drop _).take _
theorem Rps.ints : ∀ {vs : List V} {is : List Int}, Rps K Z H vs (is.map .int) → vs = is.map .int
  | _, [], .nil => rfl
  | _, i :: is, .cons h r => by
    cases h
    rw [Rps.ints (is := is) r]
    rfl
theorem Rps.bls : ∀ {vs : List V} {bs : List Bool}, Rps K Z H vs (bs.map .bool) → vs = bs.map .bl
  | _, [], .nil => rfl
  | _, i :: is, .cons h r => by
    cases h
    rw [Rps.bls (bs := is) r]
    rfl
theorem intsOf_eq : ∀ {ps : List PyData} {is : List Int}, intsOf ps = some is → ps = is.map .int
  | [], is, h => by
    cases h
    rfl
  | .int i :: r, is, h => by
    unfold intsOf at h
    cases e : intsOf r with
    | none =>
      rw [e] at h
      cases h
    | some js =>
      rw [e] at h
      cases h
      rw [intsOf_eq e]
      rfl
  | .none :: _, _, h => by cases h
  | .bool _ :: _, _, h => by cases h
  | .str _ :: _, _, h => by cases h
  | .list _ :: _, _, h => by cases h
  | .tuple _ :: _, _, h => by cases h
  | .dict _ :: _, _, h => by cases h
theorem boolsOf_eq : ∀ {ps : List PyData} {is : List Bool}, boolsOf ps = some is → ps = is.map .bool
  | [], is, h => by
    cases h
    rfl
  | .bool i :: r, is, h => by
    unfold boolsOf at h
    cases e : boolsOf r with
    | none =>
      rw [e] at h
      cases h
    | some js =>
      rw [e] at h
      cases h
      rw [boolsOf_eq e]
      rfl
  | .none :: _, _, h => by cases h
  | .int _ :: _, _, h => by cases h
  | .str _ :: _, _, h => by cases h
  | .list _ :: _, _, h => by cases h
  | .tuple _ :: _, _, h => by cases h
  | .dict _ :: _, _, h => by cases h

/-! ### values with references -/
inductive RD (K : PySem.W.Frag) (Z : Addr → Prop) (mu : List Addr) (H : Hp) : V → D → Prop
  | v {x : V} {p : PyData} : Rp K Z H x p → RD K Z mu H x (.v p)
  | ref {a : Addr} {r : Nat} : mu[r]? = some a → RD K Z mu H (.ref a) (.ref r)
  | scr {a : Addr} {is : List Int} : ScrAt K H a (is.map .int) → RD K Z mu H (.ref a) (.scr is)
inductive RDs (K : PySem.W.Frag) (Z : Addr → Prop) (mu : List Addr) (H : Hp) : List V → List D → Prop
  | nil : RDs K Z mu H [] []
  | cons {v : V} {vs : List V} {d : D} {ds : List D} : RD K Z mu H v d → RDs K Z mu H vs ds → RDs K Z mu H (v :: vs) (d :: ds)
theorem RD.hold (h : Hold K Z Z' H H') (m : ∀ (r : Nat) (a : Addr), mu[r]? = some a → mu'[r]? = some a) {v : V} {d : D} : RD K Z mu H v d → RD K Z' mu' H' v d
  | .v q => .v (q.hold h)
  | .ref q => .ref (m _ _ q)
  | .scr q => .scr (h.q _ _ q)
theorem RDs.hold (h : Hold K Z Z' H H') (m : ∀ (r : Nat) (a : Addr), mu[r]? = some a → mu'[r]? = some a) : ∀ {vs : List V} {ds : List D}, RDs K Z mu H vs ds → RDs K Z' mu' H' vs ds
  | _, _, .nil => .nil
  | _, _, .cons q r => .cons (q.hold h m) (r.hold h m)
theorem RDs.length : ∀ {vs : List V} {ds : List D}, RDs K Z mu H vs ds → vs.length = ds.length
  | _, _, .nil => rfl
  | _, _, .cons _ r => congrArg (· + 1) r.length
theorem RDs.append : ∀ {vs ws : List V} {ps qs : List D}, RDs K Z mu H vs ps → RDs K Z mu H ws qs → RDs K Z mu H (vs ++ ws) (ps ++ qs)
  | _, _, _, _, .nil, s => s
  | _, _, _, _, .cons r t, s => .cons r (t.append s)
theorem RDs.get : ∀ {vs : List V} {ps : List D} {i : Nat} {p : D}, RDs K Z mu H vs ps → ps[i]? = some p → ∃ v, vs[i]? = some v ∧ RD K Z mu H v p
  | _, _, _, _, .nil, e => by simp at e
  | _, _, 0, _, .cons r _, e => by
    simp at e
    subst e
    exact ⟨_, rfl, r⟩
  | _, _, i + 1, p, .cons _ t, e => by
    obtain ⟨v, h1, h2⟩ := RDs.get (i := i) (p := p) t (by simpa using e)
    exact ⟨v, by simpa using h1, h2⟩
theorem RDs.set {v : V} {d : D} (q : RD K Z mu H v d) : ∀ {ds : List D} {vs : List V} (i : Nat), RDs K Z mu H vs ds → RDs K Z mu H (vs.set i v) (ds.set i d)
  | [], _, _, r => by
    cases r
    exact .nil
  | _ :: _, _, 0, r => by
    cases r with
    | cons _ t => exact .cons q t
  | _ :: _, _, i + 1, r => by
    cases r with
    | cons r t => exact .cons r (t.set q i)
theorem RDs.dropLast : ∀ {ds : List D} {vs : List V}, RDs K Z mu H vs ds → RDs K Z mu H vs.dropLast ds.dropLast
  | [], _, r => by
    cases r
    exact .nil
  | [_], _, r => by
    cases r with
    | cons _ t =>
      cases t
      exact .nil
  | _ :: _ :: _, _, r => by
    cases r with
    | cons q t =>
      cases t with
      | cons q2 t2 => exact .cons q (RDs.dropLast (.cons q2 t2))
theorem RDs.ofRps : ∀ {vs : List V} {ps : List PyData}, Rps K Z H vs ps → RDs K Z mu H vs (ps.map .v)
  | _, _, .nil => .nil
  | _, _, .cons q r => .cons (.v q) (RDs.ofRps r)
theorem RDs.pures : ∀ {ds : List D} {vs : List V} {ps : List PyData}, RDs K Z mu H vs ds → Ev.pures ds = some ps → Rps K Z H vs ps
  | [], _, _, r, e => by
    cases r
    cases e
    exact .nil
  | .v p :: ds, _, ps, r, e => by
    have e1 : (Ev.pures ds).map (p :: ·) = some ps := e
    cases r with
    | cons q r =>
      cases q with
      | v q =>
        obtain ⟨qs, e2, e3⟩ := Option.map_eq_some_iff.mp e1
        rw [← e3]
        exact .cons q (RDs.pures r e2)
  | .ref _ :: _, _, _, _, e => nomatch e
  | .scr _ :: _, _, _, _, e => nomatch e

/-! ### cells -/
def CellAt (K : PySem.W.Frag) (Z : Addr → Prop) (mu : List Addr) (H : Hp) (a : Addr) : Cell → Prop
  | .lst xs => ∃ vs, H a = some (.lst vs) ∧ RDs K Z mu H vs xs
  | .dic _ => False
  | .ins _ _ => False
def Live (mu : List Addr) (M : Store) (a : Addr) : Prop := ∃ (r : Nat) (c : Cell), M[r]? = some (some c) ∧ mu[r]? = some a
structure StOk (K : PySem.W.Frag) (Z : Addr → Prop) (mu : List Addr) (H : Hp) (M : Store) : Prop where
  len : mu.length = M.length
  cell : ∀ (r : Nat) (c : Cell), M[r]? = some (some c) → ∃ a, mu[r]? = some a ∧ CellAt K Z mu H a c
  inj : ∀ (r s : Nat) (c c' : Cell) (a : Addr), M[r]? = some (some c) → M[s]? = some (some c') → mu[r]? = some a → mu[s]? = some a → r = s
  nz : ∀ a, Live mu M a → ¬ Z a
  fz : ∀ a, Z a → ∃ o, H a = some o
structure Stp (Z : Addr → Prop) (mu : List Addr) (M : Store) (H : Hp) (Z' : Addr → Prop) (mu' : List Addr) (M' : Store) (H' : Hp) : Prop where
  z : ∀ a, Z a → Z' a
  m : ∀ (r : Nat) (a : Addr), mu[r]? = some a → mu'[r]? = some a
  keep : ∀ a o, H a = some o → ¬ Live mu M a → H' a = some o
  back : ∀ a, Live mu' M' a → Live mu M a ∨ H a = none
  zback : ∀ a, Z' a → Z a ∨ Live mu M a ∨ H a = none
theorem CellAt.lstH {a : Addr} {c : Cell} (h : CellAt K Z mu H a c) : ∃ vs, H a = some (.lst vs) := by
  cases c with
  | lst xs => obtain ⟨vs, e, _⟩ := h; exact ⟨vs, e⟩
  | dic _ => exact h.elim
  | ins _ _ => exact h.elim
theorem StOk.live (S : StOk K Z mu H M) {a : Addr} (l : Live mu M a) : ∃ vs, H a = some (.lst vs) := by
  obtain ⟨r, c, e1, e2⟩ := l
  obtain ⟨b, e3, q⟩ := S.cell r c e1
  rw [e2] at e3
  cases e3
  exact q.lstH
theorem Stp.refl (Z : Addr → Prop) (mu : List Addr) (M : Store) (H : Hp) : Stp Z mu M H Z mu M H :=
  ⟨fun _ h => h, fun _ _ h => h, fun _ _ h _ => h, fun _ h => .inl h, fun _ h => .inl h⟩
theorem Stp.trans (a : Stp Z mu M H Z' mu' M' H') (b : Stp Z' mu' M' H' Z'' mu'' M'' H'') : Stp Z mu M H Z'' mu'' M'' H'' where
  z := fun x h => b.z x (a.z x h)
  m := fun r x h => b.m r x (a.m r x h)
  keep := fun x o h n => b.keep x o (a.keep x o h n) fun l => (a.back x l).elim n fun z => by
    rw [z] at h
    cases h
  back := fun x l => by
    rcases b.back x l with l1 | n1
    · exact a.back x l1
    · by_cases hl : Live mu M x
      · exact .inl hl
      · refine .inr ?_
        cases e : H x with
        | none => rfl
        | some o =>
          have := a.keep x o e hl
          rw [n1] at this
          cases this
  zback := fun x z => by
    rcases b.zback x z with z1 | l1 | n1
    · exact a.zback x z1
    · exact .inr (a.back x l1)
    · by_cases hl : Live mu M x
      · exact .inr (.inl hl)
      · refine .inr (.inr ?_)
        cases e : H x with
        | none => rfl
        | some o =>
          have := a.keep x o e hl
          rw [n1] at this
          cases this
theorem StOk.hold (S : StOk K Z mu H M) (T : Stp Z mu M H Z' mu' M' H') : Hold K Z Z' H H' where
  z := T.z
  l := fun a xs z h => T.keep _ _ h fun l => S.nz a l z
  q := fun a xs h => by
    rcases h with ⟨o, h⟩ | h
    · refine .inl ⟨o, T.keep _ _ h fun l => ?_⟩
      obtain ⟨vs, q⟩ := S.live l
      rw [h] at q
      cases q
    · exact .inr h
  t := fun a xs h => by
    have nl : ∀ o, H a = some o → (∀ vs, o ≠ .lst vs) → ¬ Live mu M a := fun o e n l => by
      obtain ⟨vs, q⟩ := S.live l
      rw [e] at q
      cases q
      exact n _ rfl
    rcases h with (h | ⟨o, h⟩) | h
    · exact .inl (.inl (T.keep _ _ h (nl _ h fun _ z => by cases z)))
    · exact .inl (.inr ⟨o, T.keep _ _ h (nl _ h fun _ z => by cases z)⟩)
    · exact .inr h
theorem Rp.step (S : StOk K Z mu H M) (T : Stp Z mu M H Z' mu' M' H') {v : V} {p : PyData} (h : Rp K Z H v p) : Rp K Z' H' v p := h.hold (S.hold T)
theorem Rps.step (S : StOk K Z mu H M) (T : Stp Z mu M H Z' mu' M' H') {v : List V} {p : List PyData} (h : Rps K Z H v p) : Rps K Z' H' v p := h.hold (S.hold T)
theorem RD.step (S : StOk K Z mu H M) (T : Stp Z mu M H Z' mu' M' H') {v : V} {d : D} (h : RD K Z mu H v d) : RD K Z' mu' H' v d := h.hold (S.hold T) T.m
theorem RDs.step (S : StOk K Z mu H M) (T : Stp Z mu M H Z' mu' M' H') {v : List V} {d : List D} (h : RDs K Z mu H v d) : RDs K Z' mu' H' v d := h.hold (S.hold T) T.m

/-! ### slots -/
structure SlOk (K : PySem.W.Frag) (Z : Addr → Prop) (mu : List Addr) (H : Hp) (sv : L2.St) (sl : Slots) : Prop where
  len : sv.length = sl.length
  at_ : ∀ (i : Nat) (d : D), sl[i]? = some (some d) → ∃ v, sv[i]? = some (some v) ∧ RD K Z mu H v d
theorem SlOk.step {sv : L2.St} {sl : Slots} (S : StOk K Z mu H M) (T : Stp Z mu M H Z' mu' M' H') (h : SlOk K Z mu H sv sl) : SlOk K Z' mu' H' sv sl :=
  ⟨h.len, fun i d e => let ⟨v, e1, q⟩ := h.at_ i d e; ⟨v, e1, q.step S T⟩⟩
theorem SlOk.set {sv : L2.St} {sl : Slots} {i : Nat} {v : V} {d : D} (h : SlOk K Z mu H sv sl) (q : RD K Z mu H v d) : SlOk K Z mu H (sv.set i (some v)) (sl.set i (some d)) := by
  refine ⟨by rw [List.length_set, List.length_set]; exact h.len, fun j e hj => ?_⟩
  by_cases hij : i = j
  · subst hij
    have hlt : i < sl.length := by
      have := (List.getElem?_eq_some_iff.mp hj).1
      rw [List.length_set] at this
      exact this
    rw [List.getElem?_set_self hlt] at hj
    cases hj
    exact ⟨v, List.getElem?_set_self (by rw [h.len]; exact hlt), q⟩
  · rw [List.getElem?_set_ne hij] at hj
    obtain ⟨w, e1, q1⟩ := h.at_ j e hj
    exact ⟨w, by rw [List.getElem?_set_ne hij]; exact e1, q1⟩

/-! ### new objects -/
def Zp (Z : Addr → Prop) (p : Addr) : Addr → Prop := fun a => Z a ∨ a = p
theorem StOk.noZ (S : StOk K Z mu H M) {p : Addr} (n : H p = none) : ¬ Z p := fun z => by
  obtain ⟨o, e⟩ := S.fz p z
  rw [n] at e
  cases e
theorem StOk.noL (S : StOk K Z mu H M) {p : Addr} (n : H p = none) : ¬ Live mu M p := fun l => by
  obtain ⟨o, e⟩ := S.live l
  rw [n] at e
  cases e
/-- an object is laid at a free place: all else stands -/
theorem Stp.laid (S : StOk K Z mu H M) {p : Addr} {o : HO} (n : H p = none) : Stp Z mu M H Z mu M (upd H p o) :=
  ⟨fun _ h => h, fun _ _ h => h, fun a u h _ => by
    rw [upd_ne (ne_of_none h n)]
    exact h, fun _ h => .inl h, fun _ h => .inl h⟩
theorem Stp.laidZ (S : StOk K Z mu H M) {p : Addr} {o : HO} (n : H p = none) : Stp Z mu M H (Zp Z p) mu M (upd H p o) :=
  ⟨fun _ h => .inl h, fun _ _ h => h, fun a u h _ => by
    rw [upd_ne (ne_of_none h n)]
    exact h, fun _ h => .inl h, fun a h => h.elim .inl fun e => .inr (.inr (by rw [e]; exact n))⟩
theorem CellAt.hold (h : Hold K Z Z' H H') (m : ∀ (r : Nat) (a : Addr), mu[r]? = some a → mu'[r]? = some a) {a : Addr} {c : Cell} (e : ∀ o, H a = some o → H' a = some o) (q : CellAt K Z mu H a c) : CellAt K Z' mu' H' a c := by
  cases c with
  | lst xs =>
    obtain ⟨vs, e1, q1⟩ := q
    exact ⟨vs, e _ e1, q1.hold h m⟩
  | dic _ => exact q.elim
  | ins _ _ => exact q.elim
theorem StOk.laid (S : StOk K Z mu H M) {p : Addr} {o : HO} (n : H p = none) : StOk K Z mu (upd H p o) M where
  len := S.len
  cell := fun r c e => by
    obtain ⟨a, e1, q⟩ := S.cell r c e
    refine ⟨a, e1, q.hold (S.hold (Stp.laid S n)) (fun _ _ h => h) fun u h => ?_⟩
    rw [upd_ne (ne_of_none h n)]
    exact h
  inj := S.inj
  nz := S.nz
  fz := fun a z => by
    obtain ⟨u, e⟩ := S.fz a z
    exact ⟨u, by rw [upd_ne (ne_of_none e n)]; exact e⟩
theorem StOk.laidZ (S : StOk K Z mu H M) {p : Addr} {o : HO} (n : H p = none) : StOk K (Zp Z p) mu (upd H p o) M where
  len := S.len
  cell := fun r c e => by
    obtain ⟨a, e1, q⟩ := S.cell r c e
    refine ⟨a, e1, q.hold (S.hold (Stp.laidZ S n)) (fun _ _ h => h) fun u h => ?_⟩
    rw [upd_ne (ne_of_none h n)]
    exact h
  inj := S.inj
  nz := fun a l z => z.elim (S.nz a l) fun e => S.noL n (by rw [← e]; exact l)
  fz := fun a z => by
    rcases z with z | z
    · obtain ⟨u, e⟩ := S.fz a z
      exact ⟨u, by rw [upd_ne (ne_of_none e n)]; exact e⟩
    · rw [z]
      exact ⟨_, upd_same⟩
theorem Rp.newL (S : StOk K Z mu H M) {p : Addr} {vs : List V} {ps : List PyData} (n : H p = none) (r : Rps K Z H vs ps) : Rp K (Zp Z p) (upd H p (.lst vs)) (.ref p) (.list ps) :=
  .lst (.inr rfl) upd_same (r.step S (Stp.laidZ S n))
theorem Rp.newT (S : StOk K Z mu H M) {p : Addr} {vs : List V} {ps : List PyData} (n : H p = none) (r : Rps K Z H vs ps) : Rp K Z (upd H p (.tup vs)) (.ref p) (.tuple ps) :=
  .tup (.inl (.inl upd_same)) (r.step S (Stp.laid S n))
/-- a new cell -/
theorem getElem?_snoc {α : Type} {xs : List α} {x : α} {r : Nat} {y : α} (h : (xs ++ [x])[r]? = some y) : xs[r]? = some y ∨ (r = xs.length ∧ x = y) := by
  by_cases hr : r < xs.length
  · rw [List.getElem?_append_left hr] at h
    exact .inl h
  · rw [List.getElem?_append_right (by omega)] at h
    have e : r - xs.length = 0 := by
      have := (List.getElem?_eq_some_iff.mp h).1
      simp at this
      omega
    rw [e] at h
    refine .inr ⟨by omega, ?_⟩
    simpa using h
theorem getElem?_snoc_last {α : Type} {xs : List α} {x : α} : (xs ++ [x])[xs.length]? = some x := by simp
theorem getElem?_snoc_old {α : Type} {xs : List α} {x y : α} {r : Nat} (h : xs[r]? = some y) : (xs ++ [x])[r]? = some y := by
  rw [List.getElem?_append_left (List.getElem?_eq_some_iff.mp h).1]
  exact h
theorem Stp.newC (S : StOk K Z mu H M) {p : Addr} {o : HO} {c : Cell} (n : H p = none) : Stp Z mu M H Z (mu ++ [p]) (M ++ [some c]) (upd H p o) :=
  ⟨fun _ h => h, fun _ _ h => getElem?_snoc_old h, fun a u h _ => by
    rw [upd_ne (ne_of_none h n)]
    exact h, fun a ⟨r, c', e1, e2⟩ => by
    rcases getElem?_snoc e1 with e1 | ⟨e1, e3⟩
    · rcases getElem?_snoc e2 with e2 | ⟨e2, e4⟩
      · exact .inl ⟨r, c', e1, e2⟩
      · have := (List.getElem?_eq_some_iff.mp e1).1
        rw [← S.len] at this
        omega
    · rcases getElem?_snoc e2 with e2 | ⟨e2, e4⟩
      · have := (List.getElem?_eq_some_iff.mp e2).1
        rw [S.len] at this
        omega
      · exact .inr (by rw [← e4]; exact n), fun _ h => .inl h⟩
theorem StOk.newC (S : StOk K Z mu H M) {p : Addr} {vs : List V} {ds : List D} (n : H p = none) (r : RDs K Z mu H vs ds) : StOk K Z (mu ++ [p]) (upd H p (.lst vs)) (M ++ [some (.lst ds)]) := by
  have T := Stp.newC (o := .lst vs) (c := .lst ds) S n
  refine ⟨by rw [List.length_append, List.length_append, S.len]; rfl, fun q c e => ?_, fun q s c c' a e1 e2 e3 e4 => ?_, fun a l z => ?_, fun a z => ?_⟩
  · rcases getElem?_snoc e with e | ⟨e3, e2⟩
    · obtain ⟨a, e1, h⟩ := S.cell q c e
      refine ⟨a, getElem?_snoc_old e1, h.hold (S.hold T) T.m fun u hu => ?_⟩
      rw [upd_ne (ne_of_none hu n)]
      exact hu
    · cases e2
      refine ⟨p, ?_, vs, upd_same, r.step S T⟩
      have e0 : q = mu.length := e3.trans S.len.symm
      rw [e0]
      exact getElem?_snoc_last
  · have old : ∀ {q : Nat} {c : Cell}, M[q]? = some (some c) → ∀ {a : Addr}, (mu ++ [p])[q]? = some a → mu[q]? = some a := fun {q c} h {a} h2 => by
      have hlt := (List.getElem?_eq_some_iff.mp h).1
      rw [List.getElem?_append_left (by rw [S.len]; exact hlt)] at h2
      exact h2
    have new : ∀ {q : Nat}, q = M.length → ∀ {a : Addr}, (mu ++ [p])[q]? = some a → a = p := fun {q} h {a} h2 => by
      rw [h, ← S.len, getElem?_snoc_last] at h2
      cases h2
      rfl
    have no : ∀ {q : Nat} {c : Cell}, M[q]? = some (some c) → mu[q]? = some p → False := fun {q c} h h2 => S.noL n ⟨q, c, h, h2⟩
    rcases getElem?_snoc e1 with e1 | ⟨e1, f1⟩
    · rcases getElem?_snoc e2 with e2 | ⟨e2, f2⟩
      · exact S.inj q s c c' a e1 e2 (old e1 e3) (old e2 e4)
      · have := new e2 e4
        subst this
        exact (no e1 (old e1 e3)).elim
    · rcases getElem?_snoc e2 with e2 | ⟨e2, f2⟩
      · have := new e1 e3
        subst this
        exact (no e2 (old e2 e4)).elim
      · omega
  · rcases T.back a l with l | l
    · exact S.nz a l z
    · obtain ⟨o, e⟩ := S.fz a z
      rw [l] at e
      cases e
  · obtain ⟨u, e⟩ := S.fz a z
    exact ⟨u, by rw [upd_ne (ne_of_none e n)]; exact e⟩

/-! ### a cell is written, a cell is frozen -/
theorem getElem?_set_some {α : Type} {xs : List α} {i j : Nat} {x y : α} (h : (xs.set i x)[j]? = some y) : (i = j ∧ x = y) ∨ (i ≠ j ∧ xs[j]? = some y) := by
  by_cases e : i = j
  · subst e
    have hlt : i < xs.length := by
      have := (List.getElem?_eq_some_iff.mp h).1
      rw [List.length_set] at this
      exact this
    rw [List.getElem?_set_self hlt] at h
    cases h
    exact .inl ⟨rfl, rfl⟩
  · rw [List.getElem?_set_ne e] at h
    exact .inr ⟨e, h⟩
theorem Live.of_set {r : Nat} {c c' : Cell} {a : Addr} (e : M[r]? = some (some c)) (l : Live mu (M.set r (some c')) a) : Live mu M a := by
  obtain ⟨q, d, h1, h2⟩ := l
  rcases getElem?_set_some h1 with ⟨rfl, _⟩ | ⟨_, h⟩
  · exact ⟨r, c, e, h2⟩
  · exact ⟨q, d, h, h2⟩
theorem Stp.write (S : StOk K Z mu H M) {r : Nat} {c c' : Cell} {a : Addr} {o : HO} (e : M[r]? = some (some c)) (ea : mu[r]? = some a) : Stp Z mu M H Z mu (M.set r (some c')) (upd H a o) :=
  ⟨fun _ h => h, fun _ _ h => h, fun b u h n => by
    have : b ≠ a := fun z => n (by rw [z]; exact ⟨r, c, e, ea⟩)
    rw [upd_ne this]
    exact h, fun b l => .inl (l.of_set e), fun _ h => .inl h⟩
theorem StOk.write (S : StOk K Z mu H M) {r : Nat} {c : Cell} {a : Addr} {vs : List V} {ds : List D} (e : M[r]? = some (some c)) (ea : mu[r]? = some a) (q : RDs K Z mu H vs ds) :
    StOk K Z mu (upd H a (.lst vs)) (M.set r (some (.lst ds))) := by
  have T := Stp.write (o := .lst vs) (c' := .lst ds) S e ea
  refine ⟨by rw [List.length_set]; exact S.len, fun s d h => ?_, fun s t d d' b h1 h2 h3 h4 => ?_, fun b l => S.nz b (l.of_set e), fun b z => ?_⟩
  · rcases getElem?_set_some h with ⟨rfl, h3⟩ | ⟨hne, h⟩
    · cases h3
      exact ⟨a, ea, vs, upd_same, q.step S T⟩
    · obtain ⟨b, e1, h2⟩ := S.cell s d h
      refine ⟨b, e1, h2.hold (S.hold T) T.m fun u hu => ?_⟩
      have : b ≠ a := fun z => hne (S.inj r s c d a e h ea (by rw [← z]; exact e1))
      rw [upd_ne this]
      exact hu
  · have old : ∀ {s : Nat} {d : Cell}, (M.set r (some (.lst ds)))[s]? = some (some d) → ∃ d, M[s]? = some (some d) := fun {s d} h => by
      rcases getElem?_set_some h with ⟨rfl, _⟩ | ⟨_, h⟩
      · exact ⟨c, e⟩
      · exact ⟨d, h⟩
    obtain ⟨u, h1⟩ := old h1
    obtain ⟨u', h2⟩ := old h2
    exact S.inj s t u u' b h1 h2 h3 h4
  · by_cases hb : b = a
    · rw [hb]
      exact ⟨_, upd_same⟩
    · obtain ⟨u, h⟩ := S.fz b z
      exact ⟨u, by rw [upd_ne hb]; exact h⟩
/-- cells are forgotten -/
def Less (M M' : Store) : Prop := M'.length ≤ M.length ∧ ∀ (r : Nat) (c : Cell), M'[r]? = some (some c) → M[r]? = some (some c)
theorem Less.live {mu : List Addr} (h : Less M M') {a : Addr} (l : Live (mu.take M'.length) M' a) : Live mu M a := by
  obtain ⟨r, c, e1, e2⟩ := l
  refine ⟨r, c, h.2 r c e1, ?_⟩
  have hlt := (List.getElem?_eq_some_iff.mp e1).1
  rw [List.getElem?_take_of_lt hlt] at e2
  exact e2
end Ev

set_option maxRecDepth 100000
set_option maxHeartbeats 1000000
namespace Ev
open PySem PySem.Spec PyProof.Rows L2

/-! ### readings by the machine itself -/
def wE (X : Cx) (e : Expr) : TE := fun sv H Q => ∀ pins s, L2.Inv X pins sv H s → wpAny (model X.prog X.w) X.A (eval e X.env) (EP X pins sv Q) X.xe s
theorem pe_w (X : Cx) (e : Expr) : PE X e (wE X e) := ⟨fun pins s _ _ _ I h => h pins s I⟩
theorem wE_of {X : Cx} {e : Expr} {t : TE} (h : PE X e t) {sv : L2.St} {H : Hp} {Q : VK} (q : t sv H Q) : wE X e sv H Q := fun pins s I => h.run pins s sv H Q I q
def wT (X : Cx) (e : Expr) : TT := fun sv H Q => ∀ pins s, L2.Inv X pins sv H s → wpAny (model X.prog X.w) X.A (isTrue e X.env (eval e X.env)) (TP X pins sv Q) X.xe s
theorem pt_w (X : Cx) (e : Expr) : PT X e (wT X e) := ⟨fun pins s _ _ _ I h => h pins s I⟩
theorem wT_of {X : Cx} {e : Expr} {t : TT} (h : PT X e t) {sv : L2.St} {H : Hp} {Q : Bool → Hp → Prop} (q : t sv H Q) : wT X e sv H Q := fun pins s I => h.run pins s sv H Q I q
def wA (X : Cx) (es : List Expr) : TA := fun sv H Q => ∀ pos pins s, L2.Inv X pins sv H s → wpAny (model X.prog X.w) X.A (spliced (backTo pos (starEach es X.env))) (AP X pins sv Q) X.xe s
theorem pa_w (X : Cx) (es : List Expr) : PA X es (wA X es) := ⟨fun pos pins s _ _ _ I h => h pos pins s I⟩
theorem wA_of {X : Cx} {e : List Expr} {t : TA} (h : PA X e t) {sv : L2.St} {H : Hp} {Q : List V → Hp → Prop} (q : t sv H Q) : wA X e sv H Q := fun pos pins s I => h.run pos pins s sv H Q I q
def w2 (X : Cx) (f : Value → Value → Sem Value) : R2 := fun x y H Q => ∀ pins s sv u v, L2.Inv X pins sv H s → RelV x u → RelV y v → wpAny (model X.prog X.w) X.A (f u v) (EP X pins sv Q) X.xe s
theorem op_w (X : Cx) (f : Value → Value → Sem Value) : OpR X f (w2 X f) := fun pins s sv H x y u v Q I rx ry h => h pins s sv u v I rx ry
theorem w2_of {X : Cx} {f : Value → Value → Sem Value} {r : R2} (h : OpR X f r) {x y : V} {H : Hp} {Q : VK} (q : r x y H Q) : w2 X f x y H Q := fun pins s sv u v I rx ry => h pins s sv H x y u v Q I rx ry q
def wC (X : Cx) (f : Value) : List V → Hp → VK → Prop := fun xs H Q => ∀ pins s sv us, L2.Inv X pins sv H s → Vals xs us → wpAny (model X.prog X.w) X.A (call f us) (EP X pins sv Q) X.xe s
theorem call_w (X : Cx) (f : Value) : CallR X f (wC X f) := fun pins s sv H xs us Q I r h => h pins s sv us I r
theorem wC_of {X : Cx} {f : Value} {r : List V → Hp → VK → Prop} (h : CallR X f r) {xs : List V} {H : Hp} {Q : VK} (q : r xs H Q) : wC X f xs H Q := fun pins s sv us I rx => h pins s sv H xs us Q I rx q

/-! ### the judgement -/
/-- an error of the evaluator, and the exception -/
def ErrOk (mg : Str → Option Value) (H : Hp) (e : Err) (cls : Value) (dx : Option Addr) : Prop :=
  mg e.cls = some cls ∧ (∃ C, cls = .ref C) ∧ match e.arg with
    | none => dx = none
    | some _ => False
def XP (X : Cx) (W : WX) (sv : L2.St) (Z : Addr → Prop) (mu : List Addr) (M : Store) (H : Hp) {β : Type} (r : Out β) (M' : Store) : Prop :=
  ∀ e cls dx Z' mu' H', r = .ex e → StOk X.K Z' mu' H' M' → Stp Z mu M H Z' mu' M' H' → ErrOk X.mg H' e cls dx → W cls dx sv H'
def XOk (X : Cx) (sv : L2.St) (Z : Addr → Prop) (mu : List Addr) (M : Store) (H : Hp) {β : Type} (r : Out β) (M' : Store) : Prop :=
  ∃ W, Takes X W ∧ XP X W sv Z mu M H r M'
section
variable {X : Cx} {sv : L2.St} {sl : Slots} {Z Z' Z1 : Addr → Prop} {mu mu' mu1 : List Addr} {M M' M1 : Store} {H H' H1 : Hp} {α β γ : Type} {r : Out β}
theorem XOk.step (x : XOk X sv Z mu M H r M') (T : Stp Z mu M H Z1 mu1 M1 H1) : XOk X sv Z1 mu1 M1 H1 r M' :=
  let ⟨W, tk, p⟩ := x
  ⟨W, tk, fun e cls dx Z' mu' H' er S T' ok => p e cls dx Z' mu' H' er S (T.trans T') ok⟩
theorem XOk.conv {r' : Out γ} (x : XOk X sv Z mu M H r M') (h : ∀ e, r' = .ex e → r = .ex e) : XOk X sv Z mu M H r' M' :=
  let ⟨W, tk, p⟩ := x
  ⟨W, tk, fun e cls dx Z' mu' H' er S T' ok => p e cls dx Z' mu' H' (h e er) S T' ok⟩
theorem XOk.ok {a : α} : XOk X sv Z mu M H (Out.ok a) M' :=
  ⟨fun _ _ _ _ => False, takes0, fun e cls dx Z' mu' H' er => nomatch er⟩

/-- what an expression is worth -/
def SE (X : Cx) (pe : Expr) (f : Slots → Store → R D) : Prop :=
  ∀ (sl : Slots) (M : Store) (r : Out D) (M' : Store), f sl M = some (r, M') → ∀ (sv : L2.St) (H : Hp) (Z : Addr → Prop) (mu : List Addr), StOk X.K Z mu H M → SlOk X.K Z mu H sv sl → XOk X sv Z mu M H r M' →
    ∀ Q : VK, (∀ d v Z' mu' H', r = .ok d → StOk X.K Z' mu' H' M' → Stp Z mu M H Z' mu' M' H' → RD X.K Z' mu' H' v d → Q v H') → wE X pe sv H Q
/-- the same as a test -/
def STt (X : Cx) (pe : Expr) (f : Slots → Store → R D) : Prop :=
  ∀ (sl : Slots) (M : Store) (r : Out D) (M' : Store), f sl M = some (r, M') → (∀ d, r = .ok d → (boolD d).isSome = true) → ∀ (sv : L2.St) (H : Hp) (Z : Addr → Prop) (mu : List Addr), StOk X.K Z mu H M → SlOk X.K Z mu H sv sl → XOk X sv Z mu M H r M' →
    ∀ Q : Bool → Hp → Prop, (∀ b Z' mu' H', r = .ok (.v (.bool b)) → StOk X.K Z' mu' H' M' → Stp Z mu M H Z' mu' M' H' → Q b H') → wT X pe sv H Q
/-- a list of expressions -/
def SEs (X : Cx) (pes : List Expr) (f : Slots → Store → R (List D)) : Prop :=
  ∀ (sl : Slots) (M : Store) (r : Out (List D)) (M' : Store), f sl M = some (r, M') → ∀ (sv : L2.St) (H : Hp) (Z : Addr → Prop) (mu : List Addr), StOk X.K Z mu H M → SlOk X.K Z mu H sv sl → XOk X sv Z mu M H r M' →
    ∀ Q : List V → Hp → Prop, (∀ ds vs Z' mu' H', r = .ok ds → StOk X.K Z' mu' H' M' → Stp Z mu M H Z' mu' M' H' → RDs X.K Z' mu' H' vs ds → Q vs H') → wA X pes sv H Q

theorem SE.step {pe : Expr} {f : Slots → Store → R D} (h : SE X pe f) {g : D → Store → R β} (hf : (f sl M).bind g = some (r, M')) (S : StOk X.K Z mu H M) (L : SlOk X.K Z mu H sv sl) (x : XOk X sv Z mu M H r M') {Q : VK}
    (k : ∀ d M1 v Z1 mu1 H1, StOk X.K Z1 mu1 H1 M1 → SlOk X.K Z1 mu1 H1 sv sl → Stp Z mu M H Z1 mu1 M1 H1 → RD X.K Z1 mu1 H1 v d → XOk X sv Z1 mu1 M1 H1 r M' → g d M1 = some (r, M') → Q v H1) : wE X pe sv H Q := by
  cases e : f sl M with
  | none =>
    rw [e] at hf
    cases hf
  | some p =>
    obtain ⟨o, M1⟩ := p
    rw [e] at hf
    cases o with
    | ex er =>
      have hf' : some (Out.ex er, M1) = some (r, M') := hf
      cases hf'
      exact h sl M _ _ e sv H Z mu S L (x.conv fun e z => by cases z; rfl) Q fun d v Z' mu' H' z => nomatch z
    | ok d =>
      have hf' : g d M1 = some (r, M') := hf
      exact h sl M _ _ e sv H Z mu S L XOk.ok Q fun d' v Z1 mu1 H1 z S1 T1 R1 => by
        cases z
        exact k d M1 v Z1 mu1 H1 S1 (L.step S T1) T1 R1 (x.step T1) hf'
theorem STt.step {pe : Expr} {f : Slots → Store → R D} (h : STt X pe f) {g : D → Store → R β} (hf : (f sl M).bind g = some (r, M')) (hb : ∀ d M1 r, g d M1 = some r → (boolD d).isSome = true) (S : StOk X.K Z mu H M) (L : SlOk X.K Z mu H sv sl) (x : XOk X sv Z mu M H r M') {Q : Bool → Hp → Prop}
    (k : ∀ b M1 Z1 mu1 H1, StOk X.K Z1 mu1 H1 M1 → SlOk X.K Z1 mu1 H1 sv sl → Stp Z mu M H Z1 mu1 M1 H1 → XOk X sv Z1 mu1 M1 H1 r M' → g (.v (.bool b)) M1 = some (r, M') → Q b H1) : wT X pe sv H Q := by
  cases e : f sl M with
  | none =>
    rw [e] at hf
    cases hf
  | some p =>
    obtain ⟨o, M1⟩ := p
    rw [e] at hf
    cases o with
    | ex er =>
      have hf' : some (Out.ex er, M1) = some (r, M') := hf
      cases hf'
      exact h sl M _ _ e (fun d z => nomatch z) sv H Z mu S L (x.conv fun e z => by cases z; rfl) Q fun d Z' mu' H' z => nomatch z
    | ok d =>
      have hf' : g d M1 = some (r, M') := hf
      exact h sl M _ _ e (fun d' z => by cases z; exact hb d M1 _ hf') sv H Z mu S L XOk.ok Q fun b Z1 mu1 H1 z S1 T1 => by
        cases z
        exact k b M1 Z1 mu1 H1 S1 (L.step S T1) T1 (x.step T1) hf'
theorem SEs.step {pes : List Expr} {f : Slots → Store → R (List D)} (h : SEs X pes f) {g : List D → Store → R β} (hf : (f sl M).bind g = some (r, M')) (S : StOk X.K Z mu H M) (L : SlOk X.K Z mu H sv sl) (x : XOk X sv Z mu M H r M') {Q : List V → Hp → Prop}
    (k : ∀ ds M1 vs Z1 mu1 H1, StOk X.K Z1 mu1 H1 M1 → SlOk X.K Z1 mu1 H1 sv sl → Stp Z mu M H Z1 mu1 M1 H1 → RDs X.K Z1 mu1 H1 vs ds → XOk X sv Z1 mu1 M1 H1 r M' → g ds M1 = some (r, M') → Q vs H1) : wA X pes sv H Q := by
  cases e : f sl M with
  | none =>
    rw [e] at hf
    cases hf
  | some p =>
    obtain ⟨o, M1⟩ := p
    rw [e] at hf
    cases o with
    | ex er =>
      have hf' : some (Out.ex er, M1) = some (r, M') := hf
      cases hf'
      exact h sl M _ _ e sv H Z mu S L (x.conv fun e z => by cases z; rfl) Q fun d v Z' mu' H' z => nomatch z
    | ok d =>
      have hf' : g d M1 = some (r, M') := hf
      exact h sl M _ _ e sv H Z mu S L XOk.ok Q fun d' v Z1 mu1 H1 z S1 T1 R1 => by
        cases z
        exact k d M1 v Z1 mu1 H1 S1 (L.step S T1) T1 R1 (x.step T1) hf'
theorem need_eq {α β : Type} {o : Option α} {f : α → Option β} {b : β} (h : need o f = some b) : ∃ a, o = some a ∧ f a = some b := by
  cases o with
  | none => cases h
  | some a => exact ⟨a, rfl, h⟩
theorem guardO_eq {α : Type} {b : Bool} {a c : α} (h : guardO b a = some c) : b = true ∧ a = c := by
  unfold guardO at h
  split at h
  · rename_i e
    exact ⟨e, Option.some.inj h⟩
  · cases h
theorem ret_eq {α : Type} {a : α} {M M' : Store} {r : Out α} (h : retR a M = some (r, M')) : r = .ok a ∧ M' = M := by
  cases h
  exact ⟨rfl, rfl⟩
end

/-! ### what a value shows -/
section
variable {K : PySem.W.Frag} {Z Z' : Addr → Prop} {H H' : Hp} {mu : List Addr} {M : Store}
def Vw (K : PySem.W.Frag) (Z : Addr → Prop) (H : Hp) (v : V) (p : PyData) : Prop :=
  Rp K Z H v p ∨ ∃ a vs ps, v = .ref a ∧ p = .list ps ∧ H a = some (.lst vs) ∧ Rps K Z H vs ps
theorem RD.view (S : StOk K Z mu H M) {v : V} {d : D} {p : PyData} (r : RD K Z mu H v d) (e : Ev.view M d = some p) : Vw K Z H v p := by
  cases d with
  | v q =>
    cases r with
    | v r =>
      cases e
      exact .inl r
  | scr is => cases e
  | ref n =>
    cases r with
    | ref r =>
      unfold Ev.view at e
      dsimp only at e
      cases q : M[n]? with
      | none =>
        rw [q] at e
        cases e
      | some o =>
        rw [q] at e
        cases o with
        | none => cases e
        | some c =>
          obtain ⟨b, e1, h⟩ := S.cell n c q
          rw [r] at e1
          cases e1
          cases c with
          | lst xs =>
            obtain ⟨vs, e2, rs⟩ := h
            obtain ⟨ps, e3, e4⟩ := Option.map_eq_some_iff.mp (show (pures xs).map .list = some p from e)
            exact .inr ⟨_, vs, ps, rfl, e4.symm, e2, rs.pures e3⟩
          | dic _ => exact h.elim
          | ins _ _ => exact h.elim
theorem Vw.list {v : V} {ps : List PyData} (h : Vw K Z H v (.list ps)) : ∃ a vs, v = .ref a ∧ H a = some (.lst vs) ∧ Rps K Z H vs ps := by
  rcases h with h | ⟨a, vs, qs, rfl, e, h1, h2⟩
  · cases h with
    | lst _ h r => exact ⟨_, _, rfl, h, r⟩
  · cases e
    exact ⟨a, vs, rfl, h1, h2⟩
theorem Vw.tuple {v : V} {ps : List PyData} (h : Vw K Z H v (.tuple ps)) : ∃ a vs, v = .ref a ∧ SqT K H a vs ∧ Rps K Z H vs ps := by
  rcases h with h | ⟨a, vs, qs, rfl, e, h1, h2⟩
  · cases h with
    | tup h r => exact ⟨_, _, rfl, h, r⟩
  · cases e
theorem Vw.int {v : V} {i : Int} (h : Vw K Z H v (.int i)) : v = .int i := by
  rcases h with h | ⟨_, _, _, _, e, _⟩
  · cases h
    rfl
  · cases e
theorem Vw.str {v : V} {i : Str} (h : Vw K Z H v (.str i)) : v = .str i := by
  rcases h with h | ⟨_, _, _, _, e, _⟩
  · cases h
    rfl
  · cases e
theorem Vw.bool {v : V} {i : Bool} (h : Vw K Z H v (.bool i)) : v = .bl i := by
  rcases h with h | ⟨_, _, _, _, e, _⟩
  · cases h
    rfl
  · cases e
theorem Vw.seq {v : V} {p : PyData} {ps : List PyData} (h : Vw K Z H v p) (e : seqOf p = some ps) : ∃ a vs, v = .ref a ∧ (SqL K H a vs ∨ SqT K H a vs) ∧ Rps K Z H vs ps := by
  cases p with
  | list qs =>
    cases e
    obtain ⟨a, vs, h1, h2, h3⟩ := h.list
    exact ⟨a, vs, h1, .inl (.inl (.inl h2)), h3⟩
  | tuple qs =>
    cases e
    obtain ⟨a, vs, h1, h2, h3⟩ := h.tuple
    exact ⟨a, vs, h1, .inr h2, h3⟩
  | none => cases e
  | bool _ => cases e
  | int _ => cases e
  | str _ => cases e
  | dict _ => cases e
theorem Vw.dp {v : V} {p : PyData} (h : Vw K Z H v p) : Dp K H v p := by
  rcases h with h | ⟨a, vs, ps, rfl, rfl, h1, h2⟩
  · exact h.dp
  · exact .lst (.inl (.inl h1)) h2.dp
theorem Vw.step {mu' : List Addr} {M' : Store} (S : StOk K Z mu H M) (T : Stp Z mu M H Z' mu' M' H') {v : V} {p : PyData} (h : Rp K Z H v p) : Vw K Z' H' v p := .inl (h.step S T)
end

/-! ### operators -/
section
variable {X : Cx} {Z : Addr → Prop} {mu : List Addr} {M : Store} {H : Hp}
/-- what is wanted behind an operation that lays at most new objects -/
def Nw (X : Cx) (Z : Addr → Prop) (mu : List Addr) (M : Store) (H : Hp) (t : PyData) (Q : VK) : Prop :=
  ∀ v Z' H', StOk X.K Z' mu H' M → Stp Z mu M H Z' mu M H' → Rp X.K Z' H' v t → Q v H'
theorem Nw.same {t : PyData} {Q : VK} (S : StOk X.K Z mu H M) (n : Nw X Z mu M H t Q) {v : V} (r : Rp X.K Z H v t) : Q v H := n v Z H S (Stp.refl ..) r
theorem Nw.newL {ps : List PyData} {Q : VK} (S : StOk X.K Z mu H M) (n : Nw X Z mu M H (.list ps) Q) {vs : List V} (r : Rps X.K Z H vs ps) : ∀ p, H p = none → Q (.ref p) (upd H p (.lst vs)) :=
  fun p hp => n _ _ _ (S.laidZ hp) (Stp.laidZ S hp) (Rp.newL S hp r)
theorem Nw.newT {ps : List PyData} {Q : VK} (S : StOk X.K Z mu H M) (n : Nw X Z mu M H (.tuple ps) Q) {vs : List V} (r : Rps X.K Z H vs ps) : ∀ p, H p = none → Q (.ref p) (upd H p (.tup vs)) :=
  fun p hp => n _ _ _ (S.laid hp) (Stp.laid S hp) (Rp.newT S hp r)
theorem LIM_eq : LIM = sizeLine := rfl
theorem dec {p : Prop} [Decidable p] (h : decide p = true) : p := of_decide_eq_true h
theorem and2 {a b : Bool} (h : (a && b) = true) : a = true ∧ b = true := by
  cases a <;> cases b <;> first | exact ⟨rfl, rfl⟩ | cases h
theorem rep_len {α : Type} (xs : List α) (n : Nat) : (List.replicate n xs).flatten.length = n * xs.length := PyProof.Rows.lm_len_rep_flat ..

theorem op_fdivA : OpR X (binaryOp .FloorDiv) (rI (fun _ j => j ≠ 0 ∧ j.natAbs.log2 < 9000) fun i j => .int (i.fdiv j)) := opI fun _ _ _ _ _ _ _ hc q => floordiv_int hc.1 q (.inl (PyProof.noPylong_of_log2 hc.2))
theorem bin_ok (hc : X.calm = true) (hu : X.A.units + 64 < cLine) {o : Operator} {p q t : PyData} (e : binP o p q = some t) (S : StOk X.K Z mu H M) {x y : V} (hx : Vw X.K Z H x p) (hy : Vw X.K Z H y q) {Q : VK} (n : Nw X Z mu M H t Q) :
    w2 X (binaryOp o) x y H Q := by
  unfold binP at e
  split at e
  · cases e
    rw [hx.int, hy.int]
    exact w2_of op_add ⟨_, _, rfl, rfl, n.same S (.int _)⟩
  · obtain ⟨h1, rfl⟩ := guardO_eq e
    rw [hx.str, hy.str]
    exact w2_of op_add_str ⟨_, _, rfl, rfl, dec h1, n.same S (.str _)⟩
  · obtain ⟨h1, rfl⟩ := guardO_eq e
    obtain ⟨a, vs, rfl, ha, ra⟩ := hx.tuple
    obtain ⟨b, ws, rfl, hb, rb⟩ := hy.tuple
    refine w2_of op_catA ⟨a, b, vs, ws, rfl, rfl, ha, hb, by rw [ra.length, rb.length]; exact dec h1, fun z => ?_, fun z z2 => ?_, fun z z2 => n.newT S (ra.append rb)⟩
    · subst z
      cases ra
      exact n.same S (.tup hb rb)
    · subst z2
      cases rb
      refine n.same S (.tup ha ?_)
      rw [List.append_nil]
      exact ra
  · obtain ⟨h1, rfl⟩ := guardO_eq e
    obtain ⟨a, vs, rfl, ha, ra⟩ := hx.list
    obtain ⟨b, ws, rfl, hb, rb⟩ := hy.list
    exact w2_of op_cat ⟨a, b, vs, ws, rfl, rfl, ha, hb, by rw [ra.length, rb.length]; exact dec h1, n.newL S (ra.append rb)⟩
  · cases e
    rw [hx.int, hy.int]
    exact w2_of op_sub ⟨_, _, rfl, rfl, n.same S (.int _)⟩
  · obtain ⟨h1, rfl⟩ := guardO_eq e
    rw [hx.int, hy.int]
    have h2 : _ < 1000000 := dec h1
    exact w2_of op_mulW ⟨_, _, rfl, rfl, h2, n.same S (.int _)⟩
  · obtain ⟨h1, rfl⟩ := guardO_eq e
    obtain ⟨a, vs, rfl, ha, ra⟩ := hx.list
    rw [hy.int]
    obtain ⟨h2, h3⟩ := and2 h1
    obtain ⟨h4, h5⟩ := and2 h2
    exact w2_of op_rep ⟨a, _, vs, rfl, rfl, ha, dec h4, dec h5, by rw [ra.length]; exact dec h3, n.newL S (ra.rep _)⟩
  · cases e
  · obtain ⟨h1, rfl⟩ := guardO_eq e
    rw [hx.int, hy.int]
    obtain ⟨h3, h4⟩ := and2 h1
    exact w2_of op_fdivA ⟨_, _, rfl, rfl, ⟨dec h3, dec h4⟩, n.same S (.int _)⟩
  · obtain ⟨h1, rfl⟩ := guardO_eq e
    rw [hx.int, hy.int]
    exact w2_of op_modN ⟨_, _, rfl, rfl, dec h1, n.same S (.int _)⟩
  · obtain ⟨h1, rfl⟩ := guardO_eq e
    rw [hx.int, hy.int]
    obtain ⟨h2, h3⟩ := and2 h1
    obtain ⟨h4, h5⟩ := and2 h2
    exact w2_of op_pow ⟨_, _, rfl, rfl, ⟨dec h4, dec h5, dec h3⟩, n.same S (.int _)⟩
  · obtain ⟨h1, rfl⟩ := guardO_eq e
    rw [hx.int, hy.int]
    obtain ⟨h2, h3⟩ := and2 h1
    obtain ⟨h4, h5⟩ := and2 h2
    exact w2_of op_shl ⟨_, _, rfl, rfl, ⟨dec h4, dec h5, dec h3⟩, n.same S (.int _)⟩
  · obtain ⟨h1, rfl⟩ := guardO_eq e
    rw [hx.int, hy.int]
    exact w2_of op_shr ⟨_, _, rfl, rfl, dec h1, n.same S (.int _)⟩
  · cases e
    rw [hx.int, hy.int]
    exact w2_of op_and ⟨_, _, rfl, rfl, n.same S (.int _)⟩
  · cases e
    rw [hx.int, hy.int]
    exact w2_of op_or ⟨_, _, rfl, rfl, n.same S (.int _)⟩
  · cases e
    rw [hx.int, hy.int]
    exact w2_of op_xor ⟨_, _, rfl, rfl, n.same S (.int _)⟩
  · cases e
end
end Ev

set_option maxRecDepth 100000
set_option maxHeartbeats 1000000
namespace Ev
open PySem PySem.Spec PyProof.Rows L2
section
variable {X : Cx} {Z : Addr → Prop} {mu : List Addr} {M : Store} {H : Hp}

/-! ### comparisons -/
theorem isNon_eq {K : PySem.W.Frag} {v : V} {p : PyData} (h : Vw K Z H v p) : decide (v = .non) = isNon p := by
  rcases h with h | ⟨a, vs, ps, rfl, rfl, _⟩
  · cases h <;> first | rfl | exact decide_eq_false (fun z => nomatch z)
  · exact decide_eq_false (fun z => nomatch z)
theorem minDepth {a b n : Nat} (h : min a b ≤ 64) (hu : n + 66 < cLine) : n + min a b < cLine := by omega
theorem in_ok (hu : X.A.units + 66 < cLine) {p q : PyData} {b : Bool} (e : inP p q = some b) {x y : V} (hx : Vw X.K Z H x p) (hy : Vw X.K Z H y q) {Q : VK} (n : Q (.bl b) H) : w2 X (compareOp .In) x y H Q := by
  unfold inP at e
  split at e
  · obtain ⟨h1, rfl⟩ := guardO_eq e
    obtain ⟨h2, h3⟩ := and2 h1
    obtain ⟨h4, h5⟩ := and2 h2
    intro pins s sv u v I rx ry
    obtain ⟨as, r1⟩ := Dp.reads I _ _ _ hx.dp rx
    obtain ⟨bs, r2⟩ := Dp.reads I _ _ _ hy.dp ry
    exact SeqAt.in_list_reads r2 r1 h5 h4 (by have := dec h3; omega) ⟨.bl _, H, I, rfl, n⟩
  · obtain ⟨h1, rfl⟩ := guardO_eq e
    obtain ⟨h2, h3⟩ := and2 h1
    obtain ⟨h4, h5⟩ := and2 h2
    intro pins s sv u v I rx ry
    obtain ⟨as, r1⟩ := Dp.reads I _ _ _ hx.dp rx
    obtain ⟨bs, r2⟩ := Dp.reads I _ _ _ hy.dp ry
    exact SeqAt.in_tuple_reads r2 r1 h5 h4 (by have := dec h3; omega) ⟨.bl _, H, I, rfl, n⟩
  · split at e
    · cases e
      rw [hx.str, hy.str]
      exact w2_of op_in_str ⟨_, _, rfl, rfl, n⟩
    · cases e
  · cases e
theorem notIn_ok (hu : X.A.units + 66 < cLine) {p q : PyData} {b : Bool} (e : inP p q = some b) {x y : V} (hx : Vw X.K Z H x p) (hy : Vw X.K Z H y q) {Q : VK} (n : Q (.bl (!b)) H) : w2 X (compareOp .NotIn) x y H Q := by
  unfold inP at e
  split at e
  · obtain ⟨h1, rfl⟩ := guardO_eq e
    obtain ⟨h2, h3⟩ := and2 h1
    obtain ⟨h4, h5⟩ := and2 h2
    intro pins s sv u v I rx ry
    obtain ⟨as, r1⟩ := Dp.reads I _ _ _ hx.dp rx
    obtain ⟨bs, r2⟩ := Dp.reads I _ _ _ hy.dp ry
    exact SeqAt.notIn_list_reads r2 r1 h5 h4 (by have := dec h3; omega) ⟨.bl _, H, I, rfl, n⟩
  · obtain ⟨h1, rfl⟩ := guardO_eq e
    obtain ⟨h2, h3⟩ := and2 h1
    obtain ⟨h4, h5⟩ := and2 h2
    intro pins s sv u v I rx ry
    obtain ⟨as, r1⟩ := Dp.reads I _ _ _ hx.dp rx
    obtain ⟨bs, r2⟩ := Dp.reads I _ _ _ hy.dp ry
    exact SeqAt.notIn_tuple_reads r2 r1 h5 h4 (by have := dec h3; omega) ⟨.bl _, H, I, rfl, n⟩
  · split at e
    · cases e
      rw [hx.str, hy.str]
      exact w2_of op_notin_str ⟨_, _, rfl, rfl, n⟩
    · cases e
  · cases e
theorem cmp_ok (hu : X.A.units + 66 < cLine) {o : CmpOp} {p q : PyData} {b : Bool} (e : cmpB o p q = some b) {x y : V} (hx : Vw X.K Z H x p) (hy : Vw X.K Z H y q) {Q : VK} (n : Q (.bl b) H) : w2 X (compareOp o) x y H Q := by
  unfold cmpB at e
  split at e
  · cases e
    rw [hx.int, hy.int]
    refine w2_of op_eq ⟨rfl, ?_⟩
    rename_i a b
    have : decide (V.int a = V.int b) = decide (a = b) := by simp
    rw [this]
    exact n
  · cases e
    rw [hx.str, hy.str]
    refine w2_of op_eq ⟨rfl, ?_⟩
    rename_i a b
    have : decide (V.str a = V.str b) = decide (a = b) := by simp
    rw [this]
    exact n
  · cases e
    rw [hx.int, hy.int]
    refine w2_of op_ne ⟨rfl, ?_⟩
    rename_i a b
    have : decide (V.int a = V.int b) = decide (a = b) := by simp
    rw [this]
    exact n
  · cases e
    rw [hx.str, hy.str]
    refine w2_of op_ne ⟨rfl, ?_⟩
    rename_i a b
    have : decide (V.str a = V.str b) = decide (a = b) := by simp
    rw [this]
    exact n
  · obtain ⟨h1, rfl⟩ := guardO_eq e
    obtain ⟨h2, h3⟩ := and2 h1
    obtain ⟨h4, h5⟩ := and2 h2
    intro pins s sv u v I rx ry
    obtain ⟨as, r1⟩ := Dp.reads I _ _ _ hx.dp rx
    obtain ⟨bs, r2⟩ := Dp.reads I _ _ _ hy.dp ry
    exact SeqAt.compareEq_reads r1 r2 h4 h5 (by have := dec h3; omega) ⟨.bl _, H, I, rfl, n⟩
  · obtain ⟨h1, rfl⟩ := guardO_eq e
    obtain ⟨h2, h3⟩ := and2 h1
    obtain ⟨h4, h5⟩ := and2 h2
    intro pins s sv u v I rx ry
    obtain ⟨as, r1⟩ := Dp.reads I _ _ _ hx.dp rx
    obtain ⟨bs, r2⟩ := Dp.reads I _ _ _ hy.dp ry
    exact SeqAt.compareNe_reads r1 r2 h4 h5 (by have := dec h3; omega) ⟨.bl _, H, I, rfl, n⟩
  · cases e
    rw [hx.int, hy.int]
    exact w2_of op_lt ⟨_, _, rfl, rfl, n⟩
  · cases e
    rw [hx.int, hy.int]
    exact w2_of op_le ⟨_, _, rfl, rfl, n⟩
  · cases e
    rw [hx.int, hy.int]
    exact w2_of op_gt ⟨_, _, rfl, rfl, n⟩
  · cases e
    rw [hx.int, hy.int]
    exact w2_of op_ge ⟨_, _, rfl, rfl, n⟩
  · cases e
    rw [hx.str, hy.str]
    exact w2_of op_lt_str ⟨_, _, rfl, rfl, n⟩
  · cases e
    rw [hx.str, hy.str]
    exact w2_of op_le_str ⟨_, _, rfl, rfl, n⟩
  · exact in_ok hu e hx hy n
  · obtain ⟨c, e1, e2⟩ := Option.map_eq_some_iff.mp e
    refine notIn_ok hu e1 hx hy ?_
    rw [e2]
    exact n
  · cases e
    have hn : y = .non := by
      rcases hy with h | ⟨_, _, _, _, z, _⟩
      · cases h
        rfl
      · cases z
    refine w2_of op_isN ⟨hn, ?_⟩
    rw [isNon_eq hx]
    exact n
  · cases e
    have hn : y = .non := by
      rcases hy with h | ⟨_, _, _, _, z, _⟩
      · cases h
        rfl
      · cases z
    refine w2_of op_notN ⟨hn, ?_⟩
    rw [isNon_eq hx]
    exact n
  · cases e

/-! ### subscripts -/
theorem atI_len {α β : Type} {xs : List α} {ys : List β} (h : xs.length = ys.length) {i : Int} {y : β} (e : atI ys i = some y) : ∃ j, ixN xs.length i = some j ∧ ys[j]? = some y := by
  unfold atI at e
  rw [← h] at e
  exact Option.bind_eq_some_iff.mp e
theorem Rps.atI {K : PySem.W.Frag} {vs : List V} {ps : List PyData} (r : Rps K Z H vs ps) {i : Int} {p : PyData} (e : L2.atI ps i = some p) : ∃ v, L2.atI vs i = some v ∧ Rp K Z H v p := by
  obtain ⟨j, e1, e2⟩ := atI_len r.length e
  obtain ⟨v, h1, h2⟩ := r.get e2
  exact ⟨v, by unfold L2.atI; rw [e1]; exact h1, h2⟩
theorem RDs.atI {K : PySem.W.Frag} {vs : List V} {ds : List D} (r : RDs K Z mu H vs ds) {i : Int} {d : D} (e : L2.atI ds i = some d) : ∃ v, L2.atI vs i = some v ∧ RD K Z mu H v d := by
  obtain ⟨j, e1, e2⟩ := atI_len r.length e
  obtain ⟨v, h1, h2⟩ := r.get e2
  exact ⟨v, by unfold L2.atI; rw [e1]; exact h1, h2⟩
theorem plainIx_of {b : Expr} (h : ∀ a c d p, b ≠ .Slice a c d p) : PlainIx b := fun o i => by
  cases b with
  | Slice a c d p => exact absurd rfl (h a c d p)
  | _ => rfl
/-- the three kinds of things that are read by a place -/
def rIx3 (K : PySem.W.Frag) : R2 := rIx K
theorem ix_ok (S : StOk X.K Z mu H M) {x y d : D} (e : ixD M x y = some d) {u v : V} (hx : RD X.K Z mu H u x) (hy : RD X.K Z mu H v y) {Q : VK} (n : ∀ w, RD X.K Z mu H w d → Q w H) : rIx X.K u v H Q := by
  unfold ixD at e
  split at e
  · obtain ⟨p, e1, rfl⟩ := Option.map_eq_some_iff.mp e
    cases hx with
    | v hx =>
      cases hy with
      | v hy =>
        cases hy
        cases hx with
        | lst z h r =>
          obtain ⟨w, h1, h2⟩ := r.atI e1
          exact .inl ⟨_, _, _, w, rfl, rfl, .inl (.inl h), h1, n w (.v h2)⟩
  · obtain ⟨p, e1, rfl⟩ := Option.map_eq_some_iff.mp e
    cases hx with
    | v hx =>
      cases hy with
      | v hy =>
        cases hy
        cases hx with
        | tup h r =>
          obtain ⟨w, h1, h2⟩ := r.atI e1
          exact .inr (.inl ⟨_, _, _, w, rfl, rfl, h, h1, n w (.v h2)⟩)
  · obtain ⟨c, e1, e2⟩ := need_eq e
    obtain ⟨h1, rfl⟩ := guardO_eq e2
    cases hx with
    | v hx =>
      cases hy with
      | v hy =>
        cases hy
        cases hx
        exact .inr (.inr ⟨_, _, c, rfl, rfl, dec h1, e1, n _ (.v (.str _))⟩)
  · cases hx with
    | ref hx =>
      cases hy with
      | v hy =>
        cases hy
        rename_i _ r _ _
        cases q : M[r]? with
        | none =>
          rw [q] at e
          cases e
        | some o =>
          rw [q] at e
          cases o with
          | none => cases e
          | some c =>
            obtain ⟨b, e1, h⟩ := S.cell r c q
            rw [hx] at e1
            cases e1
            cases c with
            | lst xs =>
              obtain ⟨vs, e2, rs⟩ := h
              obtain ⟨w, h1, h2⟩ := rs.atI e
              exact .inl ⟨_, _, _, w, rfl, rfl, .inl (.inl e2), h1, n w h2⟩
            | dic _ => exact h.elim
            | ins _ _ => exact h.elim
  · cases e

/-! ### slices -/
theorem cutV_map (is : List Int) (lo hi : Option Int) : cutV (is.map V.int) lo hi = (Ev.cut is lo hi).map V.int := by
  unfold cutV Ev.cut
  rw [List.length_map, List.map_take, List.map_drop]
theorem Rps.ofInts {K : PySem.W.Frag} : ∀ is : List Int, Rps K Z H (is.map V.int) (is.map .int)
  | [] => .nil
  | i :: r => .cons (.int i) (Rps.ofInts r)
theorem sl_ok (S : StOk X.K Z mu H M) {x : D} {lo hi : Option Int} {t : PyData} (e : slD M x lo hi = some t) {u : V} (hx : RD X.K Z mu H u x) {Q : VK} (n : Nw X Z mu M H t Q) :
    (rSlL X.K u lo hi H Q ∨ rSlA X.K u lo hi H Q ∨ rSlS u lo hi H Q) := by
  unfold slD at e
  split at e
  · cases e
    cases hx with
    | scr h =>
      refine .inl ⟨_, _, rfl, h.sq, fun p hp => ?_⟩
      rw [cutV_map]
      exact n.newL S (Rps.ofInts _) p hp
  · obtain ⟨p, e1, e2⟩ := need_eq e
    have hv := hx.view S e1
    unfold slP at e2
    split at e2
    · cases e2
      obtain ⟨a, vs, rfl, h1, r1⟩ := hv.list
      exact .inl ⟨a, vs, rfl, .inl (.inl h1), n.newL S (r1.cut lo hi)⟩
    · cases e2
      obtain ⟨a, vs, rfl, h1, r1⟩ := hv.tuple
      refine .inr (.inl ⟨a, vs, rfl, h1, fun hw => ?_, fun _ => n.newT S (r1.cut lo hi)⟩)
      refine n.same S (.tup h1 ?_)
      unfold Ev.cut
      rw [← r1.length, hw.1, hw.2]
      rw [List.drop_zero, Nat.sub_zero, r1.length, List.take_length]
      exact r1
    · obtain ⟨h1, rfl⟩ := guardO_eq e2
      rw [hv.str]
      exact .inr (.inr ⟨_, rfl, dec h1, n.same S (.str _)⟩)
    · cases e2
theorem sl3 : SlR X (fun x lo hi H Q => rSlL X.K x lo hi H Q ∨ rSlA X.K x lo hi H Q ∨ rSlS x lo hi H Q) := sl_list.or (sl_tupA.or sl_str)

/-! ### built-ins -/
def biName : Bi → Str
  | .len => "len" | .int => "int" | .abs => "abs" | .max => "max" | .min => "min" | .sum => "sum" | .all => "all" | .any => "any" | .tuple => "tuple" | .list => "list" | .sorted => "sorted" | .str => "str" | .repr => "repr" | .lset => "set" | .dict => "dict"
def biVal : Bi → Value
  | .len => .builtin "len" | .int => .type "int" | .abs => .builtin "abs" | .max => .builtin "max" | .min => .builtin "min" | .sum => .builtin "sum" | .all => .builtin "all" | .any => .builtin "any" | .tuple => .type "tuple" | .list => .type "list"
  | .sorted => .builtin "sorted" | .str => .type "str" | .repr => .builtin "repr" | .lset => .type "set" | .dict => .type "dict"
theorem biBoot (b : Bi) : bootBuiltins (biName b) = some (biVal b) := by
  cases b <;> decide +kernel
inductive Vws (K : PySem.W.Frag) (Z : Addr → Prop) (H : Hp) : List V → List PyData → Prop
  | nil : Vws K Z H [] []
  | cons {v : V} {vs : List V} {p : PyData} {ps : List PyData} : Vw K Z H v p → Vws K Z H vs ps → Vws K Z H (v :: vs) (p :: ps)
theorem max_fold : ∀ (r : List Int) (i : Int), (r.foldl (fun a b => if b > a then b else a) i) ∈ i :: r ∧ ∀ y ∈ i :: r, y ≤ r.foldl (fun a b => if b > a then b else a) i
  | [], i => ⟨List.mem_cons_self, fun y h => by simp at h; rw [h]; exact Int.le_refl _⟩
  | j :: r, i => by
    obtain ⟨h1, h2⟩ := max_fold r (if j > i then j else i)
    refine ⟨?_, fun y hy => ?_⟩
    · show List.foldl _ (if j > i then j else i) r ∈ _
      rcases List.mem_cons.mp h1 with h1 | h1
      · rw [h1]
        split
        · exact List.mem_cons_of_mem _ List.mem_cons_self
        · exact List.mem_cons_self
      · exact List.mem_cons_of_mem _ (List.mem_cons_of_mem _ h1)
    · show y ≤ List.foldl _ (if j > i then j else i) r
      have h3 := h2 _ List.mem_cons_self
      rcases List.mem_cons.mp hy with rfl | hy
      · split at h3 <;> split <;> omega
      · rcases List.mem_cons.mp hy with rfl | hy
        · split at h3 <;> split <;> omega
        · exact h2 y (List.mem_cons_of_mem _ hy)
theorem min_fold : ∀ (r : List Int) (i : Int), (r.foldl (fun a b => if b < a then b else a) i) ∈ i :: r ∧ ∀ y ∈ i :: r, r.foldl (fun a b => if b < a then b else a) i ≤ y
  | [], i => ⟨List.mem_cons_self, fun y h => by simp at h; rw [h]; exact Int.le_refl _⟩
  | j :: r, i => by
    obtain ⟨h1, h2⟩ := min_fold r (if j < i then j else i)
    refine ⟨?_, fun y hy => ?_⟩
    · show List.foldl _ (if j < i then j else i) r ∈ _
      rcases List.mem_cons.mp h1 with h1 | h1
      · rw [h1]
        split
        · exact List.mem_cons_of_mem _ List.mem_cons_self
        · exact List.mem_cons_self
      · exact List.mem_cons_of_mem _ (List.mem_cons_of_mem _ h1)
    · show List.foldl _ (if j < i then j else i) r ≤ y
      have h3 := h2 _ List.mem_cons_self
      rcases List.mem_cons.mp hy with rfl | hy
      · split at h3 <;> split <;> omega
      · rcases List.mem_cons.mp hy with rfl | hy
        · split at h3 <;> split <;> omega
        · exact h2 y (List.mem_cons_of_mem _ hy)
theorem maxI_uniq {is : List Int} {m : Int} (e : maxI is = some m) {m' : Int} (h : m' ∈ is) (h' : ∀ y ∈ is, y ≤ m') : m' = m := by
  cases is with
  | nil => cases e
  | cons i r =>
    cases e
    obtain ⟨h1, h2⟩ := max_fold r i
    exact Int.le_antisymm (h2 _ h) (h' _ h1)
theorem minI_uniq {is : List Int} {m : Int} (e : minI is = some m) {m' : Int} (h : m' ∈ is) (h' : ∀ y ∈ is, m' ≤ y) : m' = m := by
  cases is with
  | nil => cases e
  | cons i r =>
    cases e
    obtain ⟨h1, h2⟩ := min_fold r i
    exact Int.le_antisymm (h' _ h1) (h2 _ h)
theorem Vws.one {K : PySem.W.Frag} {xs : List V} {p : PyData} (h : Vws K Z H xs [p]) : ∃ x, xs = [x] ∧ Vw K Z H x p := by
  cases h with
  | cons h t =>
    cases t
    exact ⟨_, rfl, h⟩
theorem Vws.two {K : PySem.W.Frag} {xs : List V} {p q : PyData} (h : Vws K Z H xs [p, q]) : ∃ x y, xs = [x, y] ∧ Vw K Z H x p ∧ Vw K Z H y q := by
  cases h with
  | cons h t =>
    cases t with
    | cons h2 t =>
      cases t
      exact ⟨_, _, rfl, h, h2⟩
theorem Vw.ints {K : PySem.W.Frag} {v : V} {ps : List PyData} {is : List Int} (h : Vw K Z H v (.list ps)) (e : intsOf ps = some is) : ∃ a, v = .ref a ∧ H a = some (.lst (is.map V.int)) := by
  obtain ⟨a, vs, h1, h2, h3⟩ := h.list
  rw [intsOf_eq e] at h3
  rw [h3.ints] at h2
  exact ⟨a, h1, h2⟩
theorem Vw.bls {K : PySem.W.Frag} {v : V} {ps : List PyData} {is : List Bool} (h : Vw K Z H v (.list ps)) (e : boolsOf ps = some is) : ∃ a, v = .ref a ∧ H a = some (.lst (is.map V.bl)) := by
  obtain ⟨a, vs, h1, h2, h3⟩ := h.list
  rw [boolsOf_eq e] at h3
  rw [h3.bls] at h2
  exact ⟨a, h1, h2⟩
/-- repr(x) -/
theorem repr_ok (hg : X.A.guards = some []) (hu : X.A.units + 66 < cLine) {p : PyData} (h1 : p.showable = true) (h2 : p.canLay0 = true) (h3 : p.depth ≤ 64) (h4 : p.shown.length ≤ sizeLine) {x : V} (hx : Vw X.K Z H x p) {Q : VK} (n : Q (.str p.shown) H) : wC X (.builtin "repr") [x] H Q := by
  intro pins s sv us I r
  cases r with
  | cons r t =>
    cases t
    rename_i u
    obtain ⟨as, rd⟩ := Dp.reads I _ _ _ hx.dp r
    cases rd with
    | none =>
      exact PySem.P.repr_of_none ⟨.str _, H, I.tok _, ⟨_, rfl⟩, n⟩
    | bool b =>
      refine PySem.P.repr_of_bool ⟨.str _, H, I.tok _, ⟨_, rfl⟩, ?_⟩
      cases b <;> exact n
    | int i t =>
      have h5 : i.natAbs.log2 < 1920 := by
        have : decide (i.natAbs.log2 < 1920) = true := by simpa [PyData.showable] using h1
        exact dec this
      exact PySem.P.repr_of_int h5 ⟨.str _, H, I.tok _, ⟨_, rfl⟩, n⟩
    | str z t => exact PySem.P.repr_of_str ⟨.str _, H, I.tok _, ⟨_, rfl⟩, n⟩ h4
    | list a b c d =>
      exact repr_of_reads' (.list a b c d) h1 (PyData.noDict_hsm (PyData.hasDict_of_canLay _ h2)) hg (by omega) (fun _ _ e => e) (fun h' u tk hk => ⟨.str _, H, I.kept hk, ⟨_, rfl⟩, n⟩) h4
    | tuple a b c d =>
      exact repr_of_reads' (.tuple a b c d) h1 (PyData.noDict_hsm (PyData.hasDict_of_canLay _ h2)) hg (by omega) (fun _ _ e => e) (fun h' u tk hk => ⟨.str _, H, I.kept hk, ⟨_, rfl⟩, n⟩) h4
    | dict a b c d e => simp [PyData.canLay0] at h2
theorem bi_ok (hc : X.calm = true) (hg : X.A.guards = some []) (hu : X.A.units + 66 < cLine) {b : Bi} {ps : List PyData} {t : PyData} (e : biP b ps = some t) (S : StOk X.K Z mu H M) {xs : List V} (hx : Vws X.K Z H xs ps) {Q : VK} (n : Nw X Z mu M H t Q) :
    wC X (biVal b) xs H Q := by
  unfold biP at e
  split at e
  · cases e
    obtain ⟨x, rfl, hv⟩ := hx.one
    obtain ⟨a, vs, rfl, h1, r1⟩ := hv.list
    refine wC_of call_len_seq ⟨a, vs, rfl, .inl (.inl (.inl h1)), ?_⟩
    rw [r1.length]
    exact n.same S (.int _)
  · cases e
    obtain ⟨x, rfl, hv⟩ := hx.one
    obtain ⟨a, vs, rfl, h1, r1⟩ := hv.tuple
    refine wC_of call_len_seq ⟨a, vs, rfl, .inr h1, ?_⟩
    rw [r1.length]
    exact n.same S (.int _)
  · obtain ⟨h1, rfl⟩ := guardO_eq e
    obtain ⟨x, rfl, hv⟩ := hx.one
    rw [hv.str]
    exact wC_of call_len_str ⟨_, rfl, dec h1, n.same S (.int _)⟩
  · cases e
    obtain ⟨x, rfl, hv⟩ := hx.one
    rw [hv.int]
    exact wC_of call_int1 (.inl ⟨_, rfl, n.same S (.int _)⟩)
  · cases e
    obtain ⟨x, rfl, hv⟩ := hx.one
    rw [hv.bool]
    exact wC_of call_int1 (.inr ⟨_, rfl, n.same S (.int _)⟩)
  · cases e
    obtain ⟨x, rfl, hv⟩ := hx.one
    rw [hv.int]
    exact wC_of call_abs ⟨_, rfl, n.same S (.int _)⟩
  · cases e
    obtain ⟨x, y, rfl, hv, hy⟩ := hx.two
    rw [hv.int, hy.int]
    exact wC_of (call_max2 hc) ⟨_, _, rfl, n.same S (.int _)⟩
  · cases e
    obtain ⟨x, y, rfl, hv, hy⟩ := hx.two
    rw [hv.int, hy.int]
    exact wC_of (call_min2 hc) ⟨_, _, rfl, n.same S (.int _)⟩
  · obtain ⟨x, rfl, hv⟩ := hx.one
    obtain ⟨is, e2, e3⟩ := need_eq e
    obtain ⟨m, e4, rfl⟩ := Option.map_eq_some_iff.mp e3
    obtain ⟨a, rfl, h1⟩ := hv.ints e2
    refine wC_of (cr_max hc) ⟨a, is, rfl, .inl (.inl h1), ?_, fun m' h2 h3 => ?_⟩
    · cases is with
      | nil => cases e4
      | cons _ _ => exact Nat.succ_pos _
    · rw [maxI_uniq e4 h2 h3]
      exact n.same S (.int _)
  · obtain ⟨x, rfl, hv⟩ := hx.one
    obtain ⟨is, e2, e3⟩ := need_eq e
    obtain ⟨m, e4, rfl⟩ := Option.map_eq_some_iff.mp e3
    obtain ⟨a, rfl, h1⟩ := hv.ints e2
    refine wC_of (cr_min hc) ⟨a, is, rfl, .inl (.inl h1), ?_, fun m' h2 h3 => ?_⟩
    · cases is with
      | nil => cases e4
      | cons _ _ => exact Nat.succ_pos _
    · rw [minI_uniq e4 h2 h3]
      exact n.same S (.int _)
  · obtain ⟨x, rfl, hv⟩ := hx.one
    obtain ⟨is, e2, e3⟩ := need_eq e
    cases e3
    obtain ⟨a, rfl, h1⟩ := hv.ints e2
    exact wC_of (cr_sum hc) ⟨a, is, rfl, .inl (.inl h1), n.same S (.int _)⟩
  · obtain ⟨x, rfl, hv⟩ := hx.one
    obtain ⟨is, e2, e3⟩ := need_eq e
    cases e3
    obtain ⟨a, rfl, h1⟩ := hv.bls e2
    exact wC_of (cr_all hc) ⟨a, is, rfl, .inl (.inl h1), n.same S (.bl _)⟩
  · obtain ⟨x, rfl, hv⟩ := hx.one
    obtain ⟨is, e2, e3⟩ := need_eq e
    cases e3
    obtain ⟨a, rfl, h1⟩ := hv.bls e2
    exact wC_of (cr_any hc) ⟨a, is, rfl, .inl (.inl h1), n.same S (.bl _)⟩
  · obtain ⟨x, rfl, hv⟩ := hx.one
    cases e
    obtain ⟨a, vs, rfl, h1, r1⟩ := hv.list
    exact wC_of call_tuple_of ⟨a, vs, rfl, .inl ⟨.inl (.inl h1), n.newT S r1⟩⟩
  · obtain ⟨x, rfl, hv⟩ := hx.one
    cases e
    obtain ⟨a, vs, rfl, h1, r1⟩ := hv.tuple
    exact wC_of call_tuple_of ⟨a, vs, rfl, .inr ⟨h1, n.same S (.tup h1 r1)⟩⟩
  · obtain ⟨x, rfl, hv⟩ := hx.one
    obtain ⟨qs, e1, rfl⟩ := Option.map_eq_some_iff.mp e
    obtain ⟨a, vs, rfl, h1, r1⟩ := hv.seq e1
    exact wC_of call_list_of ⟨a, vs, rfl, h1, n.newL S r1⟩
  · obtain ⟨h1, rfl⟩ := guardO_eq e
    obtain ⟨x, rfl, hv⟩ := hx.one
    rw [hv.int]
    exact wC_of call_str_int ⟨_, rfl, dec h1, n.same S (.str _)⟩
  · obtain ⟨h1, rfl⟩ := guardO_eq e
    obtain ⟨x, rfl, hv⟩ := hx.one
    obtain ⟨h2, h5⟩ := and2 h1
    obtain ⟨h3, h6⟩ := and2 h2
    obtain ⟨h4, h7⟩ := and2 h3
    exact repr_ok hg hu h4 h7 (dec h6) (dec h5) hv (n.same S (.str _))
  · cases e
end
end Ev

set_option maxRecDepth 100000
set_option maxHeartbeats 1000000
namespace Ev
open PySem PySem.Spec PyProof.Rows L2
section
variable {X : Cx} {G : Sig} {pos : Pos}

/-- the context of a body: what every rule may lean on -/
structure Ctx0 (X : Cx) (kk : Nat) : Prop where
  calm : X.calm = true
  room : Room kk X.A
  g : X.A.guards = some []
  nd : X.N.Nodup
theorem Ctx0.un {kk : Nat} (c : Ctx0 X kk) : X.A.units + 66 < cLine := by have := c.room.un; omega

theorem se_v {i : Nat} {x : Str} (hN : X.N[i]? = some x) (hv : Vis X.env.scope x) (hd : (x == ("__debug__" : Str)) = false) (hcd : (x == ("__classdict__" : Str)) = false) :
    SE X (.Name x pos) (fun sl M => evE G (.v i) sl M) := by
  intro sl M r M' hf sv H Z mu S L xo Q k
  unfold evE at hf
  dsimp only at hf
  split at hf
  · rename_i d e
    obtain ⟨rfl, rfl⟩ := ret_eq hf
    obtain ⟨v, e1, q⟩ := L.at_ i d e
    exact wE_of (pe_var hN hv hd hcd) ⟨v, e1, k d v Z mu H rfl S (Stp.refl ..) q⟩
  · cases hf
theorem se_const {c : Const} {j : Nat} {p : PyData} (h : (c = .int 0 ∧ False) ∨ (match c, p with
    | .none, .none => True
    | .bool b, .bool b' => b = b'
    | .int b, .int b' => b = b'
    | .str b, .str b' => b = b'
    | _, _ => False)) : SE X (.Constant c j pos) (fun sl M => evE G (.k p) sl M) := by
  intro sl M r M' hf sv H Z mu S L xo Q k
  unfold evE at hf
  obtain ⟨rfl, rfl⟩ := ret_eq hf
  have k2 := fun v q => k (.v p) v Z mu H rfl S (Stp.refl ..) (.v q)
  rcases h with h | h
  · exact h.2.elim
  · split at h
    · exact wE_of pe_non (k2 _ .non)
    · subst h
      exact wE_of pe_bl (k2 _ (.bl _))
    · subst h
      exact wE_of pe_int (k2 _ (.int _))
    · subst h
      exact wE_of pe_str (k2 _ (.str _))
    · exact h.elim
theorem se_glob {x : Str} (hg : Gl X x) (hd : (x == ("__debug__" : Str)) = false) (h : ∀ p, G.glob x = some p → ∃ u v, X.mg x = some u ∧ RelV v u ∧ ∀ Z H, Rp X.K Z H v p) :
    SE X (.Name x pos) (fun sl M => evE G (.g x) sl M) := by
  intro sl M r M' hf sv H Z mu S L xo Q k
  unfold evE at hf
  obtain ⟨p, e1, e2⟩ := need_eq hf
  obtain ⟨rfl, rfl⟩ := ret_eq e2
  obtain ⟨u, v, h1, h2, h3⟩ := h p e1
  exact wE_of (pe_glob hg h1 h2 hd) (k _ v Z mu H rfl S (Stp.refl ..) (.v (h3 _ _)))
theorem ses_nil : SEs X [] (fun sl M => evEs G .nil sl M) := by
  intro sl M r M' hf sv H Z mu S L xo Q k
  unfold evEs at hf
  obtain ⟨rfl, rfl⟩ := ret_eq hf
  exact wA_of pa_nil (k [] [] Z mu H rfl S (Stp.refl ..) .nil)
theorem ses_cons {pe : Expr} {pes : List Expr} {e es : E} (he : SE X pe (fun sl M => evE G e sl M)) (hes : SEs X pes (fun sl M => evEs G es sl M)) (hs : starEach (pe :: pes) X.env = (false, eval pe X.env) :: starEach pes X.env) :
    SEs X (pe :: pes) (fun sl M => evEs G (.cons e es) sl M) := by
  intro sl M r M' hf sv H Z mu S L xo Q k
  unfold evEs at hf
  refine wA_of (pa_cons (pe_w X pe) (pa_w X pes) hs) ?_
  refine he.step hf S L xo fun d M1 v Z1 mu1 H1 S1 L1 T1 R1 xo1 hf1 => ?_
  refine hes.step hf1 S1 L1 xo1 fun ds M2 vs Z2 mu2 H2 S2 L2 T2 R2 xo2 hf2 => ?_
  obtain ⟨rfl, rfl⟩ := ret_eq hf2
  exact k _ _ Z2 mu2 H2 rfl S2 (T1.trans T2) (.cons (R1.step S1 T2) R2)
theorem ses_star {pe : Expr} {pes : List Expr} {e es : E} {p : Pos} (he : SE X pe (fun sl M => evE G e sl M)) (hes : SEs X pes (fun sl M => evEs G es sl M)) (hs : starEach (.Starred pe p :: pes) X.env = (true, eval pe X.env) :: starEach pes X.env) :
    SEs X (.Starred pe p :: pes) (fun sl M => evEs G (.conss e es) sl M) := by
  intro sl M r M' hf sv H Z mu S L xo Q k
  unfold evEs at hf
  refine wA_of (StX.pa_star (pe_w X pe) (pa_w X pes) hs) ?_
  refine he.step hf S L xo fun d M1 v Z1 mu1 H1 S1 L1 T1 R1 xo1 hf1 => ?_
  obtain ⟨q, e1, hf2⟩ := need_eq hf1
  obtain ⟨ps, e2, hf3⟩ := need_eq hf2
  obtain ⟨a, ws, rfl, h1, r1⟩ := (R1.view S1 e1).seq e2
  refine ⟨a, ws, rfl, h1.symm, ?_⟩
  refine hes.step hf3 S1 L1 xo1 fun ds M2 vs Z2 mu2 H2 S2 L2 T2 R2 xo2 hf2 => ?_
  obtain ⟨rfl, rfl⟩ := ret_eq hf2
  exact k _ _ Z2 mu2 H2 rfl S2 (T1.trans T2) (RDs.append (RDs.ofRps (r1.step S1 T2)) R2)
theorem se_tup {pes : List Expr} {es : E} {j : Nat} (hes : SEs X pes (fun sl M => evEs G es sl M)) : SE X (.Tuple pes j pos) (fun sl M => evE G (.tup es) sl M) := by
  intro sl M r M' hf sv H Z mu S L xo Q k
  unfold evE at hf
  refine wE_of (pe_tup (pa_w X pes)) ?_
  refine hes.step hf S L xo fun ds M1 vs Z1 mu1 H1 S1 L1 T1 R1 xo1 hf1 => ?_
  obtain ⟨ps, e1, hf2⟩ := need_eq hf1
  split at hf2
  · rename_i hle
    obtain ⟨rfl, rfl⟩ := ret_eq hf2
    have r1 := R1.pures e1
    refine ⟨by rw [r1.length]; exact hle, fun p hp => ?_⟩
    exact k _ _ Z1 mu1 _ rfl (S1.laid hp) (T1.trans (Stp.laid S1 hp)) (.v (Rp.newT S1 hp r1))
  · cases hf2
/-- a new list at p becomes a value or a cell -/
theorem mkL_ok {al : Bool} {ds : List D} {M M' : Store} {r : Out D} (hf : mkL al ds M = some (r, M')) {Z : Addr → Prop} {mu : List Addr} {H : Hp} (S : StOk X.K Z mu H M) {vs : List V} (R : RDs X.K Z mu H vs ds) {Q : VK}
    (k : ∀ d v Z' mu' H', r = .ok d → StOk X.K Z' mu' H' M' → Stp Z mu M H Z' mu' M' H' → RD X.K Z' mu' H' v d → Q v H') : ∀ p, H p = none → Q (.ref p) (upd H p (.lst vs)) := by
  intro p hp
  unfold mkL at hf
  cases al with
  | true =>
    obtain ⟨rfl, rfl⟩ := ret_eq hf
    refine k _ _ Z (mu ++ [p]) _ rfl (S.newC hp R) (Stp.newC S hp) (.ref ?_)
    rw [← S.len]
    exact getElem?_snoc_last
  | false =>
    obtain ⟨ps, e1, hf2⟩ := need_eq hf
    obtain ⟨rfl, rfl⟩ := ret_eq hf2
    exact k _ _ (Zp Z p) mu _ rfl (S.laidZ hp) (Stp.laidZ S hp) (.v (Rp.newL S hp (R.pures e1)))
theorem se_lst {al : Bool} {pes : List Expr} {es : E} (hes : SEs X pes (fun sl M => evEs G es sl M)) : SE X (.List pes pos) (fun sl M => evE G (.lst al es) sl M) := by
  intro sl M r M' hf sv H Z mu S L xo Q k
  unfold evE at hf
  refine wE_of (pe_lst (pa_w X pes)) ?_
  refine hes.step hf S L xo fun ds M1 vs Z1 mu1 H1 S1 L1 T1 R1 xo1 hf1 => ?_
  split at hf1
  · rename_i hle
    exact ⟨by rw [R1.length]; exact hle, mkL_ok hf1 S1 R1 fun d v Z' mu' H' e S' T' R' => k d v Z' mu' H' e S' (T1.trans T') R'⟩
  · cases hf1
theorem se_bin {kk : Nat} (c : Ctx0 X kk) {o : Operator} {a b : Expr} {ea eb : E} (ha : SE X a (fun sl M => evE G ea sl M)) (hb : SE X b (fun sl M => evE G eb sl M)) : SE X (.BinOp a o b pos) (fun sl M => evE G (.bin o ea eb) sl M) := by
  intro sl M r M' hf sv H Z mu S L xo Q k
  unfold evE at hf
  refine wE_of (pe_op (op_w X _) (pe_w X a) (pe_w X b)) ?_
  refine ha.step hf S L xo fun d M1 v Z1 mu1 H1 S1 L1 T1 R1 xo1 hf1 => ?_
  refine hb.step hf1 S1 L1 xo1 fun d2 M2 v2 Z2 mu2 H2 S2 L2 T2 R2 xo2 hf2 => ?_
  obtain ⟨p, e1, hf3⟩ := need_eq hf2
  obtain ⟨q, e2, hf4⟩ := need_eq hf3
  obtain ⟨t, e3, hf5⟩ := need_eq hf4
  obtain ⟨rfl, rfl⟩ := ret_eq hf5
  exact bin_ok c.calm (by have := c.un; omega) e3 S2 ((R1.step S1 T2).view S2 e1) (R2.view S2 e2) fun w Z' H' S' T' R' => k _ _ Z' mu2 H' rfl S' ((T1.trans T2).trans T') (.v R')
/-- two lists make a list that is new -/
theorem binL_ok {o : Operator} {p q : PyData} {ts : List PyData} (e : binP o p q = some (.list ts)) {Z : Addr → Prop} {mu : List Addr} {M : Store} {H : Hp} (S : StOk X.K Z mu H M) {x y : V} (hx : Vw X.K Z H x p) (hy : Vw X.K Z H y q) {Q : VK}
    (n : ∀ vs, Rps X.K Z H vs ts → ∀ p, H p = none → Q (.ref p) (upd H p (.lst vs))) : w2 X (binaryOp o) x y H Q := by
  unfold binP at e
  split at e <;> first | (cases e; done) | (obtain ⟨h1, h2⟩ := guardO_eq e; cases h2; done) | skip
  · obtain ⟨h1, h2⟩ := guardO_eq e
    cases h2
    obtain ⟨a, vs, rfl, ha, ra⟩ := hx.list
    obtain ⟨b, ws, rfl, hb, rb⟩ := hy.list
    exact w2_of op_cat ⟨a, b, vs, ws, rfl, rfl, ha, hb, by rw [ra.length, rb.length]; exact dec h1, n _ (ra.append rb)⟩
  · obtain ⟨h1, h2⟩ := guardO_eq e
    cases h2
    obtain ⟨a, vs, rfl, ha, ra⟩ := hx.list
    rw [hy.int]
    obtain ⟨h2, h3⟩ := and2 h1
    obtain ⟨h4, h5⟩ := and2 h2
    exact w2_of op_rep ⟨a, _, vs, rfl, rfl, ha, dec h4, dec h5, by rw [ra.length]; exact dec h3, n _ (ra.rep _)⟩
theorem se_binA {kk : Nat} (c : Ctx0 X kk) {o : Operator} {a b : Expr} {ea eb : E} (ha : SE X a (fun sl M => evE G ea sl M)) (hb : SE X b (fun sl M => evE G eb sl M)) : SE X (.BinOp a o b pos) (fun sl M => evE G (.binA o ea eb) sl M) := by
  intro sl M r M' hf sv H Z mu S L xo Q k
  unfold evE at hf
  refine wE_of (pe_op (op_w X _) (pe_w X a) (pe_w X b)) ?_
  refine ha.step hf S L xo fun d M1 v Z1 mu1 H1 S1 L1 T1 R1 xo1 hf1 => ?_
  refine hb.step hf1 S1 L1 xo1 fun d2 M2 v2 Z2 mu2 H2 S2 L2 T2 R2 xo2 hf2 => ?_
  obtain ⟨p, e1, hf3⟩ := need_eq hf2
  obtain ⟨q, e2, hf4⟩ := need_eq hf3
  obtain ⟨t, e3, hf5⟩ := need_eq hf4
  split at hf5
  · refine binL_ok e3 S2 ((R1.step S1 T2).view S2 e1) (R2.view S2 e2) fun vs rs => ?_
    exact mkL_ok hf5 S2 (RDs.ofRps rs) fun d v Z' mu' H' e S' T' R' => k d v Z' mu' H' e S' ((T1.trans T2).trans T') R'
  · cases hf5
theorem se_neg {a : Expr} {ea : E} (ha : SE X a (fun sl M => evE G ea sl M)) : SE X (.UnaryOp .USub a pos) (fun sl M => evE G (.neg ea) sl M) := by
  intro sl M r M' hf sv H Z mu S L xo Q k
  unfold evE at hf
  refine wE_of (pe_un un_neg (pe_w X a)) ?_
  refine ha.step hf S L xo fun d M1 v Z1 mu1 H1 S1 L1 T1 R1 xo1 hf1 => ?_
  split at hf1
  · obtain ⟨rfl, rfl⟩ := ret_eq hf1
    cases R1 with
    | v R1 =>
      cases R1
      exact ⟨_, rfl, k _ _ Z1 mu1 H1 rfl S1 T1 (.v (.int _))⟩
  · cases hf1
theorem boolD_eq {d : D} {b : Bool} (h : boolD d = some b) : d = .v (.bool b) := by
  unfold boolD at h
  split at h
  · cases h
    rfl
  · cases h
theorem RD.bl {K : PySem.W.Frag} {Z : Addr → Prop} {mu : List Addr} {H : Hp} {v : V} {b : Bool} (h : RD K Z mu H v (.v (.bool b))) : v = .bl b := by
  cases h with
  | v h =>
    cases h
    rfl
theorem se_not {a : Expr} {ea : E} (ha : SE X a (fun sl M => evE G ea sl M)) : SE X (.UnaryOp .Not a pos) (fun sl M => evE G (.not ea) sl M) := by
  intro sl M r M' hf sv H Z mu S L xo Q k
  unfold evE at hf
  refine wE_of (pe_not (pe_w X a)) ?_
  refine ha.step hf S L xo fun d M1 v Z1 mu1 H1 S1 L1 T1 R1 xo1 hf1 => ?_
  obtain ⟨b, e1, hf2⟩ := need_eq hf1
  obtain ⟨rfl, rfl⟩ := ret_eq hf2
  rw [boolD_eq e1] at R1
  exact ⟨b, R1.bl, k _ _ Z1 mu1 H1 rfl S1 T1 (.v (.bl _))⟩
theorem se_cmp {kk : Nat} (c : Ctx0 X kk) {o : CmpOp} {a b : Expr} {ea eb : E} (ha : SE X a (fun sl M => evE G ea sl M)) (hb : SE X b (fun sl M => evE G eb sl M)) (hm : behindInMarks o b = false) : SE X (.Compare a [o] [b] pos) (fun sl M => evE G (.cmp o ea eb) sl M) := by
  intro sl M r M' hf sv H Z mu S L xo Q k
  unfold evE at hf
  refine wE_of (pe_cmpR (op_w X _) (pe_w X a) (pe_w X b) hm) ?_
  refine ha.step hf S L xo fun d M1 v Z1 mu1 H1 S1 L1 T1 R1 xo1 hf1 => ?_
  refine hb.step hf1 S1 L1 xo1 fun d2 M2 v2 Z2 mu2 H2 S2 L2 T2 R2 xo2 hf2 => ?_
  obtain ⟨p, e1, hf3⟩ := need_eq hf2
  obtain ⟨q, e2, hf4⟩ := need_eq hf3
  obtain ⟨t, e3, hf5⟩ := need_eq hf4
  obtain ⟨rfl, rfl⟩ := ret_eq hf5
  exact cmp_ok c.un e3 ((R1.step S1 T2).view S2 e1) (R2.view S2 e2) (k _ _ Z2 mu2 H2 rfl S2 (T1.trans T2) (.v (.bl _)))
theorem se_chain {kk : Nat} (c : Ctx0 X kk) {o o2 : CmpOp} {a b e : Expr} {ea eb ee : E} (ha : SE X a (fun sl M => evE G ea sl M)) (hb : SE X b (fun sl M => evE G eb sl M)) (he : SE X e (fun sl M => evE G ee sl M)) (hm : lastMarks [o, o2] [b, e] = false) :
    SE X (.Compare a [o, o2] [b, e] pos) (fun sl M => evE G (.chain o o2 ea eb ee) sl M) := by
  intro sl M r M' hf sv H Z mu S L xo Q k
  unfold evE at hf
  refine wE_of (pe_chain (op_w X _) (op_w X _) (pe_w X a) (pe_w X b) (pe_w X e) hm) ?_
  refine ha.step hf S L xo fun d M1 v Z1 mu1 H1 S1 L1 T1 R1 xo1 hf1 => ?_
  refine hb.step hf1 S1 L1 xo1 fun d2 M2 v2 Z2 mu2 H2 S2 L2 T2 R2 xo2 hf2 => ?_
  obtain ⟨p, e1, hf3⟩ := need_eq hf2
  obtain ⟨q, e2, hf4⟩ := need_eq hf3
  obtain ⟨t, e3, hf5⟩ := need_eq hf4
  refine cmp_ok c.un e3 ((R1.step S1 T2).view S2 e1) (R2.view S2 e2) ⟨t, rfl, ?_⟩
  cases t with
  | true =>
    rw [if_pos rfl] at hf5 ⊢
    refine he.step hf5 S2 L2 xo2 fun d3 M3 v3 Z3 mu3 H3 S3 L3 T3 R3 xo3 hf6 => ?_
    obtain ⟨q', e4, hf7⟩ := need_eq hf6
    obtain ⟨u, e5, hf8⟩ := need_eq hf7
    obtain ⟨t', e6, hf9⟩ := need_eq hf8
    obtain ⟨rfl, rfl⟩ := ret_eq hf9
    exact cmp_ok c.un e6 ((R2.step S2 T3).view S3 e4) (R3.view S3 e5) (k _ _ Z3 mu3 H3 rfl S3 ((T1.trans T2).trans T3) (.v (.bl _)))
  | false =>
    rw [if_neg (by decide)] at hf5 ⊢
    obtain ⟨rfl, rfl⟩ := ret_eq hf5
    exact k _ _ Z2 mu2 H2 rfl S2 (T1.trans T2) (.v (.bl _))
theorem se_ifx {c a b : Expr} {ec ea eb : E} (hc : STt X c (fun sl M => evE G ec sl M)) (ha : SE X a (fun sl M => evE G ea sl M)) (hb : SE X b (fun sl M => evE G eb sl M)) : SE X (.IfExp c a b pos) (fun sl M => evE G (.ifx ec ea eb) sl M) := by
  intro sl M r M' hf sv H Z mu S L xo Q k
  unfold evE at hf
  refine wE_of (pe_ifExp (pt_w X c) (pe_w X a) (pe_w X b)) ?_
  refine hc.step hf (fun d M1 r h => by obtain ⟨_, e, _⟩ := need_eq h; rw [e]; rfl) S L xo fun t M1 Z1 mu1 H1 S1 L1 T1 xo1 hf1 => ?_
  obtain ⟨b', e1, hf2⟩ := need_eq hf1
  cases e1
  cases t with
  | true =>
    rw [if_pos rfl] at hf2 ⊢
    exact ha sl M1 r M' hf2 sv H1 Z1 mu1 S1 L1 xo1 Q fun d v Z' mu' H' e S' T' R' => k d v Z' mu' H' e S' (T1.trans T') R'
  | false =>
    rw [if_neg (by decide)] at hf2 ⊢
    exact hb sl M1 r M' hf2 sv H1 Z1 mu1 S1 L1 xo1 Q fun d v Z' mu' H' e S' T' R' => k d v Z' mu' H' e S' (T1.trans T') R'
theorem se_sub {a b : Expr} {ea eb : E} (ha : SE X a (fun sl M => evE G ea sl M)) (hb : SE X b (fun sl M => evE G eb sl M)) (hp : PlainIx b) : SE X (.Subscript a b pos) (fun sl M => evE G (.sub ea eb) sl M) := by
  intro sl M r M' hf sv H Z mu S L xo Q k
  unfold evE at hf
  refine wE_of (pe_ix ix_seq (pe_w X a) (pe_w X b) hp) ?_
  refine ha.step hf S L xo fun d M1 v Z1 mu1 H1 S1 L1 T1 R1 xo1 hf1 => ?_
  refine hb.step hf1 S1 L1 xo1 fun d2 M2 v2 Z2 mu2 H2 S2 L2 T2 R2 xo2 hf2 => ?_
  obtain ⟨d3, e1, hf3⟩ := need_eq hf2
  obtain ⟨rfl, rfl⟩ := ret_eq hf3
  exact ix_ok S2 e1 (R1.step S1 T2) R2 fun w R3 => k _ _ Z2 mu2 H2 rfl S2 (T1.trans T2) R3

/-! ### tests -/
theorem stt_val {e : Expr} {f : Slots → Store → R D} (h : SE X e f) (he : ∀ whole, isTrue e X.env whole = (do let v ← whole; standAt e.pos; holding [v] (truthy v))) : STt X e f := by
  intro sl M r M' hf hb sv H Z mu S L xo Q k
  refine wT_of (pt_val (pe_w X e) he) ?_
  refine h sl M r M' hf sv H Z mu S L xo _ fun d v Z' mu' H' e S' T' R' => ?_
  have hb' := hb d e
  obtain ⟨b, e1⟩ := Option.isSome_iff_exists.mp hb'
  have e2 := boolD_eq e1
  subst e2
  exact ⟨b, R'.bl, k b Z' mu' H' e S' T'⟩
theorem stt_not {a : Expr} {ea : E} (ha : STt X a (fun sl M => evE G ea sl M)) : STt X (.UnaryOp .Not a pos) (fun sl M => evE G (.not ea) sl M) := by
  intro sl M r M' hf hb sv H Z mu S L xo Q k
  unfold evE at hf
  refine wT_of (pt_not (pt_w X a)) ?_
  refine ha.step hf (fun d M1 r h => by obtain ⟨_, e, _⟩ := need_eq h; rw [e]; rfl) S L xo fun t M1 Z1 mu1 H1 S1 L1 T1 xo1 hf1 => ?_
  obtain ⟨b', e1, hf2⟩ := need_eq hf1
  cases e1
  obtain ⟨rfl, rfl⟩ := ret_eq hf2
  exact k _ Z1 mu1 H1 rfl S1 T1
theorem stt_cmp {kk : Nat} (c : Ctx0 X kk) {o : CmpOp} {a b : Expr} {ea eb : E} (ha : SE X a (fun sl M => evE G ea sl M)) (hb : SE X b (fun sl M => evE G eb sl M)) (hm : behindInMarks o b = false) : STt X (.Compare a [o] [b] pos) (fun sl M => evE G (.cmp o ea eb) sl M) := by
  intro sl M r M' hf hbo sv H Z mu S L xo Q k
  unfold evE at hf
  refine wT_of (pt_cmpR (op_w X _) (pe_w X a) (pe_w X b) hm) ?_
  refine ha.step hf S L xo fun d M1 v Z1 mu1 H1 S1 L1 T1 R1 xo1 hf1 => ?_
  refine hb.step hf1 S1 L1 xo1 fun d2 M2 v2 Z2 mu2 H2 S2 L2 T2 R2 xo2 hf2 => ?_
  obtain ⟨p, e1, hf3⟩ := need_eq hf2
  obtain ⟨q, e2, hf4⟩ := need_eq hf3
  obtain ⟨t, e3, hf5⟩ := need_eq hf4
  obtain ⟨rfl, rfl⟩ := ret_eq hf5
  exact cmp_ok c.un e3 ((R1.step S1 T2).view S2 e1) (R2.view S2 e2) ⟨t, rfl, k _ Z2 mu2 H2 rfl S2 (T1.trans T2)⟩
theorem stt_chain {kk : Nat} (c : Ctx0 X kk) {o o2 : CmpOp} {a b e : Expr} {ea eb ee : E} (ha : SE X a (fun sl M => evE G ea sl M)) (hb : SE X b (fun sl M => evE G eb sl M)) (he : SE X e (fun sl M => evE G ee sl M)) (hm : lastMarks [o, o2] [b, e] = false) :
    STt X (.Compare a [o, o2] [b, e] pos) (fun sl M => evE G (.chain o o2 ea eb ee) sl M) := by
  intro sl M r M' hf hbo sv H Z mu S L xo Q k
  unfold evE at hf
  refine wT_of (pt_chain (op_w X _) (op_w X _) (pe_w X a) (pe_w X b) (pe_w X e) hm) ?_
  refine ha.step hf S L xo fun d M1 v Z1 mu1 H1 S1 L1 T1 R1 xo1 hf1 => ?_
  refine hb.step hf1 S1 L1 xo1 fun d2 M2 v2 Z2 mu2 H2 S2 L2 T2 R2 xo2 hf2 => ?_
  obtain ⟨p, e1, hf3⟩ := need_eq hf2
  obtain ⟨q, e2, hf4⟩ := need_eq hf3
  obtain ⟨t, e3, hf5⟩ := need_eq hf4
  refine cmp_ok c.un e3 ((R1.step S1 T2).view S2 e1) (R2.view S2 e2) ⟨t, rfl, ?_⟩
  cases t with
  | true =>
    rw [if_pos rfl] at hf5 ⊢
    refine he.step hf5 S2 L2 xo2 fun d3 M3 v3 Z3 mu3 H3 S3 L3 T3 R3 xo3 hf6 => ?_
    obtain ⟨q', e4, hf7⟩ := need_eq hf6
    obtain ⟨u, e5, hf8⟩ := need_eq hf7
    obtain ⟨t', e6, hf9⟩ := need_eq hf8
    obtain ⟨rfl, rfl⟩ := ret_eq hf9
    exact cmp_ok c.un e6 ((R2.step S2 T3).view S3 e4) (R3.view S3 e5) ⟨_, rfl, k _ Z3 mu3 H3 rfl S3 ((T1.trans T2).trans T3)⟩
  | false =>
    rw [if_neg (by decide)] at hf5 ⊢
    obtain ⟨rfl, rfl⟩ := ret_eq hf5
    exact ⟨_, rfl, k _ Z2 mu2 H2 rfl S2 (T1.trans T2)⟩

/-! ### and, or -/
/-- a row of operands as a test -/
def SBt (X : Cx) (pe : Expr) (f : Slots → Store → R Bool) : Prop :=
  ∀ (sl : Slots) (M : Store) (r : Out Bool) (M' : Store), f sl M = some (r, M') → ∀ (sv : L2.St) (H : Hp) (Z : Addr → Prop) (mu : List Addr), StOk X.K Z mu H M → SlOk X.K Z mu H sv sl → XOk X sv Z mu M H r M' →
    ∀ Q : Bool → Hp → Prop, (∀ b Z' mu' H', r = .ok b → StOk X.K Z' mu' H' M' → Stp Z mu M H Z' mu' M' H' → Q b H') → ∀ pins s whole, L2.Inv X pins sv H s → wpAny (model X.prog X.w) X.A (isTrue pe X.env whole) (TP X pins sv Q) X.xe s
def SBv (X : Cx) (pe : Expr) (f : Slots → Store → R Bool) : Prop :=
  ∀ (sl : Slots) (M : Store) (r : Out Bool) (M' : Store), f sl M = some (r, M') → ∀ (sv : L2.St) (H : Hp) (Z : Addr → Prop) (mu : List Addr), StOk X.K Z mu H M → SlOk X.K Z mu H sv sl → XOk X sv Z mu M H r M' →
    ∀ Q : VK, (∀ b Z' mu' H', r = .ok b → StOk X.K Z' mu' H' M' → Stp Z mu M H Z' mu' M' H' → Q (.bl b) H') → wE X pe sv H Q
theorem SBt.step {pe : Expr} {f : Slots → Store → R Bool} {β : Type} {r : Out β} {M M' : Store} {sl : Slots} {sv : L2.St} {H : Hp} {Z : Addr → Prop} {mu : List Addr} (h : SBt X pe f) {g : Bool → Store → R β} (hf : (f sl M).bind g = some (r, M')) (S : StOk X.K Z mu H M) (L : SlOk X.K Z mu H sv sl) (x : XOk X sv Z mu M H r M') {Q : Bool → Hp → Prop}
    (k : ∀ b M1 Z1 mu1 H1, StOk X.K Z1 mu1 H1 M1 → SlOk X.K Z1 mu1 H1 sv sl → Stp Z mu M H Z1 mu1 M1 H1 → XOk X sv Z1 mu1 M1 H1 r M' → g b M1 = some (r, M') → Q b H1) : ∀ pins s whole, L2.Inv X pins sv H s → wpAny (model X.prog X.w) X.A (isTrue pe X.env whole) (TP X pins sv Q) X.xe s := by
  intro pins s whole I
  cases e : f sl M with
  | none =>
    rw [e] at hf
    cases hf
  | some p =>
    obtain ⟨o, M1⟩ := p
    rw [e] at hf
    cases o with
    | ex er =>
      have hf' : some (Out.ex er, M1) = some (r, M') := hf
      cases hf'
      exact h sl M _ _ e sv H Z mu S L (x.conv fun e z => by cases z; rfl) Q (fun d Z' mu' H' z => nomatch z) pins s whole I
    | ok d =>
      have hf' : g d M1 = some (r, M') := hf
      exact h sl M _ _ e sv H Z mu S L XOk.ok Q (fun b Z1 mu1 H1 z S1 T1 => by
        cases z
        exact k d M1 Z1 mu1 H1 S1 (L.step S T1) T1 (x.step T1) hf') pins s whole I
theorem SBv.step {pe : Expr} {f : Slots → Store → R Bool} {β : Type} {r : Out β} {M M' : Store} {sl : Slots} {sv : L2.St} {H : Hp} {Z : Addr → Prop} {mu : List Addr} (h : SBv X pe f) {g : Bool → Store → R β} (hf : (f sl M).bind g = some (r, M')) (S : StOk X.K Z mu H M) (L : SlOk X.K Z mu H sv sl) (x : XOk X sv Z mu M H r M') {Q : VK}
    (k : ∀ b M1 Z1 mu1 H1, StOk X.K Z1 mu1 H1 M1 → SlOk X.K Z1 mu1 H1 sv sl → Stp Z mu M H Z1 mu1 M1 H1 → XOk X sv Z1 mu1 M1 H1 r M' → g b M1 = some (r, M') → Q (.bl b) H1) : wE X pe sv H Q := by
  cases e : f sl M with
  | none =>
    rw [e] at hf
    cases hf
  | some p =>
    obtain ⟨o, M1⟩ := p
    rw [e] at hf
    cases o with
    | ex er =>
      have hf' : some (Out.ex er, M1) = some (r, M') := hf
      cases hf'
      exact h sl M _ _ e sv H Z mu S L (x.conv fun e z => by cases z; rfl) Q fun d Z' mu' H' z => nomatch z
    | ok d =>
      have hf' : g d M1 = some (r, M') := hf
      exact h sl M _ _ e sv H Z mu S L XOk.ok Q fun b Z1 mu1 H1 z S1 T1 => by
        cases z
        exact k d M1 Z1 mu1 H1 S1 (L.step S T1) T1 (x.step T1) hf'
theorem needB {d : D} {M1 : Store} {r : Out Bool × Store} {f : Bool → R Bool} (h : need (boolD d) f = some r) : (boolD d).isSome = true := by
  obtain ⟨_, e, _⟩ := need_eq h
  rw [e]
  rfl
theorem sb_and1 {a : Expr} {ea : E} (ha : STt X a (fun sl M => evE G ea sl M)) : SBt X (.BoolOp .And [a] pos) (fun sl M => evAnd G (.cons ea .nil) sl M) := by
  intro sl M r M' hf sv H Z mu S L xo Q k pins s whole I
  unfold evAnd at hf
  refine (pw_and1 (pt_w X a)).run whole pins s sv H Q I ?_
  refine ha.step hf (fun d M1 r h => needB (M1 := M1) h) S L xo fun t M1 Z1 mu1 H1 S1 L1 T1 xo1 hf1 => ?_
  obtain ⟨b', e1, hf2⟩ := need_eq hf1
  cases e1
  cases t with
  | true =>
    rw [if_pos rfl] at hf2
    unfold evAnd at hf2
    obtain ⟨rfl, rfl⟩ := ret_eq hf2
    exact k true Z1 mu1 H1 rfl S1 T1
  | false =>
    rw [if_neg (by decide)] at hf2
    obtain ⟨rfl, rfl⟩ := ret_eq hf2
    exact k false Z1 mu1 H1 rfl S1 T1
theorem sb_and {a b : Expr} {rest : List Expr} {ea es : E} (ha : STt X a (fun sl M => evE G ea sl M)) (hb : SBt X (.BoolOp .And (b :: rest) pos) (fun sl M => evAnd G es sl M)) : SBt X (.BoolOp .And (a :: b :: rest) pos) (fun sl M => evAnd G (.cons ea es) sl M) := by
  intro sl M r M' hf sv H Z mu S L xo Q k pins s whole I
  unfold evAnd at hf
  refine (pw_and (tB' := fun sv H Q => ∀ pins s whole, L2.Inv X pins sv H s → wpAny (model X.prog X.w) X.A (isTrue (.BoolOp .And (b :: rest) pos) X.env whole) (TP X pins sv Q) X.xe s) (pt_w X a) ⟨fun whole pins s sv H Q I h => h pins s whole I⟩).run whole pins s sv H Q I ?_
  refine ha.step hf (fun d M1 r h => needB (M1 := M1) h) S L xo fun t M1 Z1 mu1 H1 S1 L1 T1 xo1 hf1 => ?_
  obtain ⟨b', e1, hf2⟩ := need_eq hf1
  cases e1
  cases t with
  | true =>
    rw [if_pos rfl] at hf2 ⊢
    exact hb sl M1 r M' hf2 sv H1 Z1 mu1 S1 L1 xo1 Q fun b Z' mu' H' e S' T' => k b Z' mu' H' e S' (T1.trans T')
  | false =>
    rw [if_neg (by decide)] at hf2 ⊢
    obtain ⟨rfl, rfl⟩ := ret_eq hf2
    exact k false Z1 mu1 H1 rfl S1 T1
theorem sb_or1 {a : Expr} {ea : E} (ha : STt X a (fun sl M => evE G ea sl M)) : SBt X (.BoolOp .Or [a] pos) (fun sl M => evOr G (.cons ea .nil) sl M) := by
  intro sl M r M' hf sv H Z mu S L xo Q k pins s whole I
  unfold evOr at hf
  refine (pw_or1 (pt_w X a)).run whole pins s sv H Q I ?_
  refine ha.step hf (fun d M1 r h => needB (M1 := M1) h) S L xo fun t M1 Z1 mu1 H1 S1 L1 T1 xo1 hf1 => ?_
  obtain ⟨b', e1, hf2⟩ := need_eq hf1
  cases e1
  cases t with
  | true =>
    rw [if_pos rfl] at hf2
    obtain ⟨rfl, rfl⟩ := ret_eq hf2
    exact k true Z1 mu1 H1 rfl S1 T1
  | false =>
    rw [if_neg (by decide)] at hf2
    unfold evOr at hf2
    obtain ⟨rfl, rfl⟩ := ret_eq hf2
    exact k false Z1 mu1 H1 rfl S1 T1
theorem sb_or {a b : Expr} {rest : List Expr} {ea es : E} (ha : STt X a (fun sl M => evE G ea sl M)) (hb : SBt X (.BoolOp .Or (b :: rest) pos) (fun sl M => evOr G es sl M)) : SBt X (.BoolOp .Or (a :: b :: rest) pos) (fun sl M => evOr G (.cons ea es) sl M) := by
  intro sl M r M' hf sv H Z mu S L xo Q k pins s whole I
  unfold evOr at hf
  refine (pw_or (tB' := fun sv H Q => ∀ pins s whole, L2.Inv X pins sv H s → wpAny (model X.prog X.w) X.A (isTrue (.BoolOp .Or (b :: rest) pos) X.env whole) (TP X pins sv Q) X.xe s) (pt_w X a) ⟨fun whole pins s sv H Q I h => h pins s whole I⟩).run whole pins s sv H Q I ?_
  refine ha.step hf (fun d M1 r h => needB (M1 := M1) h) S L xo fun t M1 Z1 mu1 H1 S1 L1 T1 xo1 hf1 => ?_
  obtain ⟨b', e1, hf2⟩ := need_eq hf1
  cases e1
  cases t with
  | true =>
    rw [if_pos rfl] at hf2 ⊢
    obtain ⟨rfl, rfl⟩ := ret_eq hf2
    exact k true Z1 mu1 H1 rfl S1 T1
  | false =>
    rw [if_neg (by decide)] at hf2 ⊢
    exact hb sl M1 r M' hf2 sv H1 Z1 mu1 S1 L1 xo1 Q fun b Z' mu' H' e S' T' => k b Z' mu' H' e S' (T1.trans T')
theorem sv_and1 {a : Expr} {ea : E} (ha : SE X a (fun sl M => evE G ea sl M)) : SBv X (.BoolOp .And [a] pos) (fun sl M => evAnd G (.cons ea .nil) sl M) := by
  intro sl M r M' hf sv H Z mu S L xo Q k
  unfold evAnd at hf
  refine wE_of (pe_one (pe_w X a)) ?_
  refine ha.step hf S L xo fun d M1 v Z1 mu1 H1 S1 L1 T1 R1 xo1 hf1 => ?_
  obtain ⟨t, e1, hf2⟩ := need_eq hf1
  rw [boolD_eq e1] at R1
  rw [R1.bl]
  cases t with
  | true =>
    rw [if_pos rfl] at hf2
    unfold evAnd at hf2
    obtain ⟨rfl, rfl⟩ := ret_eq hf2
    exact k true Z1 mu1 H1 rfl S1 T1
  | false =>
    rw [if_neg (by decide)] at hf2
    obtain ⟨rfl, rfl⟩ := ret_eq hf2
    exact k false Z1 mu1 H1 rfl S1 T1
theorem sv_and {a b : Expr} {rest : List Expr} {ea es : E} (ha : SE X a (fun sl M => evE G ea sl M)) (hb : SBv X (.BoolOp .And (b :: rest) pos) (fun sl M => evAnd G es sl M)) : SBv X (.BoolOp .And (a :: b :: rest) pos) (fun sl M => evAnd G (.cons ea es) sl M) := by
  intro sl M r M' hf sv H Z mu S L xo Q k
  unfold evAnd at hf
  refine wE_of (pe_and (pe_w X a) (pe_w X _)) ?_
  refine ha.step hf S L xo fun d M1 v Z1 mu1 H1 S1 L1 T1 R1 xo1 hf1 => ?_
  obtain ⟨t, e1, hf2⟩ := need_eq hf1
  rw [boolD_eq e1] at R1
  refine ⟨t, R1.bl, ?_⟩
  cases t with
  | true =>
    rw [if_pos rfl] at hf2 ⊢
    exact hb sl M1 r M' hf2 sv H1 Z1 mu1 S1 L1 xo1 Q fun b Z' mu' H' e S' T' => k b Z' mu' H' e S' (T1.trans T')
  | false =>
    rw [if_neg (by decide)] at hf2 ⊢
    obtain ⟨rfl, rfl⟩ := ret_eq hf2
    exact k false Z1 mu1 H1 rfl S1 T1
theorem sv_or1 {a : Expr} {ea : E} (ha : SE X a (fun sl M => evE G ea sl M)) : SBv X (.BoolOp .Or [a] pos) (fun sl M => evOr G (.cons ea .nil) sl M) := by
  intro sl M r M' hf sv H Z mu S L xo Q k
  unfold evOr at hf
  refine wE_of (pe_one (pe_w X a)) ?_
  refine ha.step hf S L xo fun d M1 v Z1 mu1 H1 S1 L1 T1 R1 xo1 hf1 => ?_
  obtain ⟨t, e1, hf2⟩ := need_eq hf1
  rw [boolD_eq e1] at R1
  rw [R1.bl]
  cases t with
  | true =>
    rw [if_pos rfl] at hf2
    obtain ⟨rfl, rfl⟩ := ret_eq hf2
    exact k true Z1 mu1 H1 rfl S1 T1
  | false =>
    rw [if_neg (by decide)] at hf2
    unfold evOr at hf2
    obtain ⟨rfl, rfl⟩ := ret_eq hf2
    exact k false Z1 mu1 H1 rfl S1 T1
theorem sv_or {a b : Expr} {rest : List Expr} {ea es : E} (ha : SE X a (fun sl M => evE G ea sl M)) (hb : SBv X (.BoolOp .Or (b :: rest) pos) (fun sl M => evOr G es sl M)) : SBv X (.BoolOp .Or (a :: b :: rest) pos) (fun sl M => evOr G (.cons ea es) sl M) := by
  intro sl M r M' hf sv H Z mu S L xo Q k
  unfold evOr at hf
  refine wE_of (pe_or (pe_w X a) (pe_w X _)) ?_
  refine ha.step hf S L xo fun d M1 v Z1 mu1 H1 S1 L1 T1 R1 xo1 hf1 => ?_
  obtain ⟨t, e1, hf2⟩ := need_eq hf1
  rw [boolD_eq e1] at R1
  refine ⟨t, R1.bl, ?_⟩
  cases t with
  | true =>
    rw [if_pos rfl] at hf2 ⊢
    obtain ⟨rfl, rfl⟩ := ret_eq hf2
    exact k true Z1 mu1 H1 rfl S1 T1
  | false =>
    rw [if_neg (by decide)] at hf2 ⊢
    exact hb sl M1 r M' hf2 sv H1 Z1 mu1 S1 L1 xo1 Q fun b Z' mu' H' e S' T' => k b Z' mu' H' e S' (T1.trans T')
theorem se_and {es : List Expr} {e : E} (h : SBv X (.BoolOp .And es pos) (fun sl M => evAnd G e sl M)) : SE X (.BoolOp .And es pos) (fun sl M => evE G (.and e) sl M) := by
  intro sl M r M' hf sv H Z mu S L xo Q k
  unfold evE at hf
  refine h.step hf S L xo fun b M1 Z1 mu1 H1 S1 L1 T1 xo1 hf1 => ?_
  obtain ⟨rfl, rfl⟩ := ret_eq hf1
  exact k _ _ Z1 mu1 H1 rfl S1 T1 (.v (.bl _))
theorem se_or {es : List Expr} {e : E} (h : SBv X (.BoolOp .Or es pos) (fun sl M => evOr G e sl M)) : SE X (.BoolOp .Or es pos) (fun sl M => evE G (.or e) sl M) := by
  intro sl M r M' hf sv H Z mu S L xo Q k
  unfold evE at hf
  refine h.step hf S L xo fun b M1 Z1 mu1 H1 S1 L1 T1 xo1 hf1 => ?_
  obtain ⟨rfl, rfl⟩ := ret_eq hf1
  exact k _ _ Z1 mu1 H1 rfl S1 T1 (.v (.bl _))
theorem stt_and {es : List Expr} {e : E} (h : SBt X (.BoolOp .And es pos) (fun sl M => evAnd G e sl M)) : STt X (.BoolOp .And es pos) (fun sl M => evE G (.and e) sl M) := by
  intro sl M r M' hf hbo sv H Z mu S L xo Q k pins s I
  unfold evE at hf
  refine h.step hf S L xo (fun b M1 Z1 mu1 H1 S1 L1 T1 xo1 hf1 => ?_) pins s _ I
  obtain ⟨rfl, rfl⟩ := ret_eq hf1
  exact k _ Z1 mu1 H1 rfl S1 T1
theorem stt_or {es : List Expr} {e : E} (h : SBt X (.BoolOp .Or es pos) (fun sl M => evOr G e sl M)) : STt X (.BoolOp .Or es pos) (fun sl M => evE G (.or e) sl M) := by
  intro sl M r M' hf hbo sv H Z mu S L xo Q k pins s I
  unfold evE at hf
  refine h.step hf S L xo (fun b M1 Z1 mu1 H1 S1 L1 T1 xo1 hf1 => ?_) pins s _ I
  obtain ⟨rfl, rfl⟩ := ret_eq hf1
  exact k _ Z1 mu1 H1 rfl S1 T1

/-! ### slices -/
def SO (X : Cx) (pe : Option Expr) (f : Slots → Store → R (Option Int)) : Prop :=
  ∀ (sl : Slots) (M : Store) (r : Out (Option Int)) (M' : Store), f sl M = some (r, M') → ∀ (sv : L2.St) (H : Hp) (Z : Addr → Prop) (mu : List Addr), StOk X.K Z mu H M → SlOk X.K Z mu H sv sl → XOk X sv Z mu M H r M' →
    ∃ t, PO X pe t ∧ ∀ Q : Option Int → Hp → Prop, (∀ o Z' mu' H', r = .ok o → StOk X.K Z' mu' H' M' → Stp Z mu M H Z' mu' M' H' → Q o H') → t sv H Q
def wO (X : Cx) (pe : Option Expr) : TO := fun sv H Q => ∀ pins s, L2.Inv X pins sv H s → wpAny (model X.prog X.w) X.A (evalPart pe X.env) (fun u s' => ∃ o H', L2.Inv X pins sv H' s' ∧ IsPart u o ∧ Q o H') X.xe s
theorem po_w (X : Cx) (e : Option Expr) : PO X e (wO X e) := ⟨fun pins s _ _ _ I h => h pins s I⟩
theorem wO_of {e : Option Expr} {t : TO} (h : PO X e t) {sv : L2.St} {H : Hp} {Q : Option Int → Hp → Prop} (q : t sv H Q) : wO X e sv H Q := fun pins s I => h.run pins s sv H Q I q
def SOw (X : Cx) (pe : Option Expr) (f : Slots → Store → R (Option Int)) : Prop :=
  ∀ (sl : Slots) (M : Store) (r : Out (Option Int)) (M' : Store), f sl M = some (r, M') → ∀ (sv : L2.St) (H : Hp) (Z : Addr → Prop) (mu : List Addr), StOk X.K Z mu H M → SlOk X.K Z mu H sv sl → XOk X sv Z mu M H r M' →
    ∀ Q : Option Int → Hp → Prop, (∀ o Z' mu' H', r = .ok o → StOk X.K Z' mu' H' M' → Stp Z mu M H Z' mu' M' H' → Q o H') → wO X pe sv H Q
theorem so_none : SOw X none (fun sl M => evO G .nil sl M) := by
  intro sl M r M' hf sv H Z mu S L xo Q k
  unfold evO at hf
  obtain ⟨rfl, rfl⟩ := ret_eq hf
  exact wO_of po_none (k none Z mu H rfl S (Stp.refl ..))
theorem so_some {a : Expr} {ea : E} (ha : SE X a (fun sl M => evE G ea sl M)) : SOw X (some a) (fun sl M => evO G (.cons ea .nil) sl M) := by
  intro sl M r M' hf sv H Z mu S L xo Q k
  unfold evO at hf
  refine wO_of (po_some (pe_w X a)) ?_
  refine ha.step hf S L xo fun d M1 v Z1 mu1 H1 S1 L1 T1 R1 xo1 hf1 => ?_
  split at hf1
  · obtain ⟨rfl, rfl⟩ := ret_eq hf1
    cases R1 with
    | v R1 =>
      cases R1
      exact ⟨_, rfl, k _ Z1 mu1 H1 rfl S1 T1⟩
  · cases hf1
theorem SOw.step {pe : Option Expr} {f : Slots → Store → R (Option Int)} {β : Type} {r : Out β} {M M' : Store} {sl : Slots} {sv : L2.St} {H : Hp} {Z : Addr → Prop} {mu : List Addr} (h : SOw X pe f) {g : Option Int → Store → R β} (hf : (f sl M).bind g = some (r, M')) (S : StOk X.K Z mu H M) (L : SlOk X.K Z mu H sv sl) (x : XOk X sv Z mu M H r M') {Q : Option Int → Hp → Prop}
    (k : ∀ b M1 Z1 mu1 H1, StOk X.K Z1 mu1 H1 M1 → SlOk X.K Z1 mu1 H1 sv sl → Stp Z mu M H Z1 mu1 M1 H1 → XOk X sv Z1 mu1 M1 H1 r M' → g b M1 = some (r, M') → Q b H1) : wO X pe sv H Q := by
  cases e : f sl M with
  | none =>
    rw [e] at hf
    cases hf
  | some p =>
    obtain ⟨o, M1⟩ := p
    rw [e] at hf
    cases o with
    | ex er =>
      have hf' : some (Out.ex er, M1) = some (r, M') := hf
      cases hf'
      exact h sl M _ _ e sv H Z mu S L (x.conv fun e z => by cases z; rfl) Q fun d Z' mu' H' z => nomatch z
    | ok d =>
      have hf' : g d M1 = some (r, M') := hf
      exact h sl M _ _ e sv H Z mu S L XOk.ok Q fun b Z1 mu1 H1 z S1 T1 => by
        cases z
        exact k d M1 Z1 mu1 H1 S1 (L.step S T1) T1 (x.step T1) hf'
theorem se_sl {a : Expr} {lo hi : Option Expr} {p2 : Pos} {ea el eh : E} (ha : SE X a (fun sl M => evE G ea sl M)) (hl : SOw X lo (fun sl M => evO G el sl M)) (hh : SOw X hi (fun sl M => evO G eh sl M)) :
    SE X (.Subscript a (.Slice lo hi none p2) pos) (fun sl M => evE G (.sl ea el eh) sl M) := by
  intro sl M r M' hf sv H Z mu S L xo Q k
  unfold evE at hf
  refine wE_of (pe_slice sl3 (pe_w X a) (po_w X lo) (po_w X hi)) ?_
  refine ha.step hf S L xo fun d M1 v Z1 mu1 H1 S1 L1 T1 R1 xo1 hf1 => ?_
  refine hl.step hf1 S1 L1 xo1 fun l M2 Z2 mu2 H2 S2 L2 T2 xo2 hf2 => ?_
  refine hh.step hf2 S2 L2 xo2 fun h M3 Z3 mu3 H3 S3 L3 T3 xo3 hf3 => ?_
  obtain ⟨q, e1, hf4⟩ := need_eq hf3
  obtain ⟨rfl, rfl⟩ := ret_eq hf4
  exact sl_ok S3 e1 ((R1.step S1 T2).step S2 T3) fun w Z' H' S' T' R' => k _ _ Z' mu3 H' rfl S' (((T1.trans T2).trans T3).trans T') (.v R')

/-! ### built-ins by their names -/
theorem RDs.views {K : PySem.W.Frag} {Z : Addr → Prop} {mu : List Addr} {H : Hp} {M : Store} (S : StOk K Z mu H M) : ∀ {ds : List D} {vs : List V} {ps : List PyData}, RDs K Z mu H vs ds → ds.mapM (view M) = some ps → Vws K Z H vs ps
  | [], _, _, r, e => by
    cases r
    cases e
    exact .nil
  | d :: ds, _, _, r, e => by
    cases r with
    | cons q r =>
      rw [List.mapM_cons] at e
      obtain ⟨p, e1, e2⟩ := Option.bind_eq_some_iff.mp e
      obtain ⟨qs, e3, e4⟩ := Option.bind_eq_some_iff.mp e2
      cases e4
      exact .cons (q.view S e1) (RDs.views S r e3)
theorem biNN (b : Bi) : biName b ≠ ("__name__" : Str) := by
  cases b <;> decide +kernel
theorem biND (b : Bi) : (biName b == ("__debug__" : Str)) = false := by
  cases b <;> decide +kernel
theorem pe_biW {b : Bi} {e : Expr} {es : List Expr} {p : Pos} (hg : Gl X (biName b)) (hm : X.mg (biName b) = none) (he : starEach (e :: es) X.env = (false, eval e X.env) :: starEach es X.env) (hpl : (backTo pos (starEach es X.env)).any (·.1) = false) :
    PE X (.Call (.Name (biName b) p) (e :: es) [] pos) (tCB (wC X (biVal b)) (wA X (e :: es))) := by
  have key : (∃ id, biVal b = .builtin id) ∨ ∃ T, biVal b = .type T := by
    cases b <;> first | exact .inl ⟨_, rfl⟩ | exact .inr ⟨_, rfl⟩
  have hb := biBoot b
  have hw := call_w X (biVal b)
  rcases key with ⟨id, e1⟩ | ⟨T, e1⟩
  · rw [e1] at hb hw ⊢
    exact pe_callB hw hg hm hb (pa_w X _) (biNN b) (biND b) he hpl
  · rw [e1] at hb hw ⊢
    exact pe_callTy hw hg hm hb (pa_w X _) (biNN b) (biND b) he hpl
theorem se_bi {kk : Nat} (c : Ctx0 X kk) {b : Bi} {e : Expr} {es : List Expr} {p : Pos} {ees : E} (hg : Gl X (biName b)) (hm : X.mg (biName b) = none) (he : starEach (e :: es) X.env = (false, eval e X.env) :: starEach es X.env) (hpl : (backTo pos (starEach es X.env)).any (·.1) = false)
    (h : SEs X (e :: es) (fun sl M => evEs G ees sl M)) : SE X (.Call (.Name (biName b) p) (e :: es) [] pos) (fun sl M => evE G (.bi b ees) sl M) := by
  intro sl M r M' hf sv H Z mu S L xo Q k
  unfold evE at hf
  refine wE_of (pe_biW hg hm he hpl) ?_
  refine h.step hf S L xo fun ds M1 vs Z1 mu1 H1 S1 L1 T1 R1 xo1 hf1 => ?_
  obtain ⟨ps, e1, hf2⟩ := need_eq hf1
  obtain ⟨t, e2, hf3⟩ := need_eq hf2
  obtain ⟨rfl, rfl⟩ := ret_eq hf3
  exact bi_ok c.calm c.g c.un e2 S1 (R1.views S1 e1) fun w Z' H' S' T' R' => k _ _ Z' mu1 H' rfl S' (T1.trans T') (.v R')
theorem biL_ok {b : Bi} {ps ts : List PyData} (e : biP b ps = some (.list ts)) {Z : Addr → Prop} {mu : List Addr} {M : Store} {H : Hp} (S : StOk X.K Z mu H M) {xs : List V} (hx : Vws X.K Z H xs ps) {Q : VK}
    (n : ∀ vs, Rps X.K Z H vs ts → ∀ p, H p = none → Q (.ref p) (upd H p (.lst vs))) : wC X (biVal b) xs H Q := by
  unfold biP at e
  split at e <;> first
    | (cases e; done)
    | (obtain ⟨h1, h2⟩ := guardO_eq e; cases h2; done)
    | (obtain ⟨is, e2, e3⟩ := need_eq e; obtain ⟨m, e4, e5⟩ := Option.map_eq_some_iff.mp e3; cases e5; done)
    | (obtain ⟨is, e2, e3⟩ := need_eq e; cases e3; done)
    | skip
  · obtain ⟨x, rfl, hv⟩ := hx.one
    obtain ⟨qs, e1, e2⟩ := Option.map_eq_some_iff.mp e
    cases e2
    obtain ⟨a, vs, rfl, h1, r1⟩ := hv.seq e1
    exact wC_of call_list_of ⟨a, vs, rfl, h1, n vs r1⟩
theorem se_biA {kk : Nat} (c : Ctx0 X kk) {b : Bi} {e : Expr} {es : List Expr} {p : Pos} {ees : E} (hg : Gl X (biName b)) (hm : X.mg (biName b) = none) (he : starEach (e :: es) X.env = (false, eval e X.env) :: starEach es X.env) (hpl : (backTo pos (starEach es X.env)).any (·.1) = false)
    (h : SEs X (e :: es) (fun sl M => evEs G ees sl M)) : SE X (.Call (.Name (biName b) p) (e :: es) [] pos) (fun sl M => evE G (.biA b ees) sl M) := by
  intro sl M r M' hf sv H Z mu S L xo Q k
  unfold evE at hf
  refine wE_of (pe_biW hg hm he hpl) ?_
  refine h.step hf S L xo fun ds M1 vs Z1 mu1 H1 S1 L1 T1 R1 xo1 hf1 => ?_
  obtain ⟨ps, e1, hf2⟩ := need_eq hf1
  obtain ⟨t, e2, hf3⟩ := need_eq hf2
  split at hf3
  · refine biL_ok e2 S1 (R1.views S1 e1) fun vs rs => ?_
    exact mkL_ok hf3 S1 (RDs.ofRps rs) fun d v Z' mu' H' e S' T' R' => k d v Z' mu' H' e S' (T1.trans T') R'
  · cases hf3
/-- x.frz: no code of its own -/
theorem frz_ok {K : PySem.W.Frag} {Z : Addr → Prop} {mu : List Addr} {M : Store} {H : Hp} {n : Nat} {p : PyData} {v : V} (S : StOk K Z mu H M) (R : RD K Z mu H v (.ref n)) (e : view M (.ref n) = some p) :
    ∃ Z', StOk K Z' mu H (M.set n none) ∧ Stp Z mu M H Z' mu (M.set n none) H ∧ Rp K Z' H v p := by
  cases R with
  | @ref a _ hm =>
    unfold Ev.view at e
    dsimp only at e
    cases q : M[n]? with
    | none =>
      rw [q] at e
      cases e
    | some o =>
      rw [q] at e
      cases o with
      | none => cases e
      | some c =>
        obtain ⟨b, e1, h⟩ := S.cell n c q
        rw [hm] at e1
        cases e1
        cases c with
        | dic _ => exact h.elim
        | ins _ _ => exact h.elim
        | lst xs =>
          obtain ⟨vs, e2, rs⟩ := h
          obtain ⟨ps, e3, e4⟩ := Option.map_eq_some_iff.mp (show (pures xs).map .list = some p from e)
          have la : Live mu M a := ⟨n, _, q, hm⟩
          have old : ∀ {r : Nat} {c : Cell}, (M.set n none)[r]? = some (some c) → r ≠ n ∧ M[r]? = some (some c) := fun {r c} h => by
            rcases getElem?_set_some h with ⟨_, z⟩ | ⟨h1, h2⟩
            · cases z
            · exact ⟨Ne.symm h1, h2⟩
          have lo : ∀ b, Live mu (M.set n none) b → Live mu M b ∧ b ≠ a := fun b ⟨r, c, h1, h2⟩ => by
            obtain ⟨h3, h4⟩ := old h1
            exact ⟨⟨r, c, h4, h2⟩, fun z => h3 (S.inj r n c _ a h4 q (by rw [← z]; exact h2) hm)⟩
          have T : Stp Z mu M H (Zp Z a) mu (M.set n none) H := ⟨fun _ h => .inl h, fun _ _ h => h, fun _ _ h _ => h, fun b l => .inl (lo b l).1, fun b z => z.elim .inl fun e => .inr (.inl (by rw [e]; exact la))⟩
          refine ⟨Zp Z a, ⟨by rw [List.length_set]; exact S.len, fun r c h => ?_, fun r s c c' b h1 h2 h3 h4 => ?_, fun b l z => ?_, fun b z => ?_⟩, T, ?_⟩
          · obtain ⟨h1, h2⟩ := old h
            obtain ⟨b, e5, h3⟩ := S.cell r c h2
            exact ⟨b, e5, h3.hold (S.hold T) T.m fun _ h => h⟩
          · exact S.inj r s c c' b (old h1).2 (old h2).2 h3 h4
          · obtain ⟨h1, h2⟩ := lo b l
            exact z.elim (S.nz b h1) h2
          · rcases z with z | z
            · exact S.fz b z
            · rw [z]
              exact ⟨_, e2⟩
          · rw [← e4]
            exact .lst (.inr rfl) e2 ((rs.pures e3).step S T)
/-- x.frz: no code of its own -/
theorem se_frz {a : Expr} {ea : E} (ha : SE X a (fun sl M => evE G ea sl M)) : SE X a (fun sl M => evE G (.frz ea) sl M) := by
  intro sl M r M' hf sv H Z mu S L xo Q k
  unfold evE at hf
  refine ha.step hf S L xo fun d M1 v Z1 mu1 H1 S1 L1 T1 R1 xo1 hf1 => ?_
  cases d with
  | v p =>
    obtain ⟨rfl, rfl⟩ := ret_eq hf1
    exact k _ v Z1 mu1 H1 rfl S1 T1 R1
  | scr is => cases hf1
  | ref n =>
    obtain ⟨p, e1, hf2⟩ := need_eq hf1
    obtain ⟨rfl, rfl⟩ := ret_eq hf2
    obtain ⟨Z', S', T', R'⟩ := frz_ok S1 R1 e1
    exact k _ v Z' mu1 H1 rfl S' (T1.trans T') (.v R')
end
end Ev

set_option maxRecDepth 100000
set_option maxHeartbeats 1000000
namespace Ev
open PySem PySem.Spec PyProof.Rows L2

/-! ### the cells that are reached -/
theorem close_ok {M : Store} : ∀ {n : Nat} {todo acc ord : List Nat}, close M n todo acc = some ord → acc.Nodup → (∀ r ∈ acc, r ∈ ord) ∧ (∀ r ∈ todo, r ∈ ord) ∧ ord.Nodup ∧
    ∀ r ∈ ord, r ∈ acc ∨ ∃ c, M[r]? = some (some c) ∧ ∀ s ∈ refsC c, s ∈ ord
  | 0, _, _, _, h, _ => by cases h
  | n + 1, [], acc, ord, h, nd => by
    cases h
    exact ⟨fun r h => h, fun r h => (List.not_mem_nil h).elim, nd, fun r h => .inl h⟩
  | n + 1, r :: rs, acc, ord, h, nd => by
    unfold close at h
    split at h
    · rename_i hr
      obtain ⟨h1, h2, h3, h4⟩ := close_ok h nd
      exact ⟨h1, fun s hs => (List.mem_cons.mp hs).elim (fun e => by rw [e]; exact h1 _ hr) (h2 s), h3, h4⟩
    · rename_i hr
      split at h
      · rename_i c e
        have nd2 : (acc ++ [r]).Nodup := by
          rw [List.nodup_append]
          refine ⟨nd, by simp, fun a ha b hb z => ?_⟩
          have : b = r := by simpa using hb
          exact hr (by rw [← this, ← z]; exact ha)
        obtain ⟨h1, h2, h3, h4⟩ := close_ok h nd2
        have hr2 : r ∈ ord := h1 r (by simp)
        refine ⟨fun s hs => h1 s (by simp [hs]), fun s hs => ?_, h3, fun s hs => ?_⟩
        · rcases List.mem_cons.mp hs with e2 | hs
          · rw [e2]
            exact hr2
          · exact h2 s (by simp [hs])
        · rcases h4 s hs with h5 | h5
          · rcases List.mem_append.mp h5 with h6 | h6
            · exact .inl h6
            · have : s = r := by simpa using h6
              subst this
              exact .inr ⟨c, e, fun t ht => h2 t (by simp [ht])⟩
          · exact .inr h5
      · cases h
theorem putAll_len : ∀ {ord : List Nat} {cs M : Store}, (putAll M ord cs).length = M.length
  | [], _, _ => by unfold putAll; rfl
  | r :: rs, [], _ => by unfold putAll; rfl
  | r :: rs, c :: cs, M => by
    unfold putAll
    rw [putAll_len, List.length_set]
theorem putAll_out : ∀ {ord : List Nat} {cs M : Store} {s : Nat}, s ∉ ord → (putAll M ord cs)[s]? = M[s]?
  | [], _, _, _, _ => by unfold putAll; rfl
  | r :: rs, [], _, _, _ => by unfold putAll; rfl
  | r :: rs, c :: cs, M, s, h => by
    unfold putAll
    rw [putAll_out (fun z => h (List.mem_cons_of_mem _ z)), List.getElem?_set_ne (fun z => h (by rw [← z]; exact List.mem_cons_self))]
theorem putAll_in : ∀ {ord : List Nat} {cs M : Store} {s j : Nat} {c : Option Cell}, ord.Nodup → ord[j]? = some s → cs[j]? = some c → s < M.length → (putAll M ord cs)[s]? = some c
  | [], _, _, _, _, _, _, h, _, _ => by simp at h
  | r :: rs, [], _, _, _, _, _, _, h, _ => by simp at h
  | r :: rs, c :: cs, M, s, 0, c', nd, h1, h2, h3 => by
    simp at h1 h2
    subst h1 h2
    unfold putAll
    rw [putAll_out (List.nodup_cons.mp nd).1, List.getElem?_set_self h3]
  | r :: rs, c :: cs, M, s, j + 1, c', nd, h1, h2, h3 => by
    unfold putAll
    exact putAll_in (j := j) (List.nodup_cons.mp nd).2 (by simpa using h1) (by simpa using h2) (by rw [List.length_set]; exact h3)
theorem idxOf_get : ∀ {ord : List Nat} {s : Nat}, s ∈ ord → ord[ord.idxOf s]? = some s
  | [], s, h => nomatch h
  | r :: rs, s, h => by
    rw [List.idxOf_cons]
    cases e : r == s with
    | true =>
      have : r = s := by simpa using e
      simp [this]
    | false =>
      have hne : r ≠ s := by simpa using e
      rcases List.mem_cons.mp h with h | h
      · exact absurd h.symm hne
      · simpa using idxOf_get h

section
variable {K : PySem.W.Frag} {Z : Addr → Prop} {mu : List Addr} {M : Store} {H : Hp}
theorem RD.rename {mu mu' : List Addr} {f : Nat → Nat} {v : V} {d : D} (h : RD K Z mu H v d) (hf : ∀ r ∈ refsD d, ∀ a, mu[r]? = some a → mu'[f r]? = some a) : RD K Z mu' H v (mapD f d) := by
  cases h with
  | v q => exact .v q
  | ref q => exact .ref (hf _ (by simp [refsD]) _ q)
  | scr q => exact .scr q
theorem RDs.rename {mu mu' : List Addr} {f : Nat → Nat} : ∀ {ds : List D} {vs : List V}, RDs K Z mu H vs ds → (∀ r ∈ refsDs ds, ∀ a, mu[r]? = some a → mu'[f r]? = some a) → RDs K Z mu' H vs (ds.map (mapD f))
  | [], _, h, _ => by
    cases h
    exact .nil
  | d :: ds, _, h, hf => by
    cases h with
    | cons q r => exact .cons (q.rename fun s hs => hf s (by simp [refsDs, hs])) (RDs.rename r fun s hs => hf s (by
        unfold refsDs
        rw [List.flatMap_cons]
        exact List.mem_append_right _ hs))
theorem CellAt.rename {mu mu' : List Addr} {f : Nat → Nat} {a : Addr} {c : Cell} (h : CellAt K Z mu H a c) (hf : ∀ r ∈ refsC c, ∀ a, mu[r]? = some a → mu'[f r]? = some a) : CellAt K Z mu' H a (mapC f c) := by
  cases c with
  | lst xs =>
    obtain ⟨vs, e, q⟩ := h
    exact ⟨vs, e, q.rename hf⟩
  | dic _ => exact h.elim
  | ins _ _ => exact h.elim
end

/-! ### a def's promise, under guards that are told -/
structure FnG (P : Program) (w : World) (K : PySem.W.Frag) (mg : Str → Option Value) (base : Heap) (k : Nat) (f : Addr) (fd : FuncData) (ps : List Str) (sp : Sp) : Prop where
  len : ∀ vs H Q E, sp vs H Q E → vs.length = ps.length
  run : ∀ (A : Around) (outer : List Env) (s : Shared) (H : Hp) (args : Args) (us : List Value) (vs : List V) (Q : VK) (E : XK), Room k A → A.guards = some [] → Env0 P w K mg base A outer s H → BindsTo s fd args (ps.zip us) → Vals vs us → sp vs H Q E →
    codeAny (model P w) A (.call (.ref f) args) (CR (L2.CX P w) outer P w H s Q E) s
section
variable {X : Cx} {k : Nat} {f : Addr} {fd : FuncData} {ps : List Str} {sp : Sp} {E : XK} {x : Str} {p pos : Pos} {e : Expr} {es : List Expr} {t : TA}
theorem run_fnG {pins : List (Addr × Obj)} {sv : L2.St} {H : Hp} {s : Shared} {Q : VK} {us : List Value} {vs : List V} (F : FnG X.prog X.w X.K X.mg X.base k f fd ps sp) (hr : Room k X.A) (hg : X.A.guards = some []) (hb : Binds X.K fd ps []) (hx : ∀ (pins : List (Addr × Obj)) (H : Hp) (s : Shared) (e : Value) (s' : Shared), L2.Inv X pins sv H s → L2.CX X.prog X.w X.stack H s E e s' → X.xe e s')
    (I : L2.Inv X pins sv H s) (r : Vals vs us) (h : sp vs H Q E) : wpAny (model X.prog X.w) X.A (PySem.call (.ref f) us) (EP X pins sv Q) X.xe s := by
  have hl : (us ++ ([] : List Value)).length = ps.length := by rw [List.append_nil, ← r.length]; exact F.len _ _ _ _ h
  have hb2 := hb s us I.kIn hl
  rw [List.append_nil] at hb2
  refine wpAny_call (codeAny_mono (F.run X.A X.stack s H ⟨us, []⟩ us vs Q E hr hg I.env0 hb2 r h) fun r s' hq => ?_)
  cases r with
  | error e => exact hx pins H s e s' I hq
  | ok fl =>
    cases fl with
    | ret u => exact I.after hq
    | next => exact False.elim hq
    | brk => exact False.elim hq
    | cont => exact False.elim hq
/-- what a callee may let out is taken, at the slots as they stand -/
def PassAll (X : Cx) (E : L2.St → XK) : Prop := ∀ (sv : L2.St) (pins : List (Addr × Obj)) (H : Hp) (s : Shared) (e : Value) (s' : Shared), L2.Inv X pins sv H s → L2.CX X.prog X.w X.stack H s (E sv) e s' → X.xe e s'
theorem passAll {W : WX} (tk : Takes X W) : PassAll X (fun sv cls dx H => W cls dx sv H) := fun sv pins H s e s' I c => tk e s' (XE.of_call I (fun cls d H' h => h) c)
def tCallG (sp : Sp) (E : L2.St → XK) (t : TA) : TE := fun sv H Q => t sv H fun vs H1 => sp vs H1 Q (E sv)
theorem pe_callG (F : FnG X.prog X.w X.K X.mg X.base k f fd ps sp) (hr : Room k X.A) (hgd : X.A.guards = some []) (hg : Gl X x) (hm : X.mg x = some (.ref f)) (hk : PySem.W.keepIn X.K (.ref f) = true) (hb : Binds X.K fd ps []) {E : L2.St → XK} (hx : PassAll X E)
    (ha : PA X (e :: es) t) (hdb : (x == ("__debug__" : Str)) = false) (he : starEach (e :: es) X.env = (false, eval e X.env) :: starEach es X.env) (hpl : (backTo pos (starEach es X.env)).any (·.1) = false) :
    PE X (.Call (.Name x p) (e :: es) [] pos) (tCallG sp E t) := by
  refine ⟨fun pins s sv H Q I h => ?_⟩
  refine wpAny_Call_Name_kw (ld_glob I hg hm ?_ hdb)
  refine PySem.W.callWith_K (h₀ := X.base) I.ok.mod.kin hk (thn (ha.run pos pins s sv H _ I h) fun us s1 ⟨vs, H1, I1, r, q⟩ => ⟨I1.kIn, ?_⟩) he hpl
  exact run_fnG F hr hgd hb (hx sv) I1 r q
theorem pe_call0G (F : FnG X.prog X.w X.K X.mg X.base k f fd ps sp) (hr : Room k X.A) (hgd : X.A.guards = some []) (hg : Gl X x) (hm : X.mg x = some (.ref f)) (hk : PySem.W.keepIn X.K (.ref f) = true) (hb : Binds X.K fd ps []) {E : L2.St → XK} (hx : PassAll X E)
    (hdb : (x == ("__debug__" : Str)) = false) : PE X (.Call (.Name x p) [] [] pos) (tCallG sp E tNil) := by
  refine ⟨fun pins s sv H Q I h => ?_⟩
  refine wpAny_Call_Name_kw (ld_glob I hg hm ?_ hdb)
  exact PySem.W.callWith_K0 I.kIn hk (run_fnG (us := []) F hr hgd hb (hx sv) I .nil h)
end
/-- what a call by the evaluator promises -/
def spC (K : PySem.W.Frag) (mg : Str → Option Value) (C : List D → Store → R D) : Sp := fun vs H Q E =>
  ∃ ds M r M' Z mu, C ds M = some (r, M') ∧ StOk K Z mu H M ∧ RDs K Z mu H vs ds ∧
    (∀ d v Z' mu' H', r = .ok d → StOk K Z' mu' H' M' → Stp Z mu M H Z' mu' M' H' → RD K Z' mu' H' v d → Q v H') ∧
    (∀ e cls dx Z' mu' H', r = .ex e → StOk K Z' mu' H' M' → Stp Z mu M H Z' mu' M' H' → ErrOk mg H' e cls dx → E cls dx H')
/-- every def that the evaluator calls is there and keeps that promise -/
def Calls (P : Program) (w : World) (K : PySem.W.Frag) (mg : Str → Option Value) (base : Heap) (k : Nat) (known : Str → Bool) (C : Str → List D → Store → R D) : Prop :=
  ∀ f, known f = true → ∃ fa fd ps, mg f = some (.ref fa) ∧ PySem.W.keepIn K (.ref fa) = true ∧ Binds K fd ps [] ∧ FnG P w K mg base k fa fd ps (spC K mg (C f))

/-! ### from the callee's cells to the caller's -/
section
variable {K : PySem.W.Frag} {Z : Addr → Prop} {mu : List Addr} {M : Store} {H : Hp} {mg : Str → Option Value}
theorem callX_ok {C : List D → Store → R D} {ds : List D} {M' : Store} {o : Out D} (hf : callX C ds M = some (o, M')) (S : StOk K Z mu H M) {vs : List V} (R : RDs K Z mu H vs ds) {Q : VK} {E : XK}
    (kok : ∀ d v Z' mu' H', o = .ok d → StOk K Z' mu' H' M' → Stp Z mu M H Z' mu' M' H' → RD K Z' mu' H' v d → Q v H')
    (kex : ∀ e cls dx Z' mu' H', o = .ex e → StOk K Z' mu' H' M' → Stp Z mu M H Z' mu' M' H' → ErrOk mg H' e cls dx → E cls dx H') : spC K mg C vs H Q E := by
  unfold callX at hf
  obtain ⟨ord, e1, hf⟩ := need_eq hf
  obtain ⟨-, h2, nd, h4⟩ := close_ok e1 .nil
  have hin : ∀ r ∈ ord, ∃ c, M[r]? = some (some c) ∧ ∀ s ∈ refsC c, s ∈ ord := fun r hr => (h4 r hr).elim (fun z => nomatch z) id
  -- the callee's places
  have hmu : ∀ r ∈ ord, ∃ a, mu[r]? = some a := fun r hr => by
    obtain ⟨c, ec, _⟩ := hin r hr
    obtain ⟨a, ea, _⟩ := S.cell r c ec
    exact ⟨a, ea⟩
  generalize hmu0 : ord.map (fun r => (mu[r]?).getD 0) = mu0
  generalize hM0 : (ord.map fun r => ((M[r]?).getD none).map (mapC ord.idxOf)) = M0 at hf
  have l0 : mu0.length = ord.length := by rw [← hmu0, List.length_map]
  have lM0 : M0.length = ord.length := by rw [← hM0, List.length_map]
  have at0 : ∀ {i r a : Nat}, ord[i]? = some r → mu[r]? = some a → mu0[i]? = some a := fun {i r a} h1 h2 => by
    rw [← hmu0, List.getElem?_map, h1]
    simp [h2]
  have of0 : ∀ {i a : Nat}, mu0[i]? = some a → ∃ r, ord[i]? = some r ∧ mu[r]? = some a := fun {i a} h => by
    rw [← hmu0, List.getElem?_map] at h
    obtain ⟨r, h1, h2⟩ := Option.map_eq_some_iff.mp h
    obtain ⟨b, hb⟩ := hmu r (List.mem_of_getElem? h1)
    rw [hb] at h2
    exact ⟨r, h1, by rw [hb]; exact congrArg some h2⟩
  have ofM0 : ∀ {i : Nat} {c : Cell}, M0[i]? = some (some c) → ∃ r c', ord[i]? = some r ∧ M[r]? = some (some c') ∧ c = mapC ord.idxOf c' := fun {i c} h => by
    rw [← hM0, List.getElem?_map] at h
    obtain ⟨r, h1, h2⟩ := Option.map_eq_some_iff.mp h
    obtain ⟨c', hc, _⟩ := hin r (List.mem_of_getElem? h1)
    rw [hc] at h2
    have h2 : some (mapC ord.idxOf c') = some c := h2
    exact ⟨r, c', h1, hc, (Option.some.inj h2).symm⟩
  have ren : ∀ s ∈ ord, ∀ a, mu[s]? = some a → mu0[ord.idxOf s]? = some a := fun s hs a ha => at0 (idxOf_get hs) ha
  have live0 : ∀ {a : Addr}, Live mu0 M0 a → ∃ r c, r ∈ ord ∧ M[r]? = some (some c) ∧ mu[r]? = some a := fun {a} ⟨i, c, h1, h2⟩ => by
    obtain ⟨r, c', h3, h5, _⟩ := ofM0 h1
    obtain ⟨r', h6, h7⟩ := of0 h2
    rw [h3] at h6
    cases h6
    exact ⟨r, c', List.mem_of_getElem? h3, h5, h7⟩
  have S0 : StOk K Z mu0 H M0 := by
    refine ⟨l0.trans lM0.symm, fun i c h => ?_, fun i j c c' a h1 h2 h3 h5 => ?_, fun a l => ?_, S.fz⟩
    · obtain ⟨r, c', h1, h3, rfl⟩ := ofM0 h
      obtain ⟨a, ea, q⟩ := S.cell r c' h3
      obtain ⟨c'', hc, hr⟩ := hin r (List.mem_of_getElem? h1)
      rw [h3] at hc
      cases hc
      exact ⟨a, at0 h1 ea, q.rename fun s hs b hb => ren s (hr s hs) b hb⟩
    · obtain ⟨r, d, g1, g2, _⟩ := ofM0 h1
      obtain ⟨s, d', g3, g4, _⟩ := ofM0 h2
      obtain ⟨r', g5, g6⟩ := of0 h3
      obtain ⟨s', g7, g8⟩ := of0 h5
      rw [g1] at g5
      rw [g3] at g7
      cases g5
      cases g7
      have : r = s := S.inj r s d d' a g2 g4 g6 g8
      subst this
      have hi := (List.getElem?_eq_some_iff.mp g1).1
      exact (List.getElem?_inj hi nd).mp (g1.trans g3.symm)
    · obtain ⟨r, c, _, h1, h3⟩ := live0 l
      exact S.nz a ⟨r, c, h1, h3⟩
  have R0 : RDs K Z mu0 H vs (ds.map (mapD ord.idxOf)) := R.rename fun s hs a ha => ren s (h2 s hs) a ha
  cases e2 : C (ds.map (mapD ord.idxOf)) M0 with
  | none =>
    rw [e2] at hf
    cases hf
  | some q =>
    obtain ⟨o1, M1⟩ := q
    rw [e2] at hf
    generalize hback : (fun j => match ord[j]? with
        | some r => r
        | none => M.length + (j - ord.length)) = back at hf
    have hf' : some (mapO back o1, putAll M ord ((M1.take ord.length).map (·.map (mapC back))) ++ (M1.drop ord.length).map (·.map (mapC back))) = some (o, M') := by
      rw [← hf, ← hback]
    injection hf' with hf'
    injection hf' with ho hM'
    have key : ∀ Z' mu1 H', StOk K Z' mu1 H' M1 → Stp Z mu0 M0 H Z' mu1 M1 H' → ∃ mu2, StOk K Z' mu2 H' M' ∧ Stp Z mu M H Z' mu2 M' H' ∧ ∀ j a, mu1[j]? = some a → mu2[back j]? = some a := by
      intro Z' mu1 H' S1 T1
      have ln : ord.length ≤ mu1.length := by
        by_cases hz : ord.length = 0
        · omega
        · have hlt : ord.length - 1 < mu0.length := by omega
          have := T1.m (ord.length - 1) mu0[ord.length - 1] (List.getElem?_eq_getElem hlt)
          have := (List.getElem?_eq_some_iff.mp this).1
          omega
      have lM1 : mu1.length = M1.length := S1.len
      have lM' : M'.length = M.length + (M1.length - ord.length) := by
        rw [← hM', List.length_append, putAll_len, List.length_map, List.length_drop]
      have bk1 : ∀ {j r : Nat}, ord[j]? = some r → back j = r := fun {j r} h => by
        rw [← hback]
        show (match ord[j]? with
          | some r => r
          | none => M.length + (j - ord.length)) = r
        rw [h]
      have bk2 : ∀ {j : Nat}, ord.length ≤ j → back j = M.length + (j - ord.length) := fun {j} h => by
        rw [← hback]
        show (match ord[j]? with
          | some r => r
          | none => M.length + (j - ord.length)) = _
        rw [List.getElem?_eq_none h]
      -- what stands in M'
      have old : ∀ {s : Nat} {c : Cell}, M'[s]? = some (some c) → (s ∉ ord ∧ M[s]? = some (some c)) ∨ (∃ j c1, back j = s ∧ M1[j]? = some (some c1) ∧ c = mapC back c1 ∧ ((ord[j]? = some s) ∨ (ord.length ≤ j ∧ s = M.length + (j - ord.length)))) := fun {s c} h => by
        rw [← hM'] at h
        by_cases hs : s < M.length
        · rw [List.getElem?_append_left (by rw [putAll_len]; exact hs)] at h
          by_cases hm : s ∈ ord
          · obtain ⟨j, hj⟩ := List.mem_iff_getElem?.mp hm
            have hjl := (List.getElem?_eq_some_iff.mp hj).1
            have hj1 : j < M1.length := by omega
            have hc : ((M1.take ord.length).map (·.map (mapC back)))[j]? = some ((M1[j]).map (mapC back)) := by
              rw [List.getElem?_map, List.getElem?_take_of_lt hjl, List.getElem?_eq_getElem hj1]
              rfl
            rw [putAll_in nd hj hc hs] at h
            obtain ⟨c1, e3, e4⟩ := Option.map_eq_some_iff.mp (Option.some.inj h)
            exact .inr ⟨j, c1, bk1 hj, by rw [List.getElem?_eq_getElem hj1, e3], e4.symm, .inl hj⟩
          · rw [putAll_out hm] at h
            exact .inl ⟨hm, h⟩
        · rw [List.getElem?_append_right (by rw [putAll_len]; omega), putAll_len, List.getElem?_map, List.getElem?_drop] at h
          obtain ⟨oc, e3, e4⟩ := Option.map_eq_some_iff.mp h
          obtain ⟨c1, e5, e6⟩ := Option.map_eq_some_iff.mp e4
          subst e5
          exact .inr ⟨ord.length + (s - M.length), c1, by rw [bk2 (by omega)]; omega, e3, e6.symm, .inr ⟨by omega, by omega⟩⟩
      have lmu : mu.length = M.length := S.len
      have atb : ∀ (j a : Nat), mu1[j]? = some a → (mu ++ mu1.drop ord.length)[back j]? = some a := fun j a h => by
        by_cases hj : j < ord.length
        · have hr : ord[j]? = some ord[j] := List.getElem?_eq_getElem hj
          rw [bk1 hr]
          obtain ⟨b, hb⟩ := hmu _ (List.mem_of_getElem? hr)
          have h3 := T1.m j b (at0 hr hb)
          rw [h] at h3
          cases h3
          exact (List.getElem?_append_left (List.getElem?_eq_some_iff.mp hb).1).trans hb
        · rw [bk2 (by omega), List.getElem?_append_right (by omega), List.getElem?_drop]
          rw [show ord.length + (M.length + (j - ord.length) - mu.length) = j by omega]
          exact h
      -- addresses of the callee's cells
      have inord : ∀ {a : Addr}, Live mu0 M0 a → Live mu M a := fun {a} l => by
        obtain ⟨r, c, _, h1, h3⟩ := live0 l
        exact ⟨r, c, h1, h3⟩
      have addr : ∀ {s a : Nat} {c : Cell}, M'[s]? = some (some c) → (mu ++ mu1.drop ord.length)[s]? = some a → (s ∉ ord ∧ M[s]? = some (some c) ∧ mu[s]? = some a) ∨ ∃ j c1, back j = s ∧ M1[j]? = some (some c1) ∧ mu1[j]? = some a := fun {s a c} h1 h3 => by
        rcases old h1 with ⟨h5, h6⟩ | ⟨j, c1, h5, h6, _, _⟩
        · have hs : s < mu.length := by
            rw [lmu]
            exact (List.getElem?_eq_some_iff.mp h6).1
          rw [List.getElem?_append_left hs] at h3
          exact .inl ⟨h5, h6, h3⟩
        · refine .inr ⟨j, c1, h5, h6, ?_⟩
          have hj : j < mu1.length := by
            rw [lM1]
            exact (List.getElem?_eq_some_iff.mp h6).1
          have h7 : mu1[j]? = some mu1[j] := List.getElem?_eq_getElem hj
          have h8 := atb j _ h7
          rw [h5, h3] at h8
          rw [h7, ← Option.some.inj h8]
      have notL : ∀ {s a : Nat} {c : Cell}, s ∉ ord → M[s]? = some (some c) → mu[s]? = some a → ¬ Live mu0 M0 a := fun {s a c} h1 h3 h5 l => by
        obtain ⟨r, c', hr, h6, h7⟩ := live0 l
        have : s = r := S.inj s r c c' a h3 h6 h5 h7
        exact h1 (by rw [this]; exact hr)
      have T : Stp Z mu M H Z' (mu ++ mu1.drop ord.length) M' H' := by
        refine ⟨T1.z, fun r a h => ?_, fun a oo h n => T1.keep a oo h fun l => n (inord l), fun a ⟨s, c, h1, h3⟩ => ?_, fun a z => ?_⟩
        · rw [List.getElem?_append_left (List.getElem?_eq_some_iff.mp h).1]
          exact h
        · rcases addr h1 h3 with ⟨_, h5, h6⟩ | ⟨j, c1, _, h5, h6⟩
          · exact .inl ⟨s, c, h5, h6⟩
          · rcases T1.back a ⟨j, c1, h5, h6⟩ with l | l
            · exact .inl (inord l)
            · exact .inr l
        · rcases T1.zback a z with z | l | l
          · exact .inl z
          · exact .inr (.inl (inord l))
          · exact .inr (.inr l)
      refine ⟨mu ++ mu1.drop ord.length, ⟨?_, fun s c h => ?_, fun s t c c' a h1 h3 h5 h6 => ?_, fun a ⟨s, c, h1, h3⟩ z => ?_, S1.fz⟩, T, atb⟩
      · rw [List.length_append, List.length_drop, lM', lmu]
        omega
      · rcases old h with ⟨h1, h3⟩ | ⟨j, c1, h1, h3, rfl, _⟩
        · obtain ⟨a, ea, q⟩ := S.cell s c h3
          refine ⟨a, T.m s a ea, q.hold (S.hold T) T.m fun u hu => T1.keep a u hu (notL h1 h3 ea)⟩
        · obtain ⟨a, ea, q⟩ := S1.cell j c1 h3
          rw [← h1]
          exact ⟨a, atb j a ea, q.rename fun t _ b hb => atb t b hb⟩
      · have cellNN : ∀ {s a : Nat} {c : Cell}, M[s]? = some (some c) → mu[s]? = some a → H a ≠ none := fun {s a c} h1 h3 hn => S.noL hn ⟨s, c, h1, h3⟩
        have mix : ∀ {s a : Nat} {c : Cell} {j : Nat} {c1 : Cell}, s ∉ ord → M[s]? = some (some c) → mu[s]? = some a → M1[j]? = some (some c1) → mu1[j]? = some a → False := fun {s a c j c1} g1 g2 g3 g4 g5 => by
          rcases T1.back a ⟨j, c1, g4, g5⟩ with l | l
          · exact notL g1 g2 g3 l
          · exact cellNN g2 g3 l
        rcases addr h1 h5 with ⟨g1, g2, g3⟩ | ⟨j, c1, g1, g2, g3⟩
        · rcases addr h3 h6 with ⟨g4, g5, g6⟩ | ⟨i, c2, g4, g5, g6⟩
          · exact S.inj s t c c' a g2 g5 g3 g6
          · exact (mix g1 g2 g3 g5 g6).elim
        · rcases addr h3 h6 with ⟨g4, g5, g6⟩ | ⟨i, c2, g4, g5, g6⟩
          · exact (mix g4 g5 g6 g2 g3).elim
          · rw [← g1, ← g4, S1.inj j i c1 c2 a g2 g5 g3 g6]
      · rcases addr h1 h3 with ⟨g1, g2, g3⟩ | ⟨j, c1, _, g2, g3⟩
        · rcases T1.zback a z with z | l | l
          · exact S.nz a ⟨s, c, g2, g3⟩ z
          · exact notL g1 g2 g3 l
          · exact S.noL l ⟨s, c, g2, g3⟩
        · exact S1.nz a ⟨j, c1, g2, g3⟩ z
    refine ⟨_, M0, o1, M1, Z, mu0, e2, S0, R0, fun d v Z' mu' H' e S' T' R' => ?_, fun e cls dx Z' mu' H' ee S' T' ok => ?_⟩
    · obtain ⟨mu2, S2, T2, hm⟩ := key Z' mu' H' S' T'
      refine kok (mapD back d) v Z' mu2 H' ?_ S2 T2 (R'.rename fun r _ a ha => hm r a ha)
      rw [← ho, e]
      rfl
    · obtain ⟨mu2, S2, T2, hm⟩ := key Z' mu' H' S' T'
      refine kex e cls dx Z' mu2 H' ?_ S2 T2 ok
      rw [← ho, ee]
      rfl
end
section
variable {X : Cx} {G : Sig} {pos : Pos}
theorem se_call {kk k : Nat} (c : Ctx0 X kk) (hk : k ≤ kk) {known : Str → Bool} (hC : Calls X.prog X.w X.K X.mg X.base k known G.call) {f : Str} (hf : known f = true) {e : Expr} {es : List Expr} {p : Pos} {ees : E} (hg : Gl X f) (hdb : (f == ("__debug__" : Str)) = false)
    (he : starEach (e :: es) X.env = (false, eval e X.env) :: starEach es X.env) (hpl : (backTo pos (starEach es X.env)).any (·.1) = false) (h : SEs X (e :: es) (fun sl M => evEs G ees sl M)) :
    SE X (.Call (.Name f p) (e :: es) [] pos) (fun sl M => evE G (.call f ees) sl M) := by
  intro sl M r M' hfe sv H Z mu S L xo Q k'
  unfold evE at hfe
  obtain ⟨fa, fd, ps, hm, hkp, hb, F⟩ := hC f hf
  obtain ⟨W, tk, xp⟩ := xo
  refine wE_of (pe_callG F (c.room.mono hk) c.g hg hm hkp hb (passAll tk) (pa_w X (e :: es)) hdb he hpl) ?_
  refine h.step hfe S L ⟨W, tk, xp⟩ fun ds M1 vs Z1 mu1 H1 S1 L1 T1 R1 xo1 hf1 => ?_
  exact callX_ok hf1 S1 R1 (fun d v Z' mu' H' e S' T' R' => k' d v Z' mu' H' e S' (T1.trans T') R') fun e cls dx Z' mu' H' ee S' T' ok => xp e cls dx Z' mu' H' ee S' (T1.trans T') ok
theorem se_call0 {kk k : Nat} (c : Ctx0 X kk) (hk : k ≤ kk) {known : Str → Bool} (hC : Calls X.prog X.w X.K X.mg X.base k known G.call) {f : Str} (hf : known f = true) {p : Pos} (hg : Gl X f) (hdb : (f == ("__debug__" : Str)) = false) :
    SE X (.Call (.Name f p) [] [] pos) (fun sl M => evE G (.call f .nil) sl M) := by
  intro sl M r M' hfe sv H Z mu S L xo Q k'
  unfold evE at hfe
  obtain ⟨fa, fd, ps, hm, hkp, hb, F⟩ := hC f hf
  obtain ⟨W, tk, xp⟩ := xo
  refine wE_of (pe_call0G F (c.room.mono hk) c.g hg hm hkp hb (passAll tk) hdb) ?_
  have hf1 : callX (G.call f) [] M = some (r, M') := by
    unfold evEs at hfe
    exact hfe
  exact callX_ok hf1 S .nil (fun d v Z' mu' H' e S' T' R' => k' d v Z' mu' H' e S' T' R') fun e cls dx Z' mu' H' ee S' T' ok => xp e cls dx Z' mu' H' ee S' T' ok
end
end Ev

set_option maxRecDepth 100000
set_option maxHeartbeats 1000000
namespace Ev
open PySem PySem.Spec PyProof.Rows L2

/-! ### rows of expressions without a star -/
def starred : Expr → Bool
  | .Starred _ _ => true
  | _ => false
theorem starEach_cons {e : Expr} {es : List Expr} {env : Env} (h : starred e = false) : starEach (e :: es) env = (false, eval e env) :: starEach es env := by
  cases e <;> first | rfl | cases h
theorem starEach_star {e : Expr} {es : List Expr} {env : Env} {p : Pos} : starEach (.Starred e p :: es) env = (true, eval e env) :: starEach es env := rfl
theorem back_plain {env : Env} {pos : Pos} : ∀ {es : List Expr}, (∀ e ∈ es, starred e = false) → (backTo pos (starEach es env)).any (·.1) = false
  | [], _ => rfl
  | e :: es, h => by
    rw [starEach_cons (h e List.mem_cons_self)]
    show (false || (backTo pos (starEach es env)).any (·.1)) = false
    rw [back_plain fun e he => h e (List.mem_cons_of_mem _ he)]
    rfl
theorem assignEach_cons {e : Expr} {es : List Expr} {env : Env} (h : starred e = false) : assignEach (e :: es) env = (false, assign e env) :: assignEach es env := by
  cases e <;> first | rfl | cases h
theorem assignEach_len {env : Env} : ∀ {es : List Expr}, (∀ e ∈ es, starred e = false) → (assignEach es env).length = es.length ∧ (assignEach es env).findIdx? (·.1) = none
  | [], _ => ⟨rfl, rfl⟩
  | e :: es, h => by
    obtain ⟨h1, h2⟩ := assignEach_len (env := env) (es := es) fun e he => h e (List.mem_cons_of_mem _ he)
    rw [assignEach_cons (h e List.mem_cons_self)]
    refine ⟨congrArg (· + 1) h1, ?_⟩
    rw [List.findIdx?_cons]
    simp [h2]

/-! ### targets -/
def wG (X : Cx) (t : Expr) : TG := fun v sv H Q => ∀ pins s u, L2.Inv X pins sv H s → RelV v u → wpAny (model X.prog X.w) X.A (assign t X.env u) (fun _ s' => ∃ σ' H', L2.Inv X pins σ' H' s' ∧ Q σ' H') X.xe s
theorem pg_w (X : Cx) (t : Expr) : PG X t (wG X t) := ⟨fun pins s sv H v u Q I r h => h pins s u I r⟩
theorem wG_of {X : Cx} {t : Expr} {g : TG} (h : PG X t g) {v : V} {sv : L2.St} {H : Hp} {Q : L2.St → Hp → Prop} (q : g v sv H Q) : wG X t v sv H Q := fun pins s u I r => h.run pins s sv H v u Q I r q
def wGs (X : Cx) (ts : List Expr) : TGs := fun vs sv H Q => ∀ pins s us, L2.Inv X pins sv H s → Vals vs us → wpAny (model X.prog X.w) X.A (assignInOrder ((assignEach ts X.env).map (·.2)) us) (fun _ s' => ∃ σ' H', L2.Inv X pins σ' H' s' ∧ Q σ' H') X.xe s
theorem pgs_w (X : Cx) (t : List Expr) : PGs X t (wGs X t) := ⟨fun pins s sv H v u Q I r h => h pins s u I r⟩
theorem wGs_of {X : Cx} {t : List Expr} {g : TGs} (h : PGs X t g) {v : List V} {sv : L2.St} {H : Hp} {Q : L2.St → Hp → Prop} (q : g v sv H Q) : wGs X t v sv H Q := fun pins s u I r => h.run pins s sv H v u Q I r q
def tgSlots : Tg → List Nat
  | .s i => [i]
  | .tup g => tgSlots g
  | .nil => []
  | .cons g gs => tgSlots g ++ tgSlots gs
/-- only these slots are another -/
def OnlyAt (is : List Nat) (sv sv' : L2.St) : Prop := sv'.length = sv.length ∧ ∀ j, j ∉ is → sv'[j]? = sv[j]?
section
variable {X : Cx} {G : Sig} {pos : Pos}
def STg (X : Cx) (t : Expr) (g : Tg) : Prop :=
  ∀ (d : D) (v : V) (sl sl' : Slots) (sv : L2.St) (H : Hp) (Z : Addr → Prop) (mu : List Addr) (M : Store), setT g d sl = some sl' → StOk X.K Z mu H M → SlOk X.K Z mu H sv sl → RD X.K Z mu H v d →
    ∀ Q : L2.St → Hp → Prop, (∀ sv', SlOk X.K Z mu H sv' sl' → OnlyAt (tgSlots g) sv sv' → Q sv' H) → wG X t v sv H Q
def STgs (X : Cx) (ts : List Expr) (g : Tg) : Prop :=
  ∀ (ds : List D) (vs : List V) (sl sl' : Slots) (sv : L2.St) (H : Hp) (Z : Addr → Prop) (mu : List Addr) (M : Store), setTs g ds sl = some sl' → StOk X.K Z mu H M → SlOk X.K Z mu H sv sl → RDs X.K Z mu H vs ds →
    ∀ Q : L2.St → Hp → Prop, (∀ sv', SlOk X.K Z mu H sv' sl' → OnlyAt (tgSlots g) sv sv' → Q sv' H) → wGs X ts vs sv H Q
theorem stg_name {i : Nat} {x : Str} (hN : X.N.Nodup) (hi : X.N[i]? = some x) (hx : L2.Loc X.env.scope x) (hf : X.fn x = true ∨ X.env.scope.names.lookup x = some .local) : STg X (.Name x pos) (.s i) := by
  intro d v sl sl' sv H Z mu M e S L R Q k
  unfold setT at e
  split at e
  · cases e
    refine wG_of (pg_name hN hi hx hf) (k _ (L.set R) ⟨List.length_set, fun j hj => ?_⟩)
    rw [List.getElem?_set_ne (fun z => hj (by simp [tgSlots, z]))]
  · cases e
theorem stgs_nil : STgs X [] .nil := by
  intro ds vs sl sl' sv H Z mu M e S L R Q k
  unfold setTs at e
  cases ds with
  | nil =>
    cases e
    cases R
    exact wGs_of pgs_nil ⟨rfl, k sv L ⟨rfl, fun _ _ => rfl⟩⟩
  | cons _ _ => cases e
theorem stgs_cons {t : Expr} {ts : List Expr} {g gs : Tg} (h1 : STg X t g) (h2 : STgs X ts gs) (hs : starred t = false) : STgs X (t :: ts) (.cons g gs) := by
  intro ds vs sl sl' sv H Z mu M e S L R Q k
  unfold setTs at e
  cases ds with
  | nil => cases e
  | cons d r =>
    obtain ⟨sl1, e1, e2⟩ := need_eq e
    cases R with
    | cons R1 R2 =>
      refine wGs_of (pgs_cons (pg_w X t) (pgs_w X ts) (by rw [assignEach_cons hs]; rfl)) ⟨_, _, rfl, ?_⟩
      refine h1 d _ sl sl1 sv H Z mu M e1 S L R1 _ fun sv1 L1 o1 => ?_
      refine h2 r _ sl1 sl' sv1 H Z mu M e2 S L1 R2 _ fun sv2 L2 o2 => ?_
      refine k sv2 L2 ⟨o2.1.trans o1.1, fun j hj => ?_⟩
      have hj2 : j ∉ tgSlots g ∧ j ∉ tgSlots gs := by
        constructor <;> intro z <;> exact hj (by simp [tgSlots, z])
      rw [o2.2 j hj2.2, o1.2 j hj2.1]
theorem setTs_len : ∀ {g : Tg} {ds : List D} {sl sl' : Slots} {n : Nat}, setTs g ds sl = some sl' → ds.length = ds.length := fun _ => rfl
def tgLen : Tg → Nat
  | .cons _ gs => tgLen gs + 1
  | _ => 0
theorem setTs_tgLen : ∀ {g : Tg} {ds : List D} {sl sl' : Slots}, setTs g ds sl = some sl' → ds.length = tgLen g
  | .nil, ds, _, _, h => by
    unfold setTs at h
    cases ds with
    | nil => rfl
    | cons _ _ => cases h
  | .cons g gs, ds, _, _, h => by
    unfold setTs at h
    cases ds with
    | nil => cases h
    | cons d r =>
      obtain ⟨_, _, e2⟩ := need_eq h
      exact congrArg (· + 1) (setTs_tgLen e2)
  | .s _, _, _, _, h => by
    unfold setTs at h
    cases h
  | .tup _, _, _, _, h => by
    unfold setTs at h
    cases h
theorem stg_tup {ts : List Expr} {j : Nat} {g : Tg} (hc : X.calm = true) (h : STgs X ts g) (hl : tgLen g = ts.length) (hs : ∀ e ∈ ts, starred e = false) : STg X (.Tuple ts j pos) (.tup g) := by
  intro d v sl sl' sv H Z mu M e S L R Q k
  obtain ⟨l1, l2⟩ := assignEach_len (env := X.env) hs
  unfold setT at e
  split at e
  · rename_i ps
    have hn : ps.length = ts.length := by
      have := setTs_tgLen e
      rw [List.length_map] at this
      omega
    cases R with
    | v R =>
      cases R with
      | tup h1 r1 =>
        refine wG_of (pg_tup (n := ts.length) hc (pgs_w X ts) l1 l2) ⟨_, _, rfl, h1, by rw [r1.length]; exact hn, ?_⟩
        exact h _ _ sl sl' sv H Z mu M e S L (RDs.ofRps r1) Q k
  · rename_i ps
    have hn : ps.length = ts.length := by
      have := setTs_tgLen e
      rw [List.length_map] at this
      omega
    cases R with
    | v R =>
      cases R with
      | lst z h1 r1 =>
        refine wG_of (pg_lst (n := ts.length) hc (pgs_w X ts) l1 l2) ⟨_, _, rfl, .inl (.inl h1), by rw [r1.length]; exact hn, ?_⟩
        exact h _ _ sl sl' sv H Z mu M e S L (RDs.ofRps r1) Q k
  · cases e
end

/-! ### forgotten slots -/
theorem wipe_get (sv : L2.St) : ∀ (is : List Nat) (j : Nat), (wipe sv is)[j]? = if j ∈ is then (sv[j]?).map (fun _ => none) else sv[j]?
  | [], j => by simp [wipe]
  | i :: is, j => by
    unfold wipe
    rw [List.getElem?_set]
    by_cases h : i = j
    · subst h
      have hl := wipe_length sv is
      by_cases hlt : i < sv.length
      · simp [hl, hlt]
      · simp [hl, hlt]
    · rw [if_neg h, wipe_get sv is j]
      have h2 : j ≠ i := fun z => h z.symm
      simp [h2]
theorem wipe_eq {sv sv' : L2.St} {is : List Nat} (h : OnlyAt is sv sv') : wipe sv' is = wipe sv is := by
  apply List.ext_getElem?
  intro j
  rw [wipe_get, wipe_get]
  by_cases hj : j ∈ is
  · rw [if_pos hj, if_pos hj]
    by_cases hl : j < sv.length
    · rw [List.getElem?_eq_getElem hl, List.getElem?_eq_getElem (by rw [h.1]; exact hl)]
      rfl
    · have hq := h.1
      rw [List.getElem?_eq_none (show sv.length ≤ j by omega), List.getElem?_eq_none (show sv'.length ≤ j by omega)]
  · rw [if_neg hj, if_neg hj, h.2 j hj]
theorem wipe_wipe (sv : L2.St) (is : List Nat) : wipe (wipe sv is) is = wipe sv is := wipe_eq ⟨wipe_length sv is, fun j hj => by rw [wipe_get, if_neg hj]⟩
theorem wipeT_len : ∀ (g : Tg) (sl : Slots), (wipeT g sl).length = sl.length
  | .s i, sl => List.length_set
  | .tup g, sl => wipeT_len g sl
  | .nil, sl => rfl
  | .cons g gs, sl => by
    unfold wipeT
    rw [wipeT_len gs, wipeT_len g]
theorem wipeT_get : ∀ (g : Tg) (sl : Slots) (j : Nat) (d : D), (wipeT g sl)[j]? = some (some d) → sl[j]? = some (some d) ∧ j ∉ tgSlots g
  | .s i, sl, j, d, h => by
    unfold wipeT at h
    rcases getElem?_set_some h with ⟨_, z⟩ | ⟨h1, h2⟩
    · cases z
    · exact ⟨h2, fun z => h1 (by simp [tgSlots] at z; exact z.symm)⟩
  | .tup g, sl, j, d, h => wipeT_get g sl j d h
  | .nil, sl, j, d, h => ⟨h, fun z => nomatch z⟩
  | .cons g gs, sl, j, d, h => by
    obtain ⟨h1, h2⟩ := wipeT_get gs (wipeT g sl) j d h
    obtain ⟨h3, h4⟩ := wipeT_get g sl j d h1
    exact ⟨h3, fun z => by
      unfold tgSlots at z
      exact (List.mem_append.mp z).elim h4 h2⟩
theorem SlOk.wiped {K : PySem.W.Frag} {Z : Addr → Prop} {mu : List Addr} {H : Hp} {sv : L2.St} {sl : Slots} {g : Tg} {is : List Nat} (L : SlOk K Z mu H sv sl) (h : ∀ j, j ∈ is ↔ j ∈ tgSlots g) : SlOk K Z mu H (wipe sv is) (wipeT g sl) := by
  refine ⟨by rw [wipe_length, wipeT_len]; exact L.len, fun j d e => ?_⟩
  obtain ⟨h1, h2⟩ := wipeT_get g sl j d e
  obtain ⟨v, e1, q⟩ := L.at_ j d h1
  exact ⟨v, by rw [wipe_get, if_neg (fun z => h2 ((h j).mp z))]; exact e1, q⟩

/-! ### the same list -/
mutual
theorem sameP_eq : ∀ {p q : PyData}, sameP p q = true → p = q
  | .none, .none, _ => rfl
  | .bool a, .bool b, h => by
    unfold sameP at h
    rw [dec h]
  | .int a, .int b, h => by
    unfold sameP at h
    rw [dec h]
  | .str a, .str b, h => by
    unfold sameP at h
    rw [dec h]
  | .list a, .list b, h => by
    unfold sameP at h
    rw [samePs_eq h]
  | .tuple a, .tuple b, h => by
    unfold sameP at h
    rw [samePs_eq h]
  | .none, .bool _, h | .none, .int _, h | .none, .str _, h | .none, .list _, h | .none, .tuple _, h | .none, .dict _, h => by unfold sameP at h; cases h
  | .bool _, .none, h | .bool _, .int _, h | .bool _, .str _, h | .bool _, .list _, h | .bool _, .tuple _, h | .bool _, .dict _, h => by unfold sameP at h; cases h
  | .int _, .none, h | .int _, .bool _, h | .int _, .str _, h | .int _, .list _, h | .int _, .tuple _, h | .int _, .dict _, h => by unfold sameP at h; cases h
  | .str _, .none, h | .str _, .bool _, h | .str _, .int _, h | .str _, .list _, h | .str _, .tuple _, h | .str _, .dict _, h => by unfold sameP at h; cases h
  | .list _, .none, h | .list _, .bool _, h | .list _, .int _, h | .list _, .str _, h | .list _, .tuple _, h | .list _, .dict _, h => by unfold sameP at h; cases h
  | .tuple _, .none, h | .tuple _, .bool _, h | .tuple _, .int _, h | .tuple _, .str _, h | .tuple _, .list _, h | .tuple _, .dict _, h => by unfold sameP at h; cases h
  | .dict _, q, h => by unfold sameP at h; cases h
theorem samePs_eq : ∀ {p q : List PyData}, samePs p q = true → p = q
  | [], [], _ => rfl
  | a :: r, b :: s, h => by
    unfold samePs at h
    obtain ⟨h1, h2⟩ := and2 h
    rw [sameP_eq h1, samePs_eq h2]
  | [], _ :: _, h => by unfold samePs at h; cases h
  | _ :: _, [], h => by unfold samePs at h; cases h
end
theorem sameD_eq {p q : D} (h : sameD p q = true) : p = q := by
  unfold sameD at h
  split at h
  · rw [sameP_eq h]
  · rw [dec h]
  · cases h
theorem sameDs_eq : ∀ {p q : List D}, sameDs p q = true → p = q
  | [], [], _ => rfl
  | a :: r, b :: s, h => by
    unfold sameDs at h
    obtain ⟨h1, h2⟩ := and2 h
    rw [sameD_eq h1, sameDs_eq h2]
  | [], _ :: _, h => by unfold sameDs at h; cases h
  | _ :: _, [], h => by unfold sameDs at h; cases h
end Ev

set_option maxRecDepth 100000
set_option maxHeartbeats 1000000
namespace Ev
open PySem PySem.Spec PyProof.Rows L2

def wI (X : Cx) (tg iter : Expr) : TI := fun sv H R => ∀ pins s, L2.Inv X pins sv H s → wpAny (model X.prog X.w) X.A (eval iter X.env) (fun v s1 => wpAny (model X.prog X.w) X.A (pyIter v) (PIE X pins sv tg R) X.xe s1) X.xe s
theorem pi_w (X : Cx) (tg iter : Expr) : PI X tg iter (wI X tg iter) := ⟨fun pins s _ _ _ I h => h pins s I⟩
theorem wI_of {X : Cx} {tg iter : Expr} {t : TI} (h : PI X tg iter t) {sv : L2.St} {H : Hp} {R : It → Hp → Prop} (q : t sv H R) : wI X tg iter sv H R := fun pins s I => h.run pins s sv H R I q
/-- the invariant is there where the value is -/
theorem wE_inv {X : Cx} {e : Expr} {sv : L2.St} {H : Hp} {Q : VK} (h : wE X e sv H fun v H' => (∃ pins s, L2.Inv X pins sv H' s) → Q v H') : wE X e sv H Q :=
  fun pins s I => thn (h pins s I) fun u s' ⟨v, H', I', r, q⟩ => ⟨v, H', I', r, q ⟨pins, s', I'⟩⟩
theorem wA_inv {X : Cx} {e : List Expr} {sv : L2.St} {H : Hp} {Q : List V → Hp → Prop} (h : wA X e sv H fun v H' => (∃ pins s, L2.Inv X pins sv H' s) → Q v H') : wA X e sv H Q :=
  fun pos pins s I => thn (h pos pins s I) fun u s' ⟨v, H', I', r, q⟩ => ⟨v, H', I', r, q ⟨pins, s', I'⟩⟩

/-- what an iterator yields from here on -/
structure Walk (K : PySem.W.Frag) (J : It) (rs : List Nat) (items : List D) (Z1 : Addr → Prop) (mu1 : List Addr) (M1 : Store) (H1 : Hp) : Prop where
  len : items.length ≤ sizeLine
  st0 : stays rs M1 M1 = true
  go : ∀ (Z : Addr → Prop) (mu : List Addr) (M : Store) (H : Hp) (i : Nat) (d : D), StOk K Z mu H M → Stp Z1 mu1 M1 H1 Z mu M H → stays rs M1 M = true → items[i]? = some d → J.go i H ∧ ∀ x H', J.yld i H x H' → ∃ Z', StOk K Z' mu H' M ∧ Stp Z mu M H Z' mu M H' ∧ RD K Z' mu H' x d
  stop : ∀ (Z : Addr → Prop) (mu : List Addr) (M : Store) (H : Hp) (i : Nat), StOk K Z mu H M → Stp Z1 mu1 M1 H1 Z mu M H → stays rs M1 M = true → items.length ≤ i → J.stop i H
def SI (X : Cx) (tg iter : Expr) (f : Slots → Store → R (List D × List Nat)) : Prop :=
  ∀ (sl : Slots) (M : Store) (r : Out (List D × List Nat)) (M' : Store), f sl M = some (r, M') → ∀ (sv : L2.St) (H : Hp) (Z : Addr → Prop) (mu : List Addr), StOk X.K Z mu H M → SlOk X.K Z mu H sv sl → XOk X sv Z mu M H r M' →
    ∀ R : It → Hp → Prop, (∀ it J Z' mu' H', r = .ok it → StOk X.K Z' mu' H' M' → Stp Z mu M H Z' mu' M' H' → Walk X.K J it.2 it.1 Z' mu' M' H' → R J H') → wI X tg iter sv H R
def evI (G : Sig) (k : ItK) (its : E) (sl : Slots) (M : Store) : R (List D × List Nat) := (evEs G its sl M).bind fun ds M => need (itemsOf k ds M) fun it => retR it M
theorem bind_bind {α β γ : Type} (x : R α) (f : α → Store → R β) (g : β → Store → R γ) : (x.bind f).bind g = x.bind fun a M => (f a M).bind g := by
  cases x with
  | none => rfl
  | some p =>
    obtain ⟨o, M⟩ := p
    cases o <;> rfl
theorem evI_bind {β : Type} {G : Sig} {k : ItK} {its : E} {sl : Slots} {M : Store} {g : (List D × List Nat) → Store → R β} : ((evEs G its sl M).bind fun ds M => need (itemsOf k ds M) fun it => g it M) = (evI G k its sl M).bind g := by
  unfold evI
  rw [bind_bind]
  congr 1
  funext ds M
  cases itemsOf k ds M <;> rfl
section
variable {X : Cx} {sv : L2.St} {sl : Slots} {Z Z' Z1 : Addr → Prop} {mu mu' mu1 : List Addr} {M M' M1 : Store} {H H' H1 : Hp} {α β γ : Type} {r : Out β}
theorem SI.step {tg iter : Expr} {f : Slots → Store → R (List D × List Nat)} (h : SI X tg iter f) {g : (List D × List Nat) → Store → R β} (hf : (f sl M).bind g = some (r, M')) (S : StOk X.K Z mu H M) (L : SlOk X.K Z mu H sv sl) (x : XOk X sv Z mu M H r M') {Q : It → Hp → Prop}
    (k : ∀ it M1 J Z1 mu1 H1, StOk X.K Z1 mu1 H1 M1 → SlOk X.K Z1 mu1 H1 sv sl → Stp Z mu M H Z1 mu1 M1 H1 → Walk X.K J it.2 it.1 Z1 mu1 M1 H1 → XOk X sv Z1 mu1 M1 H1 r M' → g it M1 = some (r, M') → Q J H1) : wI X tg iter sv H Q := by
  cases e : f sl M with
  | none =>
    rw [e] at hf
    cases hf
  | some p =>
    obtain ⟨o, M1⟩ := p
    rw [e] at hf
    cases o with
    | ex er =>
      have hf' : some (Out.ex er, M1) = some (r, M') := hf
      cases hf'
      exact h sl M _ _ e sv H Z mu S L (x.conv fun e z => by cases z; rfl) Q fun d J Z' mu' H' z => nomatch z
    | ok d =>
      have hf' : g d M1 = some (r, M') := hf
      exact h sl M _ _ e sv H Z mu S L XOk.ok Q fun it J Z1 mu1 H1 z S1 T1 W => by
        cases z
        exact k d M1 J Z1 mu1 H1 S1 (L.step S T1) T1 W (x.step T1) hf'
end

/-! ### sources -/
section
variable {K : PySem.W.Frag} {Z1 : Addr → Prop} {mu1 : List Addr} {M1 : Store} {H1 : Hp}
/-- a list that stands still -/
def LSrc (K : PySem.W.Frag) (a : Addr) (rs : List Nat) (items : List D) (Z1 : Addr → Prop) (mu1 : List Addr) (M1 : Store) (H1 : Hp) : Prop :=
  ∀ (Z : Addr → Prop) (mu : List Addr) (M : Store) (H : Hp), StOk K Z mu H M → Stp Z1 mu1 M1 H1 Z mu M H → stays rs M1 M = true → ∃ vs, H a = some (.lst vs) ∧ RDs K Z mu H vs items
def TSrc (K : PySem.W.Frag) (a : Addr) (items : List D) (Z1 : Addr → Prop) (mu1 : List Addr) (M1 : Store) (H1 : Hp) : Prop :=
  ∀ (Z : Addr → Prop) (mu : List Addr) (M : Store) (H : Hp), StOk K Z mu H M → Stp Z1 mu1 M1 H1 Z mu M H → ∃ vs, SqT K H a vs ∧ RDs K Z mu H vs items
theorem lsrc_v {v : V} {ps : List PyData} (S : StOk K Z1 mu1 H1 M1) (R : Rp K Z1 H1 v (.list ps)) : ∃ a, v = .ref a ∧ LSrc K a [] (ps.map .v) Z1 mu1 M1 H1 := by
  cases R with
  | lst z h r =>
    refine ⟨_, rfl, fun Z mu M H S' T _ => ⟨_, (S.hold T).l _ _ z h, ?_⟩⟩
    exact RDs.ofRps (r.step S T)
theorem tsrc_v {v : V} {ps : List PyData} (S : StOk K Z1 mu1 H1 M1) (R : Rp K Z1 H1 v (.tuple ps)) : ∃ a, v = .ref a ∧ TSrc K a (ps.map .v) Z1 mu1 M1 H1 := by
  cases R with
  | tup h r =>
    refine ⟨_, rfl, fun Z mu M H S' T => ⟨_, (S.hold T).t _ _ h, ?_⟩⟩
    exact RDs.ofRps (r.step S T)
theorem sameLst_eq {r : Nat} {M N : Store} {xs : List D} (h : sameLst r M N = true) (e : M[r]? = some (some (.lst xs))) : N[r]? = some (some (.lst xs)) := by
  unfold sameLst at h
  rw [e] at h
  split at h
  · rename_i xs' ys e1 e2
    cases e1
    rw [e2, sameDs_eq h]
  · cases h
theorem stays_mem {rs : List Nat} {M N : Store} {r : Nat} (h : stays rs M N = true) (hr : r ∈ rs) : sameLst r M N = true := List.all_eq_true.mp h r hr
theorem lsrc_c {v : V} {r : Nat} {xs : List D} (S : StOk K Z1 mu1 H1 M1) (R : RD K Z1 mu1 H1 v (.ref r)) (e : M1[r]? = some (some (.lst xs))) {rs : List Nat} (hr : r ∈ rs) : ∃ a, v = .ref a ∧ LSrc K a rs xs Z1 mu1 M1 H1 := by
  cases R with
  | ref hm =>
    refine ⟨_, rfl, fun Z mu M H S' T st => ?_⟩
    have e2 := sameLst_eq (stays_mem st hr) e
    obtain ⟨b, e3, vs, e4, q⟩ := S'.cell r _ e2
    rw [T.m r _ hm] at e3
    cases e3
    exact ⟨vs, e4, q⟩
theorem pures_eq : ∀ {ds : List D} {ps : List PyData}, pures ds = some ps → ds = ps.map .v
  | [], _, h => by
    cases h
    rfl
  | .v p :: ds, ps, h => by
    have h1 : (pures ds).map (p :: ·) = some ps := h
    obtain ⟨qs, e2, e3⟩ := Option.map_eq_some_iff.mp h1
    rw [← e3, pures_eq e2]
    rfl
  | .ref _ :: _, _, h => nomatch h
  | .scr _ :: _, _, h => nomatch h
theorem lsrc_view {v : V} {d : D} {ps : List PyData} (S : StOk K Z1 mu1 H1 M1) (R : RD K Z1 mu1 H1 v d) (e : view M1 d = some (.list ps)) {rs : List Nat} (hr : ∀ r ∈ refsD d, r ∈ rs) : ∃ a, v = .ref a ∧ LSrc K a rs (ps.map .v) Z1 mu1 M1 H1 := by
  cases d with
  | v p =>
    cases e
    cases R with
    | v R =>
      obtain ⟨a, h1, h2⟩ := lsrc_v (mu1 := mu1) (M1 := M1) S R
      exact ⟨a, h1, fun Z mu M H S' T _ => h2 Z mu M H S' T rfl⟩
  | scr _ => cases e
  | ref r =>
    unfold Ev.view at e
    dsimp only at e
    cases q : M1[r]? with
    | none =>
      rw [q] at e
      cases e
    | some o =>
      rw [q] at e
      cases o with
      | none => cases e
      | some c =>
        cases c with
        | lst xs =>
          obtain ⟨qs, e3, e4⟩ := Option.map_eq_some_iff.mp (show (pures xs).map PyData.list = some (PyData.list ps) from e)
          cases e4
          rw [← pures_eq e3]
          exact lsrc_c S R q (hr r (by simp [refsD]))
        | dic kvs =>
          obtain ⟨qs, e3, e4⟩ := Option.map_eq_some_iff.mp (show (puresKV kvs).map PyData.dict = some (PyData.list ps) from e)
          cases e4
        | ins _ _ => cases e
theorem tsrc_view {v : V} {d : D} {ps : List PyData} (S : StOk K Z1 mu1 H1 M1) (R : RD K Z1 mu1 H1 v d) (e : view M1 d = some (.tuple ps)) : ∃ a, v = .ref a ∧ TSrc K a (ps.map .v) Z1 mu1 M1 H1 := by
  cases d with
  | v p =>
    cases e
    cases R with
    | v R => exact tsrc_v (mu1 := mu1) (M1 := M1) S R
  | scr _ => cases e
  | ref r =>
    unfold Ev.view at e
    dsimp only at e
    split at e
    · rename_i xs q
      obtain ⟨qs, e3, e4⟩ := Option.map_eq_some_iff.mp e
      cases e4
    · rename_i kvs q
      obtain ⟨qs, e3, e4⟩ := Option.map_eq_some_iff.mp e
      cases e4
    · cases e
theorem RDs.get_none {Z : Addr → Prop} {mu : List Addr} {H : Hp} {vs : List V} {ds : List D} (r : RDs K Z mu H vs ds) {i : Nat} (h : ds.length ≤ i) : vs.length ≤ i := by
  rw [r.length]
  exact h
/-- a list at a: its reading is the one -/
theorem SqL.read {X : Cx} {pins : List (Addr × Obj)} {sv : L2.St} {H : Hp} {s : Shared} {a : Addr} {xs : List V} (I : L2.Inv X pins sv H s) (h : H a = some (.lst xs)) : xs.length ≤ sizeLine := by
  obtain ⟨_, _, _, h⟩ := I.list (SqL.of h)
  exact h
end

/-! ### walks over sources -/
section
variable {X : Cx} {Z1 : Addr → Prop} {mu1 : List Addr} {M1 : Store} {H1 : Hp}
theorem walk_list {a : Addr} {rs : List Nat} {items : List D} {K : PySem.W.Frag} (L : LSrc K a rs items Z1 mu1 M1 H1) (st : stays rs M1 M1 = true) (hl : items.length ≤ sizeLine) : Walk K (Itl K a) rs items Z1 mu1 M1 H1 where
  len := hl
  st0 := st
  go := fun Z mu M H i d S T st e => by
    obtain ⟨vs, h, r⟩ := L Z mu M H S T st
    obtain ⟨v, e1, q⟩ := r.get e
    refine ⟨⟨vs, v, SqL.of h, e1⟩, fun x H' y => ?_⟩
    obtain ⟨rfl, y⟩ := y
    have := y vs (SqL.of h)
    rw [e1] at this
    cases this
    exact ⟨Z, S, Stp.refl .., q⟩
  stop := fun Z mu M H i S T st e => by
    obtain ⟨vs, h, r⟩ := L Z mu M H S T st
    exact ⟨vs, SqL.of h, r.get_none e⟩
theorem walk_tup {a : Addr} {items : List D} {K : PySem.W.Frag} (L : TSrc K a items Z1 mu1 M1 H1) (hl : items.length ≤ sizeLine) : Walk K (Itt K a) [] items Z1 mu1 M1 H1 where
  len := hl
  st0 := rfl
  go := fun Z mu M H i d S T st e => by
    obtain ⟨vs, h, r⟩ := L Z mu M H S T
    obtain ⟨v, e1, q⟩ := r.get e
    refine ⟨⟨vs, v, h, e1⟩, fun x H' y => ?_⟩
    obtain ⟨rfl, y⟩ := y
    have := y vs h
    rw [e1] at this
    cases this
    exact ⟨Z, S, Stp.refl .., q⟩
  stop := fun Z mu M H i S T st e => by
    obtain ⟨vs, h, r⟩ := L Z mu M H S T
    exact ⟨vs, h, r.get_none e⟩
theorem rangeL_len (lo : Int) (n : Nat) : (rangeL lo n).length = n := by simp [rangeL]
theorem rangeL_get {lo : Int} {n i : Nat} {d : D} (h : (rangeL lo n)[i]? = some d) : i < n ∧ d = .v (.int (lo + (i : Int))) := by
  have hlt := (List.getElem?_eq_some_iff.mp h).1
  rw [rangeL_len] at hlt
  unfold rangeL at h
  rw [List.getElem?_map, List.getElem?_range hlt] at h
  exact ⟨hlt, (Option.some.inj h).symm⟩
theorem walk_range {K : PySem.W.Frag} {lo : Int} {n : Nat} (hl : n ≤ sizeLine) : Walk K (Itr lo n) [] (rangeL lo n) Z1 mu1 M1 H1 where
  len := by rw [rangeL_len]; exact hl
  st0 := rfl
  go := fun Z mu M H i d S T st e => by
    obtain ⟨hlt, rfl⟩ := rangeL_get e
    refine ⟨hlt, fun x H' y => ?_⟩
    obtain ⟨rfl, rfl⟩ := y
    exact ⟨Z, S, Stp.refl .., .v (.int _)⟩
  stop := fun Z mu M H i S T st e => by
    rw [rangeL_len] at e
    exact e
def signL (z : Str) : List D := z.cps.toList.map fun c => .v (signAt c)
theorem walk_str {K : PySem.W.Frag} {z : Str} (hl : z.length ≤ sizeLine) : Walk K (Its z) [] (signL z) Z1 mu1 M1 H1 where
  len := by
    unfold signL
    rw [List.length_map, Array.length_toList]
    exact hl
  st0 := rfl
  go := fun Z mu M H i d S T st e => by
    unfold signL at e
    rw [List.getElem?_map] at e
    obtain ⟨c, e1, e2⟩ := Option.map_eq_some_iff.mp e
    have e3 : z.cps[i]? = some c := by rw [← Array.getElem?_toList]; exact e1
    refine ⟨(Array.getElem?_eq_some_iff.mp e3).1, fun x H' y => ?_⟩
    obtain ⟨rfl, c', e4, rfl⟩ := y
    rw [e3] at e4
    cases e4
    subst e2
    exact ⟨Z, S, Stp.refl .., .v (.str _)⟩
  stop := fun Z mu M H i S T st e => by
    unfold signL at e
    rw [List.length_map, Array.length_toList] at e
    exact e
theorem enumL_get : ∀ {ps : List PyData} {k i : Nat} {d : D}, (enumL k ps)[i]? = some d → ∃ p, ps[i]? = some p ∧ d = .v (.tuple [.int ((k + i : Nat) : Int), p])
  | [], k, i, d, h => by simp [enumL] at h
  | p :: r, k, 0, d, h => by
    simp [enumL] at h
    exact ⟨p, rfl, h.symm⟩
  | p :: r, k, i + 1, d, h => by
    unfold enumL at h
    obtain ⟨q, e1, e2⟩ := enumL_get (ps := r) (k := k + 1) (i := i) (by simpa using h)
    refine ⟨q, by simpa using e1, ?_⟩
    rw [e2, show k + 1 + i = k + (i + 1) by omega]
theorem enumL_len : ∀ (ps : List PyData) (k : Nat), (enumL k ps).length = ps.length
  | [], _ => rfl
  | _ :: r, k => congrArg (· + 1) (enumL_len r (k + 1))
theorem zipL_get : ∀ {ps qs : List PyData} {i : Nat} {d : D}, (zipL ps qs)[i]? = some d → ∃ p q, ps[i]? = some p ∧ qs[i]? = some q ∧ d = .v (.tuple [p, q])
  | [], _, i, d, h => by simp [zipL] at h
  | _ :: _, [], i, d, h => by simp [zipL] at h
  | p :: r, q :: s, 0, d, h => by
    simp [zipL] at h
    exact ⟨p, q, rfl, rfl, h.symm⟩
  | p :: r, q :: s, i + 1, d, h => by
    unfold zipL at h
    obtain ⟨p', q', e1, e2, e3⟩ := zipL_get (ps := r) (qs := s) (i := i) (by simpa using h)
    exact ⟨p', q', by simpa using e1, by simpa using e2, e3⟩
theorem zipL_len : ∀ (ps qs : List PyData), (zipL ps qs).length = min ps.length qs.length
  | [], _ => by simp [zipL]
  | _ :: _, [] => by simp [zipL]
  | _ :: r, _ :: s => by
    unfold zipL
    rw [List.length_cons, zipL_len r s, List.length_cons, List.length_cons]
    omega
theorem RDs.getV {K : PySem.W.Frag} {Z : Addr → Prop} {mu : List Addr} {H : Hp} {vs : List V} {ps : List PyData} {i : Nat} {p : PyData} (r : RDs K Z mu H vs (ps.map .v)) (e : ps[i]? = some p) : ∃ v, vs[i]? = some v ∧ Rp K Z H v p := by
  obtain ⟨v, h1, h2⟩ := r.get (i := i) (p := .v p) (by rw [List.getElem?_map, e]; rfl)
  cases h2 with
  | v h2 => exact ⟨v, h1, h2⟩
theorem walk_enum {a : Addr} {rs : List Nat} {ps : List PyData} {K : PySem.W.Frag} (L : LSrc K a rs (ps.map .v) Z1 mu1 M1 H1) (st : stays rs M1 M1 = true) (hl : ps.length ≤ sizeLine) : Walk K (Ite K a) rs (enumL 0 ps) Z1 mu1 M1 H1 where
  len := by rw [enumL_len]; exact hl
  st0 := st
  go := fun Z mu M H i d S T st e => by
    obtain ⟨vs, h, r⟩ := L Z mu M H S T st
    obtain ⟨p, e1, rfl⟩ := enumL_get e
    obtain ⟨v, e2, q⟩ := r.getV e1
    refine ⟨⟨vs, v, SqL.of h, e2⟩, fun x H' y => ?_⟩
    obtain ⟨t, y', rfl, hn, rfl, y⟩ := y
    have := y vs (SqL.of h)
    rw [e2] at this
    cases this
    refine ⟨Z, S.laid hn, Stp.laid S hn, .v (Rp.newT S hn (.cons ?_ (.cons q .nil)))⟩
    rw [Nat.zero_add]
    exact .int _
  stop := fun Z mu M H i S T st e => by
    obtain ⟨vs, h, r⟩ := L Z mu M H S T st
    rw [enumL_len] at e
    exact ⟨vs, SqL.of h, r.get_none (by rw [List.length_map]; exact e)⟩
theorem walk_zip {a b : Addr} {rs : List Nat} {ps qs : List PyData} {K : PySem.W.Frag} (L : LSrc K a rs (ps.map .v) Z1 mu1 M1 H1) (L2 : LSrc K b rs (qs.map .v) Z1 mu1 M1 H1) (st : stays rs M1 M1 = true) (hl : ps.length ≤ sizeLine) : Walk K (Itz K a b) rs (zipL ps qs) Z1 mu1 M1 H1 where
  len := by rw [zipL_len]; omega
  st0 := st
  go := fun Z mu M H i d S T st e => by
    obtain ⟨vs, h, r⟩ := L Z mu M H S T st
    obtain ⟨ws, h2, r2⟩ := L2 Z mu M H S T st
    obtain ⟨p, p', e1, e1', rfl⟩ := zipL_get e
    obtain ⟨v, e2, q⟩ := r.getV e1
    obtain ⟨w, e2', q'⟩ := r2.getV e1'
    refine ⟨⟨vs, ws, v, w, SqL.of h, SqL.of h2, e2, e2'⟩, fun x H' y => ?_⟩
    obtain ⟨t, x', y', rfl, hn, rfl, y, y2⟩ := y
    have := y vs (SqL.of h)
    rw [e2] at this
    cases this
    have := y2 ws (SqL.of h2)
    rw [e2'] at this
    cases this
    exact ⟨Z, S.laid hn, Stp.laid S hn, .v (Rp.newT S hn (.cons q (.cons q' .nil)))⟩
  stop := fun Z mu M H i S T st e => by
    obtain ⟨vs, h, r⟩ := L Z mu M H S T st
    obtain ⟨ws, h2, r2⟩ := L2 Z mu M H S T st
    rw [zipL_len] at e
    refine ⟨vs, ws, SqL.of h, SqL.of h2, ?_⟩
    rw [r.length, r2.length, List.length_map, List.length_map]
    omega
theorem walk_zipT {a b : Addr} {ps qs : List PyData} {K : PySem.W.Frag} (L : TSrc K a (ps.map .v) Z1 mu1 M1 H1) (L2 : TSrc K b (qs.map .v) Z1 mu1 M1 H1) (hl : ps.length ≤ sizeLine) : Walk K (RZ.ItzT K a b) [] (zipL ps qs) Z1 mu1 M1 H1 where
  len := by rw [zipL_len]; omega
  st0 := rfl
  go := fun Z mu M H i d S T st e => by
    obtain ⟨vs, h, r⟩ := L Z mu M H S T
    obtain ⟨ws, h2, r2⟩ := L2 Z mu M H S T
    obtain ⟨p, p', e1, e1', rfl⟩ := zipL_get e
    obtain ⟨v, e2, q⟩ := r.getV e1
    obtain ⟨w, e2', q'⟩ := r2.getV e1'
    refine ⟨⟨vs, ws, v, w, h, h2, e2, e2'⟩, fun x H' y => ?_⟩
    obtain ⟨t, x', y', rfl, hn, rfl, y, y2⟩ := y
    have := y vs h
    rw [e2] at this
    cases this
    have := y2 ws h2
    rw [e2'] at this
    cases this
    exact ⟨Z, S.laid hn, Stp.laid S hn, .v (Rp.newT S hn (.cons q (.cons q' .nil)))⟩
  stop := fun Z mu M H i S T st e => by
    obtain ⟨vs, h, r⟩ := L Z mu M H S T
    obtain ⟨ws, h2, r2⟩ := L2 Z mu M H S T
    rw [zipL_len] at e
    refine ⟨vs, ws, h, h2, ?_⟩
    rw [r.length, r2.length, List.length_map, List.length_map]
    omega
end

/-! ### the sources' rules -/
theorem itemsOf_none {k : ItK} {M : Store} : itemsOf k [] M = none := by
  unfold itemsOf
  cases k <;> rfl
theorem evEs_one {G : Sig} {e : E} {sl : Slots} {M : Store} {β : Type} {g : List D → Store → R β} : (evEs G (.cons e .nil) sl M).bind g = (evE G e sl M).bind fun x M => g [x] M := by
  rw [show evEs G (.cons e .nil) sl M = (evE G e sl M).bind fun x M => (evEs G .nil sl M).bind fun xs M => retR (x :: xs) M by rw [evEs]]
  rw [bind_bind]
  congr 1
section
variable {X : Cx} {G : Sig} {pos : Pos} {tg : Expr}
/-- an expression whose value is walked -/
theorem si_plain {pe : Expr} {e : E} (h : SE X pe (fun sl M => evE G e sl M)) : SI X tg pe (evI G .plain (.cons e .nil)) := by
  intro sl M r M' hf sv H Z mu S L xo R k
  unfold evI at hf
  rw [evEs_one] at hf
  cases he : evE G e sl M with
  | none =>
    rw [he] at hf
    cases hf
  | some q =>
    obtain ⟨o, M1⟩ := q
    rw [he] at hf
    cases o with
    | ex er =>
      refine wI_of (pi_list (pe_w X pe)) ?_
      cases hf
      exact h sl M _ _ he sv H Z mu S L (xo.conv fun e z => by cases z; rfl) _ fun d v Z' mu' H' z => nomatch z
    | ok d =>
      rw [bind_ok] at hf
      obtain ⟨it, e1, e2⟩ := need_eq hf
      obtain ⟨rfl, rfl⟩ := ret_eq e2
      have hh := fun Q => h sl M _ _ he sv H Z mu S L XOk.ok Q
      replace e1 : plainOf d M' = some it := e1
      unfold plainOf at e1
      split at e1
      · rename_i ps
        cases e1
        refine wI_of (pi_list (pe_w X pe)) (wE_inv (hh _ fun d' v Z1 mu1 H1 z S1 T1 R1 I => ?_))
        cases z
        cases R1 with
        | v R1 =>
          obtain ⟨a, rfl, ls⟩ := lsrc_v (mu1 := mu1) (M1 := M') S1 R1
          obtain ⟨vs, e3, r3⟩ := ls Z1 mu1 M' H1 S1 (Stp.refl ..) rfl
          obtain ⟨pins, s, I⟩ := I
          refine ⟨a, rfl, ⟨vs, SqL.of e3⟩, k _ _ Z1 mu1 H1 rfl S1 T1 (walk_list ls rfl ?_)⟩
          rw [← r3.length]
          exact SqL.read I e3
      · rename_i ps
        cases e1
        refine wI_of (pi_tup (pe_w X pe)) (wE_inv (hh _ fun d' v Z1 mu1 H1 z S1 T1 R1 I => ?_))
        cases z
        cases R1 with
        | v R1 =>
          obtain ⟨a, rfl, ls⟩ := tsrc_v (mu1 := mu1) (M1 := M') S1 R1
          obtain ⟨vs, e3, r3⟩ := ls Z1 mu1 M' H1 S1 (Stp.refl ..)
          obtain ⟨pins, s, I⟩ := I
          refine ⟨a, rfl, ⟨vs, e3⟩, k _ _ Z1 mu1 H1 rfl S1 T1 (walk_tup ls ?_)⟩
          rw [← r3.length]
          obtain ⟨_, _, _, hq⟩ := I.tuple e3
          exact hq
      · rename_i z
        obtain ⟨hz, e3⟩ := guardO_eq e1
        cases e3
        refine wI_of (pi_str (pe_w X pe)) (hh _ fun d' v Z1 mu1 H1 z' S1 T1 R1 => ?_)
        cases z'
        cases R1 with
        | v R1 =>
          cases R1
          exact ⟨z, rfl, k _ _ Z1 mu1 H1 rfl S1 T1 (walk_str (dec hz))⟩
      · rename_i n
        split at e1
        · rename_i xs ex
          obtain ⟨hs, e3⟩ := guardO_eq e1
          cases e3
          refine wI_of (pi_list (pe_w X pe)) (wE_inv (hh _ fun d' v Z1 mu1 H1 z S1 T1 R1 I => ?_))
          cases z
          have st : stays [n] M' M' = true := by
            unfold stays sameLst
            simp [ex, hs]
          obtain ⟨a, rfl, ls⟩ := lsrc_c (rs := [n]) S1 R1 ex (by simp)
          obtain ⟨vs, e3, r3⟩ := ls Z1 mu1 M' H1 S1 (Stp.refl ..) st
          obtain ⟨pins, s, I⟩ := I
          refine ⟨a, rfl, ⟨vs, SqL.of e3⟩, k _ _ Z1 mu1 H1 rfl S1 T1 (walk_list ls st ?_)⟩
          rw [← r3.length]
          exact SqL.read I e3
        · cases e1
      · cases e1
theorem evEs_nilB {sl : Slots} {M : Store} {β : Type} {g : List D → Store → R β} : (evEs G .nil sl M).bind g = g [] M := by
  rw [show evEs G .nil sl M = retR [] M by rw [evEs]]
  rfl
theorem int_of {v : V} {i : Int} {K : PySem.W.Frag} {Z : Addr → Prop} {mu : List Addr} {H : Hp} (h : RD K Z mu H v (.v (.int i))) : v = .int i := by
  cases h with
  | v h =>
    cases h
    rfl
theorem inR_eq {i : Int} (h : inR i = true) : -(2 ^ 62) ≤ i ∧ i < 2 ^ 62 := by
  unfold inR at h
  obtain ⟨h1, h2⟩ := and2 h
  exact ⟨dec h1, dec h2⟩
theorem one_of {β : Type} {ds : List D} {f : D → Option β} {b : β} (h : on1 f ds = some b) : ∃ x, ds = [x] ∧ f x = some b := by
  unfold on1 at h
  split at h
  · exact ⟨_, rfl, h⟩
  · cases h
theorem two_of {β : Type} {ds : List D} {f : D → D → Option β} {b : β} (h : on2 f ds = some b) : ∃ x y, ds = [x, y] ∧ f x y = some b := by
  unfold on2 at h
  split at h
  · exact ⟨_, _, rfl, h⟩
  · cases h
theorem RDs.one {K : PySem.W.Frag} {Z : Addr → Prop} {mu : List Addr} {H : Hp} {vs : List V} {d : D} (h : RDs K Z mu H vs [d]) : ∃ v, vs = [v] ∧ RD K Z mu H v d := by
  cases h with
  | cons q r =>
    cases r
    exact ⟨_, rfl, q⟩
theorem RDs.two {K : PySem.W.Frag} {Z : Addr → Prop} {mu : List Addr} {H : Hp} {vs : List V} {d e : D} (h : RDs K Z mu H vs [d, e]) : ∃ v w, vs = [v, w] ∧ RD K Z mu H v d ∧ RD K Z mu H w e := by
  cases h with
  | cons q r =>
    cases r with
    | cons q' r =>
      cases r
      exact ⟨_, _, rfl, q, q'⟩
theorem si_range1 {a : Expr} {es : E} {p : Pos} (hg : Gl X "range") (hm : X.mg "range" = none) (h : SEs X [a] (fun sl M => evEs G es sl M)) (hs : starred a = false) : SI X tg (.Call (.Name "range" p) [a] [] pos) (evI G .range es) := by
  intro sl M r M' hf sv H Z mu S L xo R k
  unfold evI at hf
  refine wI_of (pi_range1 hg hm (pa_w X [a]) (starEach_cons hs)) ?_
  refine h.step hf S L xo fun ds M1 vs Z1 mu1 H1 S1 L1 T1 R1 xo1 hf1 => ?_
  obtain ⟨it, e1, e2⟩ := need_eq hf1
  obtain ⟨rfl, rfl⟩ := ret_eq e2
  replace e1 : on1 range1Of ds = some it := e1
  obtain ⟨x, rfl, e9⟩ := one_of e1
  clear e1
  obtain ⟨v, rfl, q⟩ := R1.one
  unfold range1Of at e9
  split at e9
  · obtain ⟨h1, h2⟩ := guardO_eq e9
    cases h2
    obtain ⟨h3, h4⟩ := and2 h1
    obtain ⟨h5, h6⟩ := inR_eq h3
    have h4 := dec h4
    refine ⟨_, by rw [int_of q], h5, h6, k _ _ Z1 mu1 H1 rfl S1 T1 (walk_range ?_)⟩
    have : sizeLine = LIM := rfl
    omega
  · cases e9
theorem si_range2 {a b : Expr} {es : E} {p : Pos} (hg : Gl X "range") (hm : X.mg "range" = none) (h : SEs X [a, b] (fun sl M => evEs G es sl M)) (hs : starred a = false) (hs2 : starred b = false) : SI X tg (.Call (.Name "range" p) [a, b] [] pos) (evI G .range2 es) := by
  intro sl M r M' hf sv H Z mu S L xo R k
  unfold evI at hf
  have s2 : starEach [b] X.env = [(false, eval b X.env)] := starEach_cons hs2
  refine wI_of (pi_range2 hg hm (pa_w X [a, b]) (by rw [starEach_cons hs, s2]) s2) ?_
  refine h.step hf S L xo fun ds M1 vs Z1 mu1 H1 S1 L1 T1 R1 xo1 hf1 => ?_
  obtain ⟨it, e1, e2⟩ := need_eq hf1
  obtain ⟨rfl, rfl⟩ := ret_eq e2
  replace e1 : on2 range2Of ds = some it := e1
  obtain ⟨x, y, rfl, e9⟩ := two_of e1
  clear e1
  obtain ⟨v, w, rfl, q, q'⟩ := R1.two
  unfold range2Of at e9
  split at e9
  · obtain ⟨h1, h2⟩ := guardO_eq e9
    cases h2
    obtain ⟨h3, h4⟩ := and2 h1
    obtain ⟨h7, h8⟩ := and2 h3
    obtain ⟨h5, h6⟩ := inR_eq h7
    obtain ⟨h9, h10⟩ := inR_eq h8
    have h4 := dec h4
    refine ⟨_, _, by rw [int_of q, int_of q'], ⟨h5, h6, h9, h10⟩, k _ _ Z1 mu1 H1 rfl S1 T1 (walk_range ?_)⟩
    have : sizeLine = LIM := rfl
    omega
  · cases e9
theorem same_stays {x : D} {M : Store} {ps : List PyData} (e : view M x = some (.list ps)) (h : samePs ps ps = true) : stays (refsD x) M M = true := by
  have hs : ∀ {ps : List PyData}, samePs ps ps = true → sameDs (ps.map .v) (ps.map .v) = true := fun {ps} => by
    induction ps with
    | nil => intro _; rfl
    | cons p r ih =>
      intro h
      unfold samePs at h
      obtain ⟨h1, h2⟩ := and2 h
      rw [List.map_cons]
      unfold sameDs
      rw [ih h2]
      rw [show sameD (.v p) (.v p) = sameP p p from rfl, h1]
      rfl
  cases x with
  | v p => rfl
  | scr _ => rfl
  | ref r =>
    unfold Ev.view at e
    dsimp only at e
    split at e
    · rename_i xs q
      obtain ⟨qs, e3, e4⟩ := Option.map_eq_some_iff.mp e
      cases e4
      unfold refsD stays sameLst
      simp only [List.all_cons, List.all_nil, Bool.and_true, q]
      rw [pures_eq e3]
      exact hs h
    · obtain ⟨qs, e3, e4⟩ := Option.map_eq_some_iff.mp e
      cases e4
    · cases e
theorem stays_app {rs rs' : List Nat} {M N : Store} (h : stays rs M N = true) (h' : stays rs' M N = true) : stays (rs ++ rs') M N = true := by
  unfold stays at *
  rw [List.all_append, h, h']
  rfl
theorem si_enum {a : Expr} {es : E} {p tpos : Pos} {elts : List Expr} {kk : Nat} (hg : Gl X "enumerate") (hm : X.mg "enumerate" = none) (h : SEs X [a] (fun sl M => evEs G es sl M)) (hs : starred a = false) : SI X (.Tuple elts kk tpos) (.Call (.Name "enumerate" p) [a] [] pos) (evI G .enum es) := by
  intro sl M r M' hf sv H Z mu S L xo R k
  unfold evI at hf
  refine wI_of (pi_enum hg hm (pa_w X [a]) (starEach_cons hs)) (wA_inv ?_)
  refine h.step hf S L xo fun ds M1 vs Z1 mu1 H1 S1 L1 T1 R1 xo1 hf1 I => ?_
  obtain ⟨it, e1, e2⟩ := need_eq hf1
  obtain ⟨rfl, rfl⟩ := ret_eq e2
  clear e2
  replace e1 : on1 (fun x => enumOf x M') ds = some it := e1
  obtain ⟨x, rfl, e9⟩ := one_of e1
  clear e1
  obtain ⟨v, rfl, q⟩ := R1.one
  unfold enumOf at e9
  obtain ⟨pp, e2, e3⟩ := need_eq e9
  split at e3
  · obtain ⟨h1, h2⟩ := guardO_eq e3
    cases h2
    have st := same_stays e2 h1
    obtain ⟨b, rfl, ls⟩ := lsrc_view S1 q e2 (fun r h => h)
    obtain ⟨vs, e3, r3⟩ := ls Z1 mu1 M' H1 S1 (Stp.refl ..) st
    obtain ⟨pins, s, I⟩ := I
    refine ⟨b, vs, rfl, SqL.of e3, k _ _ Z1 mu1 H1 rfl S1 T1 (walk_enum ls st ?_)⟩
    have := SqL.read I e3
    rw [r3.length, List.length_map] at this
    exact this
  · cases e3
theorem si_zip {a b : Expr} {es : E} {p tpos : Pos} {elts : List Expr} {kk : Nat} (hg : Gl X "zip") (hm : X.mg "zip" = none) (h : SEs X [a, b] (fun sl M => evEs G es sl M)) (hs : starred a = false) (hs2 : starred b = false) : SI X (.Tuple elts kk tpos) (.Call (.Name "zip" p) [a, b] [] pos) (evI G .zip es) := by
  intro sl M r M' hf sv H Z mu S L xo R k
  unfold evI at hf
  have s2 : starEach [b] X.env = [(false, eval b X.env)] := starEach_cons hs2
  refine wI_of (RZ.pi_zipA hg hm (pa_w X [a, b]) (starEach_cons hs) (back_plain fun e he => by simp at he; rw [he]; exact hs2)) (wA_inv ?_)
  refine h.step hf S L xo fun ds M1 vs Z1 mu1 H1 S1 L1 T1 R1 xo1 hf1 I => ?_
  obtain ⟨it, e1, e2⟩ := need_eq hf1
  obtain ⟨rfl, rfl⟩ := ret_eq e2
  clear e2
  replace e1 : on2 (fun x y => zipOf x y M') ds = some it := e1
  obtain ⟨x, y, rfl, e9⟩ := two_of e1
  clear e1
  obtain ⟨v, w, rfl, q, q'⟩ := R1.two
  unfold zipOf at e9
  obtain ⟨pp, e2, e3⟩ := need_eq e9
  obtain ⟨qq, e4, e5⟩ := need_eq e3
  obtain ⟨pins, s, I⟩ := I
  split at e5
  · obtain ⟨h1, h2⟩ := guardO_eq e5
    cases h2
    obtain ⟨h3, h4⟩ := and2 h1
    have st := stays_app (same_stays e2 h3) (same_stays e4 h4)
    obtain ⟨b, rfl, ls⟩ := lsrc_view (rs := refsD x ++ refsD y) S1 q e2 (fun r h => by simp [h])
    obtain ⟨b', rfl, ls'⟩ := lsrc_view (rs := refsD x ++ refsD y) S1 q' e4 (fun r h => by simp [h])
    obtain ⟨vs, e3, r3⟩ := ls Z1 mu1 M' H1 S1 (Stp.refl ..) st
    obtain ⟨vs', e3', r3'⟩ := ls' Z1 mu1 M' H1 S1 (Stp.refl ..) st
    refine ⟨b, b', vs, vs', rfl, .inl ⟨SqL.of e3, SqL.of e3', k _ _ Z1 mu1 H1 rfl S1 T1 (walk_zip ls ls' st ?_)⟩⟩
    have := SqL.read I e3
    rw [r3.length, List.length_map] at this
    exact this
  · cases e5
    obtain ⟨b, rfl, ls⟩ := tsrc_view S1 q e2
    obtain ⟨b', rfl, ls'⟩ := tsrc_view S1 q' e4
    obtain ⟨vs, e3, r3⟩ := ls Z1 mu1 M' H1 S1 (Stp.refl ..)
    obtain ⟨vs', e3', r3'⟩ := ls' Z1 mu1 M' H1 S1 (Stp.refl ..)
    refine ⟨b, b', vs, vs', rfl, .inr ⟨e3, e3', k _ _ Z1 mu1 H1 rfl S1 T1 (walk_zipT ls ls' ?_)⟩⟩
    obtain ⟨_, _, _, hq⟩ := I.tuple e3
    rw [r3.length, List.length_map] at hq
    exact hq
  · cases e5
end
end Ev

set_option maxRecDepth 100000
set_option maxHeartbeats 1000000
namespace Ev
open PySem PySem.Spec PyProof.Rows L2

/-! ### an object beside the cells -/
section
variable {K : PySem.W.Frag} {Z Z' Z1 : Addr → Prop} {mu mu' mu1 : List Addr} {M M' M1 : Store} {H H' H1 : Hp} {B : Addr} {vs ws : List V}
theorem hold_over (n : ¬ Z B) (e : H B = some (.lst vs)) : Hold K Z Z H (upd H B (.lst ws)) where
  z := fun _ h => h
  l := fun a xs z h => by
    have : a ≠ B := fun q => n (by rw [← q]; exact z)
    rw [upd_ne this]
    exact h
  q := fun a xs h => by
    rcases h with ⟨o, h⟩ | h
    · refine .inl ⟨o, ?_⟩
      have : a ≠ B := fun q => by rw [q, e] at h; cases h
      rw [upd_ne this]
      exact h
    · exact .inr h
  t := fun a xs h => by
    have key : ∀ o, H a = some o → (∀ vs, o ≠ .lst vs) → (upd H B (.lst ws)) a = some o := fun o h n => by
      have : a ≠ B := fun q => by
        rw [q, e] at h
        cases h
        exact n _ rfl
      rw [upd_ne this]
      exact h
    rcases h with (h | ⟨o, h⟩) | h
    · exact .inl (.inl (key _ h fun _ z => by cases z))
    · exact .inl (.inr ⟨o, key _ h fun _ z => by cases z⟩)
    · exact .inr h
theorem StOk.over (S : StOk K Z mu H M) (n : ¬ Z B) (nl : ¬ Live mu M B) (e : H B = some (.lst vs)) : StOk K Z mu (upd H B (.lst ws)) M where
  len := S.len
  cell := fun r c h => by
    obtain ⟨a, e1, q⟩ := S.cell r c h
    refine ⟨a, e1, q.hold (hold_over n e) (fun _ _ h => h) fun u hu => ?_⟩
    have : a ≠ B := fun z => nl ⟨r, c, h, by rw [← z]; exact e1⟩
    rw [upd_ne this]
    exact hu
  inj := S.inj
  nz := S.nz
  fz := fun a z => by
    obtain ⟨u, h⟩ := S.fz a z
    have : a ≠ B := fun q => n (by rw [← q]; exact z)
    exact ⟨u, by rw [upd_ne this]; exact h⟩
/-- changes at a place that was free at the start -/
theorem Stp.over {o : HO} (T : Stp Z1 mu1 M1 H1 Z mu M H) (n : H1 B = none) : Stp Z1 mu1 M1 H1 Z mu M (upd H B o) :=
  ⟨T.z, T.m, fun a u h nl => by
    rw [upd_ne (ne_of_none h n)]
    exact T.keep a u h nl, T.back, T.zback⟩
/-- a step leaves an object beside alone -/
theorem Stp.beside (T : Stp Z mu M H Z' mu' M' H') (n : ¬ Z B) (nl : ¬ Live mu M B) (e : H B = some (.lst vs)) : H' B = some (.lst vs) ∧ ¬ Z' B ∧ ¬ Live mu' M' B := by
  refine ⟨T.keep B _ e nl, fun z => ?_, fun l => ?_⟩
  · rcases T.zback B z with h | h | h
    · exact n h
    · exact nl h
    · rw [e] at h
      cases h
  · rcases T.back B l with h | h
    · exact nl h
    · rw [e] at h
      cases h
theorem StOk.addZ (S : StOk K Z mu H M) (nl : ¬ Live mu M B) (e : H B = some (.lst vs)) : StOk K (Zp Z B) mu H M where
  len := S.len
  cell := fun r c h => by
    obtain ⟨a, e1, q⟩ := S.cell r c h
    exact ⟨a, e1, q.hold ⟨fun _ h => .inl h, fun _ _ _ h => h, fun _ _ h => h, fun _ _ h => h⟩ (fun _ _ h => h) fun u hu => hu⟩
  inj := S.inj
  nz := fun a l z => z.elim (S.nz a l) fun q => nl (by rw [← q]; exact l)
  fz := fun a z => z.elim (S.fz a) fun q => ⟨.lst vs, by rw [q]; exact e⟩
theorem Stp.addZ (T : Stp Z1 mu1 M1 H1 Z mu M H) (n : H1 B = none) : Stp Z1 mu1 M1 H1 (Zp Z B) mu M H :=
  ⟨fun a h => .inl (T.z a h), T.m, T.keep, T.back, fun a z => z.elim (T.zback a) fun q => .inr (.inr (by rw [q]; exact n))⟩
theorem hold_id (h : ∀ a, Z a → Z' a) : Hold K Z Z' H H := ⟨h, fun _ _ _ h => h, fun _ _ h => h, fun _ _ h => h⟩
theorem Stp.addC {c : Cell} (T : Stp Z1 mu1 M1 H1 Z mu M H) (S : StOk K Z mu H M) (n : H1 B = none) : Stp Z1 mu1 M1 H1 Z (mu ++ [B]) (M ++ [some c]) H := by
  refine ⟨T.z, fun r a h => getElem?_snoc_old (T.m r a h), T.keep, fun a ⟨r, c', e1, e2⟩ => ?_, T.zback⟩
  rcases getElem?_snoc e1 with e1 | ⟨e1, e3⟩
  · rcases getElem?_snoc e2 with e2 | ⟨e2, e4⟩
    · exact T.back a ⟨r, c', e1, e2⟩
    · have := (List.getElem?_eq_some_iff.mp e1).1
      rw [← S.len] at this
      omega
  · rcases getElem?_snoc e2 with e2 | ⟨e2, e4⟩
    · have := (List.getElem?_eq_some_iff.mp e2).1
      rw [S.len] at this
      omega
    · exact .inr (by rw [← e4]; exact n)
theorem StOk.addC (S : StOk K Z mu H M) (nz : ¬ Z B) (nl : ¬ Live mu M B) {ds : List D} (e : H B = some (.lst vs)) (r : RDs K Z mu H vs ds) : StOk K Z (mu ++ [B]) H (M ++ [some (.lst ds)]) := by
  have mm : ∀ (r : Nat) (a : Addr), mu[r]? = some a → (mu ++ [B])[r]? = some a := fun r a h => getElem?_snoc_old h
  have old : ∀ {q : Nat} {c : Cell}, M[q]? = some (some c) → ∀ {a : Addr}, (mu ++ [B])[q]? = some a → mu[q]? = some a := fun {q c} h {a} h2 => by
    have hlt := (List.getElem?_eq_some_iff.mp h).1
    rw [List.getElem?_append_left (by rw [S.len]; exact hlt)] at h2
    exact h2
  have new : ∀ {q : Nat}, q = M.length → ∀ {a : Addr}, (mu ++ [B])[q]? = some a → a = B := fun {q} h {a} h2 => by
    rw [h, ← S.len, getElem?_snoc_last] at h2
    cases h2
    rfl
  have no : ∀ {q : Nat} {c : Cell}, M[q]? = some (some c) → mu[q]? = some B → False := fun {q c} h h2 => nl ⟨q, c, h, h2⟩
  refine ⟨by rw [List.length_append, List.length_append, S.len]; rfl, fun q c h => ?_, fun q s c c' a e1 e2 e3 e4 => ?_, fun a ⟨q, c, e1, e2⟩ z => ?_, S.fz⟩
  · rcases getElem?_snoc h with h | ⟨e3, e2⟩
    · obtain ⟨a, e1, q⟩ := S.cell q c h
      exact ⟨a, getElem?_snoc_old e1, q.hold (hold_id fun _ h => h) mm fun u hu => hu⟩
    · cases e2
      refine ⟨B, ?_, vs, e, r.hold (hold_id fun _ h => h) mm⟩
      have e0 : q = mu.length := e3.trans S.len.symm
      rw [e0]
      exact getElem?_snoc_last
  · rcases getElem?_snoc e1 with e1 | ⟨e1, f1⟩
    · rcases getElem?_snoc e2 with e2 | ⟨e2, f2⟩
      · exact S.inj q s c c' a e1 e2 (old e1 e3) (old e2 e4)
      · have := new e2 e4
        subst this
        exact (no e1 (old e1 e3)).elim
    · rcases getElem?_snoc e2 with e2 | ⟨e2, f2⟩
      · have := new e1 e3
        subst this
        exact (no e2 (old e2 e4)).elim
      · omega
  · rcases getElem?_snoc e1 with e1 | ⟨e1, f1⟩
    · exact S.nz a ⟨q, c, e1, old e1 e2⟩ z
    · rw [new e1 e2] at z
      exact nz z
end

/-! ### a block's readings, whatever its place -/
abbrev Cx.blkAt (X : Cx) (scope : Scope) (s : Shared) (H : Hp) (C : Addr) (cl : List (Str × Addr)) (fp : List Addr) : Cx := X.blk s H scope (compEnvC scope cl C X.env) fp
def wGB (X : Cx) (scope : Scope) (t : Expr) : TG := fun v sv H Q => ∀ s0 H0 C cl fp, wG (Cx.blkAt X scope s0 H0 C cl fp) t v sv H Q
def wEB (X : Cx) (scope : Scope) (e : Expr) : TE := fun sv H Q => ∀ s0 H0 C cl fp, wE (Cx.blkAt X scope s0 H0 C cl fp) e sv H Q
def wP (X : Cx) (ifs : List Expr) : TT := fun sv H Q => ∀ pins s, L2.Inv X pins sv H s →
    wpAny (model X.prog X.w) X.A (forIn ifs true fun c r => if r = true then do let ok ← isTrue c X.env (eval c X.env); pure (ForInStep.yield ok) else pure (ForInStep.yield r)) (TP X pins sv Q) X.xe s
theorem pts_w (X : Cx) (ifs : List Expr) : PTs X ifs (wP X ifs) := ⟨fun pins s _ _ _ I h => h pins s I⟩
theorem wP_of {X : Cx} {ifs : List Expr} {t : TT} (h : PTs X ifs t) {sv : L2.St} {H : Hp} {Q : Bool → Hp → Prop} (q : t sv H Q) : wP X ifs sv H Q := fun pins s I => h.run pins s sv H Q I q
def wPB (X : Cx) (scope : Scope) (ifs : List Expr) : TT := fun sv H Q => ∀ s0 H0 C cl fp, wP (Cx.blkAt X scope s0 H0 C cl fp) ifs sv H Q
/-- a clause's tests -/
def SPt (X : Cx) (ifs : List Expr) (f : Slots → Store → R Bool) : Prop :=
  ∀ (sl : Slots) (M : Store) (b : Bool) (M' : Store), f sl M = some (.ok b, M') → ∀ (sv : L2.St) (H : Hp) (Z : Addr → Prop) (mu : List Addr), StOk X.K Z mu H M → SlOk X.K Z mu H sv sl →
    ∀ Q : Bool → Hp → Prop, (∀ Z' mu' H', StOk X.K Z' mu' H' M' → Stp Z mu M H Z' mu' M' H' → Q b H') → wP X ifs sv H Q
section
variable {X : Cx} {G : Sig} {pos : Pos}
theorem spt_nil : SPt X [] (fun sl M => evAnd G .nil sl M) := by
  intro sl M b M' hf sv H Z mu S L Q k
  unfold evAnd at hf
  cases hf
  exact wP_of pts_nil (k Z mu H S (Stp.refl ..))
theorem spt_one {c : Expr} {e : E} (h : STt X c (fun sl M => evE G e sl M)) : SPt X [c] (fun sl M => evAnd G (.cons e .nil) sl M) := by
  intro sl M b M' hf sv H Z mu S L Q k
  unfold evAnd at hf
  refine wP_of (pts_one (pt_w X c)) ?_
  refine h.step hf (fun d M1 r h => by obtain ⟨_, e, _⟩ := need_eq h; rw [e]; rfl) S L XOk.ok fun t M1 Z1 mu1 H1 S1 L1 T1 xo1 hf1 => ?_
  obtain ⟨b', e1, hf2⟩ := need_eq hf1
  cases e1
  cases t with
  | true =>
    rw [if_pos rfl] at hf2
    unfold evAnd at hf2
    cases hf2
    exact k Z1 mu1 H1 S1 T1
  | false =>
    rw [if_neg (by decide)] at hf2
    cases hf2
    exact k Z1 mu1 H1 S1 T1
end
def compStep (G : Sig) (elt : E) (tg : Tg) (ifs : E) (sl : Slots) (d : D) (M : Store) : R (Option (List D)) :=
  need (setT tg d (wipeT tg sl)) fun sl' => (evAnd G ifs sl' M).bind fun b M => if b = true then (evE G elt sl' M).bind fun x M => retR (some [x]) M else retR none M
theorem calm_eq {α : Type} {x : R α} {y : Out α × Store} (h : calmR x = some y) : ∃ a M, x = some (.ok a, M) ∧ y = (.ok a, M) := by
  unfold calmR at h
  split at h
  · cases h
    exact ⟨_, _, rfl, rfl⟩
  · cases h
theorem bind_eq {α β : Type} {x : R α} {f : α → Store → R β} {r : Out β} {M' : Store} (h : x.bind f = some (r, M')) : (∃ a M, x = some (.ok a, M) ∧ f a M = some (r, M')) ∨ ∃ e, x = some (.ex e, M') ∧ r = .ex e := by
  cases x with
  | none => cases h
  | some p =>
    obtain ⟨o, M⟩ := p
    cases o with
    | ok a => exact .inl ⟨a, M, rfl, h⟩
    | ex e =>
      cases h
      exact .inr ⟨e, rfl, rfl⟩
theorem compL_ok {step : D → Store → R (Option (List D))} {ok : Store → Bool} : ∀ {ds : List D} {M : Store} {r : Out (List D)} {M' : Store}, compL step ok ds M = some (r, M') → ∃ xs, r = .ok xs
  | [], M, r, M', h => by
    cases h
    exact ⟨_, rfl⟩
  | d :: ds, M, r, M', h => by
    unfold compL at h
    rcases bind_eq h with ⟨o, M1, e1, e2⟩ | ⟨e, e1, _⟩
    · split at e2
      · rcases bind_eq e2 with ⟨r2, M2, e3, e4⟩ | ⟨e, e3, _⟩
        · cases e4
          exact ⟨_, rfl⟩
        · obtain ⟨xs, z⟩ := compL_ok e3
          cases z
      · cases e2
    · obtain ⟨_, _, _, z⟩ := calm_eq e1
      cases z
section
variable {X : Cx} {G : Sig} {pos : Pos}
theorem OnlyAt.conv {is js : List Nat} {sv sv' : L2.St} (h : OnlyAt is sv sv') (e : ∀ j, j ∈ js ↔ j ∈ is) : OnlyAt js sv sv' := ⟨h.1, fun j hj => h.2 j fun z => hj ((e j).mpr z)⟩
theorem comp_read {al : Bool} {eltP tgP iter : Expr} {ifsP : List Expr} {scope : Scope} {own : List (Str × Nat)} {elt ifs its : E} {tg : Tg} {kd : ItK} (hi : SI X tgP iter (evI G kd its)) (hown : ∀ j, j ∈ own.map (·.2) ↔ j ∈ tgSlots tg)
    (hg : ∀ s H C cl fp, STg (Cx.blkAt X scope s H C cl fp) tgP tg) (ht : ∀ s H C cl fp, SPt (Cx.blkAt X scope s H C cl fp) ifsP (fun sl M => evAnd G ifs sl M)) (he : ∀ s H C cl fp, SE (Cx.blkAt X scope s H C cl fp) eltP (fun sl M => evE G elt sl M))
    {sl : Slots} {M M' : Store} {r : Out D} (hf : ((evI G kd its sl M).bind fun it M => (compL (compStep G elt tg ifs sl) (stays it.2 M) it.1 M).bind fun ds M => mkL al ds M) = some (r, M'))
    {sv : L2.St} {H : Hp} {Z : Addr → Prop} {mu : List Addr} (S : StOk X.K Z mu H M) (L : SlOk X.K Z mu H sv sl) (xo : XOk X sv Z mu M H r M') {Q : VK}
    (k : ∀ d v Z' mu' H', r = .ok d → StOk X.K Z' mu' H' M' → Stp Z mu M H Z' mu' M' H' → RD X.K Z' mu' H' v d → Q v H') : tLc (wI X tgP iter) (wGB X scope tgP) (wPB X scope ifsP) (wEB X scope eltP) (own.map (·.2)) sv H Q := by
  refine hi.step hf S L xo fun it M1 J Z1 mu1 H1 S1 L1 T1 Wk xo1 hf1 => ?_
  intro B hB
  rcases bind_eq hf1 with ⟨ds, M2, e1, e2⟩ | ⟨er, e1, _⟩
  · refine ⟨fun i m H => m = it.1.length - i ∧ i ≤ it.1.length ∧ ∃ Z mu M acc vs rest, StOk X.K Z mu H M ∧ Stp Z1 mu1 M1 H1 Z mu M H ∧ stays it.2 M1 M = true ∧ ¬ Z B ∧ ¬ Live mu M B ∧ H B = some (.lst vs) ∧ RDs X.K Z mu H vs acc ∧ acc.length ≤ i ∧ compL (compStep G elt tg ifs sl) (stays it.2 M1) (it.1.drop i) M = some (.ok rest, M2) ∧ ds = acc ++ rest,
      ⟨_, rfl, Nat.zero_le _, Z1, mu1, M1, [], [], ds, S1.laid hB, Stp.laid S1 hB, Wk.st0, S1.noZ hB, S1.noL hB, upd_same, .nil, Nat.le_refl _, e1, rfl⟩, ?_⟩
    rintro i m H2 ⟨rfl, hil, Z2, mu2, M3, acc, vs, rest, S2, T2, st, nz, nl, hB2, racc, hacc, hcl, hds⟩
    by_cases hlt : i < it.1.length
    · rw [List.drop_eq_getElem_cons hlt] at hcl
      unfold compL at hcl
      rcases bind_eq hcl with ⟨o, M4, e3, e4⟩ | ⟨er, e3, e4⟩
      · split at e4
        · rename_i hok
          obtain ⟨go, yl⟩ := Wk.go Z2 mu2 M3 H2 i _ S2 T2 st (List.getElem?_eq_getElem hlt)
          refine .inr ⟨go, fun H' => ∃ Z mu acc vs rest, StOk X.K Z mu H' M4 ∧ Stp Z1 mu1 M1 H1 Z mu M4 H' ∧ ¬ Z B ∧ ¬ Live mu M4 B ∧ H' B = some (.lst vs) ∧ RDs X.K Z mu H' vs acc ∧ acc.length ≤ i + 1 ∧ compL (compStep G elt tg ifs sl) (stays it.2 M1) (it.1.drop (i + 1)) M4 = some (.ok rest, M2) ∧ ds = acc ++ rest,
            fun H' ⟨Z, mu, acc, vs, rest, h1, h2, h3⟩ => ⟨it.1.length - (i + 1), by omega, rfl, hlt, Z, mu, M4, acc, vs, rest, h1, h2, hok, h3⟩, fun x H3 y => ?_⟩
          obtain ⟨Z3, S3, T3, R3⟩ := yl x H3 y
          obtain ⟨hB3, nz3, nl3⟩ := T3.beside nz nl hB2
          have racc3 := racc.step S2 T3
          obtain ⟨_, _, e5, e6⟩ := calm_eq e3
          cases e6
          unfold compStep at e5
          obtain ⟨sl', e7, e8⟩ := need_eq e5
          rcases bind_eq e8 with ⟨b, M5, e9, e10⟩ | ⟨er, e9, z⟩
          · intro s0 H0 C cl fp
            have L3 := (L1.step S1 (T2.trans T3)).wiped hown
            refine hg s0 H0 C cl fp it.1[i] x _ sl' (wipe sv (own.map (·.2))) H3 Z3 mu2 M3 e7 S3 L3 R3 _ ?_
            intro sv' L' on
            refine ⟨?_, ?_⟩
            · rw [wipe_eq (on.conv hown), wipe_wipe]
            · intro s0 H0 C cl fp
              refine ht s0 H0 C cl fp sl' M3 b M5 e9 sv' H3 Z3 mu2 S3 L' _ fun Z4 mu4 H4 S4 T4 => ?_
              obtain ⟨hB4, nz4, nl4⟩ := T4.beside nz3 nl3 hB3
              have racc4 := racc3.step S3 T4
              rcases bind_eq e4 with ⟨rr, M6, e11, e12⟩ | ⟨er, e11, z⟩
              · obtain ⟨z1, z2⟩ := ret_eq e12
                cases z2
                cases z1
                cases b with
                | true =>
                  rw [if_pos rfl] at e10 ⊢
                  intro s0 H0 C cl fp
                  refine (he s0 H0 C cl fp).step e10 S4 (L'.step S3 T4) (XOk.ok) fun d M7 v Z5 mu5 H5 S5 L5 T5 R5 xo5 hf5 => ?_
                  cases hf5
                  obtain ⟨hB5, nz5, nl5⟩ := T5.beside nz4 nl4 hB4
                  have racc5 := racc4.step S4 T5
                  have hlen := Wk.len
                  have hho : Hold X.K Z5 Z5 H5 (upd H5 B (.lst (vs ++ [v]))) := hold_over nz5 hB5
                  have racc6 := (racc5.append (.cons R5 .nil)).hold hho fun _ _ h => h
                  refine ⟨vs, hB5, by rw [racc5.length]; omega, Z5, mu5, acc ++ [d], vs ++ [v], rr, S5.over nz5 nl5 hB5, ((((T2.trans T3).trans T4).trans T5).over hB), nz5, nl5, upd_same, racc6, ?_, e11, ?_⟩
                  · rw [List.length_append]
                    simp
                    exact hacc
                  · rw [hds, List.append_assoc]
                | false =>
                  rw [if_neg (by decide)] at e10 ⊢
                  cases e10
                  refine ⟨Z4, mu4, acc, vs, rr, S4, (T2.trans T3).trans T4, nz4, nl4, hB4, racc4, Nat.le_succ_of_le hacc, e11, hds⟩
              · cases z
          · cases z
        · cases e4
      · obtain ⟨_, _, _, z⟩ := calm_eq e3
        cases z
    · have e : i = it.1.length := by omega
      subst e
      refine .inl ⟨Wk.stop Z2 mu2 M3 H2 _ S2 T2 st (Nat.le_refl _), ?_⟩
      rw [List.drop_length] at hcl
      cases hcl
      rw [List.append_nil] at hds
      subst hds
      cases al with
      | true =>
        obtain ⟨rfl, rfl⟩ := ret_eq e2
        refine k _ _ Z2 (mu2 ++ [B]) H2 rfl (S2.addC nz nl hB2 racc) (T1.trans (T2.addC S2 hB)) (.ref ?_)
        rw [← S2.len]
        exact getElem?_snoc_last
      | false =>
        unfold mkL at e2
        obtain ⟨ps, e3, e4⟩ := need_eq e2
        obtain ⟨rfl, rfl⟩ := ret_eq e4
        exact k _ _ (Zp Z2 B) mu2 H2 rfl (S2.addZ nl hB2) (T1.trans (T2.addZ hB)) (.v (.lst (.inr rfl) hB2 ((racc.pures e3).hold (hold_id fun _ h => .inl h))))
  · obtain ⟨xs, z⟩ := compL_ok e1
    cases z
theorem evE_comp {al : Bool} {elt ifs its : E} {tg : Tg} {kd : ItK} {sl : Slots} {M : Store} : evE G (.comp al elt tg kd its ifs) sl M = (evI G kd its sl M).bind fun it M => (compL (compStep G elt tg ifs sl) (stays it.2 M) it.1 M).bind fun ds M => mkL al ds M := by
  rw [evE, evI_bind]
  rfl
theorem se_comp {kk : Nat} (c : Ctx0 X kk) {al : Bool} {eltP tgP iter : Expr} {ifsP : List Expr} {scope : Scope} {own : List (Str × Nat)} {elt ifs its : E} {tg : Tg} {kd : ItK} (ok : BlkOk X.N X.env.scope scope own) (hi : SI X tgP iter (evI G kd its)) (hown : ∀ j, j ∈ own.map (·.2) ↔ j ∈ tgSlots tg)
    (hg : ∀ s H C cl fp, STg (Cx.blkAt X scope s H C cl fp) tgP tg) (ht : ∀ s H C cl fp, SPt (Cx.blkAt X scope s H C cl fp) ifsP (fun sl M => evAnd G ifs sl M)) (he : ∀ s H C cl fp, SE (Cx.blkAt X scope s H C cl fp) eltP (fun sl M => evE G elt sl M))
    (hs : ∀ x, foldedSetIterable iter X.env x = pure x) : SE X (.ListComp eltP [⟨tgP, iter, ifsP, 0⟩] scope pos) (fun sl M => evE G (.comp al elt tg kd its ifs) sl M) := by
  intro sl M r M' hf sv H Z mu S L xo Q k
  replace hf : evE G (.comp al elt tg kd its ifs) sl M = some (r, M') := hf
  rw [evE_comp] at hf
  refine wE_of (pe_lc (g := wGB X scope tgP) (tt := wPB X scope ifsP) (te := wEB X scope eltP) c.calm c.nd (pi_w X tgP iter) ok (fun s H C cl fp => ⟨fun pins s' sv H v u Q I r h => h s _ C cl fp pins s' u I r⟩) (fun s H C cl fp => ⟨fun pins s' sv H Q I h => h s _ C cl fp pins s' I⟩) (fun s H C cl fp => ⟨fun pins s' sv H Q I h => h s _ C cl fp pins s' I⟩) hs) ?_
  exact comp_read hi hown hg ht he hf S L xo k
end
end Ev

set_option maxRecDepth 100000
set_option maxHeartbeats 1000000
namespace Ev
open PySem PySem.Spec PyProof.Rows L2

def wS (X : Cx) (st : Stmt) : TS := fun D sv H => ∀ pins s, L2.Inv X pins sv H s → wpAny (model X.prog X.w) X.A (exec st X.env) (SP X pins D) X.xe s
theorem ps_w (X : Cx) (st : Stmt) : PS X st (wS X st) := ⟨fun pins s _ _ _ I h => h pins s I⟩
theorem wS_of {X : Cx} {st : Stmt} {t : TS} (h : PS X st t) {sv : L2.St} {H : Hp} {D : Ends} (q : t D sv H) : wS X st D sv H := fun pins s I => h.run pins s sv H D I q
def wSs (X : Cx) (st : List Stmt) : TS := fun D sv H => ∀ pins s, L2.Inv X pins sv H s → wpAny (model X.prog X.w) X.A (execs st X.env) (SP X pins D) X.xe s
theorem pss_w (X : Cx) (st : List Stmt) : PSs X st (wSs X st) := ⟨fun pins s _ _ _ I h => h pins s I⟩
theorem wSs_of {X : Cx} {st : List Stmt} {t : TS} (h : PSs X st t) {sv : L2.St} {H : Hp} {D : Ends} (q : t D sv H) : wSs X st D sv H := fun pins s I => h.run pins s sv H D I q

/-- how a run of statements ends, and what is wanted there -/
def EOk (X : Cx) (Z : Addr → Prop) (mu : List Addr) (M : Store) (H : Hp) (fl : Flow) (sl' : Slots) (M' : Store) (D : Ends) : Prop :=
  match fl with
  | .nx => ∀ sv' Z' mu' H', StOk X.K Z' mu' H' M' → Stp Z mu M H Z' mu' M' H' → SlOk X.K Z' mu' H' sv' sl' → D.nx sv' H'
  | .brk => ∀ sv' Z' mu' H', StOk X.K Z' mu' H' M' → Stp Z mu M H Z' mu' M' H' → SlOk X.K Z' mu' H' sv' sl' → D.bk sv' H'
  | .cont => ∀ sv' Z' mu' H', StOk X.K Z' mu' H' M' → Stp Z mu M H Z' mu' M' H' → SlOk X.K Z' mu' H' sv' sl' → D.ct sv' H'
  | .ret d => ∀ v Z' mu' H', StOk X.K Z' mu' H' M' → Stp Z mu M H Z' mu' M' H' → RD X.K Z' mu' H' v d → D.rt v H'
  | .ex e => ∃ W, Takes X W ∧ ∀ sv' cls dx Z' mu' H', StOk X.K Z' mu' H' M' → Stp Z mu M H Z' mu' M' H' → SlOk X.K Z' mu' H' sv' sl' → ErrOk X.mg H' e cls dx → W cls dx sv' H'
def SS (X : Cx) (st : Stmt) (f : Slots → Store → RS) : Prop :=
  ∀ (sl : Slots) (M : Store) (fl : Flow) (sl' : Slots) (M' : Store), f sl M = some (fl, sl', M') → ∀ (sv : L2.St) (H : Hp) (Z : Addr → Prop) (mu : List Addr), StOk X.K Z mu H M → SlOk X.K Z mu H sv sl →
    ∀ D : Ends, EOk X Z mu M H fl sl' M' D → wS X st D sv H
def SSs (X : Cx) (st : List Stmt) (f : Slots → Store → RS) : Prop :=
  ∀ (sl : Slots) (M : Store) (fl : Flow) (sl' : Slots) (M' : Store), f sl M = some (fl, sl', M') → ∀ (sv : L2.St) (H : Hp) (Z : Addr → Prop) (mu : List Addr), StOk X.K Z mu H M → SlOk X.K Z mu H sv sl →
    ∀ D : Ends, EOk X Z mu M H fl sl' M' D → wSs X st D sv H
/-- the context of a body -/
structure Ctx1 (X : Cx) (kk : Nat) : Prop extends Ctx0 X kk where
  own : PassesOwn (model X.prog X.w) X.A X.env X.xe
section
variable {X : Cx} {sv : L2.St} {sl sl' : Slots} {Z Z' Z1 : Addr → Prop} {mu mu' mu1 : List Addr} {M M' M1 : Store} {H H' H1 : Hp} {fl : Flow} {D : Ends}
theorem EOk.step (x : EOk X Z mu M H fl sl' M' D) (T : Stp Z mu M H Z1 mu1 M1 H1) : EOk X Z1 mu1 M1 H1 fl sl' M' D := by
  cases fl with
  | nx => exact fun sv' Z' mu' H' S T' L => x sv' Z' mu' H' S (T.trans T') L
  | brk => exact fun sv' Z' mu' H' S T' L => x sv' Z' mu' H' S (T.trans T') L
  | cont => exact fun sv' Z' mu' H' S T' L => x sv' Z' mu' H' S (T.trans T') L
  | ret d => exact fun v Z' mu' H' S T' R => x v Z' mu' H' S (T.trans T') R
  | ex e =>
    obtain ⟨W, tk, p⟩ := x
    exact ⟨W, tk, fun sv' cls dx Z' mu' H' S T' L ok => p sv' cls dx Z' mu' H' S (T.trans T') L ok⟩
theorem EOk.x {e : Err} {β : Type} {r : Out β} (x : EOk X Z mu M H (.ex e) sl M' D) (S : StOk X.K Z mu H M) (L : SlOk X.K Z mu H sv sl) (h : ∀ e', r = .ex e' → e' = e) : XOk X sv Z mu M H r M' := by
  obtain ⟨W, tk, p⟩ := x
  exact ⟨W, tk, fun e' cls dx Z' mu' H' er S' T' ok => p sv cls dx Z' mu' H' S' T' (L.step S T') (by rw [← h e' er]; exact ok)⟩
/-- an expression, then the rest of the statement -/
theorem SE.go {pe : Expr} {f : Slots → Store → R Ev.D} (h : SE X pe f) {g : Ev.D → Store → RS} (hf : (f sl M).go sl g = some (fl, sl', M')) (S : StOk X.K Z mu H M) (L : SlOk X.K Z mu H sv sl) (x : EOk X Z mu M H fl sl' M' D) {Q : VK}
    (k : ∀ d M1 v Z1 mu1 H1, StOk X.K Z1 mu1 H1 M1 → SlOk X.K Z1 mu1 H1 sv sl → Stp Z mu M H Z1 mu1 M1 H1 → RD X.K Z1 mu1 H1 v d → EOk X Z1 mu1 M1 H1 fl sl' M' D → g d M1 = some (fl, sl', M') → Q v H1) : wE X pe sv H Q := by
  cases e : f sl M with
  | none =>
    rw [e] at hf
    cases hf
  | some p =>
    obtain ⟨o, M1⟩ := p
    rw [e] at hf
    cases o with
    | ex er =>
      have hf' : some (Flow.ex er, sl, M1) = some (fl, sl', M') := hf
      cases hf'
      exact h sl M _ _ e sv H Z mu S L (x.x S L fun e' z => by cases z; rfl) Q fun d v Z' mu' H' z => nomatch z
    | ok d =>
      have hf' : g d M1 = some (fl, sl', M') := hf
      exact h sl M _ _ e sv H Z mu S L XOk.ok Q fun d' v Z1 mu1 H1 z S1 T1 R1 => by
        cases z
        exact k d M1 v Z1 mu1 H1 S1 (L.step S T1) T1 R1 (x.step T1) hf'
theorem SEs.go {pe : List Expr} {f : Slots → Store → R (List Ev.D)} (h : SEs X pe f) {g : List Ev.D → Store → RS} (hf : (f sl M).go sl g = some (fl, sl', M')) (S : StOk X.K Z mu H M) (L : SlOk X.K Z mu H sv sl) (x : EOk X Z mu M H fl sl' M' D) {Q : List V → Hp → Prop}
    (k : ∀ d M1 v Z1 mu1 H1, StOk X.K Z1 mu1 H1 M1 → SlOk X.K Z1 mu1 H1 sv sl → Stp Z mu M H Z1 mu1 M1 H1 → RDs X.K Z1 mu1 H1 v d → EOk X Z1 mu1 M1 H1 fl sl' M' D → g d M1 = some (fl, sl', M') → Q v H1) : wA X pe sv H Q := by
  cases e : f sl M with
  | none =>
    rw [e] at hf
    cases hf
  | some p =>
    obtain ⟨o, M1⟩ := p
    rw [e] at hf
    cases o with
    | ex er =>
      have hf' : some (Flow.ex er, sl, M1) = some (fl, sl', M') := hf
      cases hf'
      exact h sl M _ _ e sv H Z mu S L (x.x S L fun e' z => by cases z; rfl) Q fun d v Z' mu' H' z => nomatch z
    | ok d =>
      have hf' : g d M1 = some (fl, sl', M') := hf
      exact h sl M _ _ e sv H Z mu S L XOk.ok Q fun d' v Z1 mu1 H1 z S1 T1 R1 => by
        cases z
        exact k d M1 v Z1 mu1 H1 S1 (L.step S T1) T1 R1 (x.step T1) hf'
theorem STt.go {pe : Expr} {f : Slots → Store → R Ev.D} (h : STt X pe f) {g : Ev.D → Store → RS} (hf : (f sl M).go sl g = some (fl, sl', M')) (hb : ∀ d M1 r, g d M1 = some r → (boolD d).isSome = true) (S : StOk X.K Z mu H M) (L : SlOk X.K Z mu H sv sl) (x : EOk X Z mu M H fl sl' M' D) {Q : Bool → Hp → Prop}
    (k : ∀ b M1 Z1 mu1 H1, StOk X.K Z1 mu1 H1 M1 → SlOk X.K Z1 mu1 H1 sv sl → Stp Z mu M H Z1 mu1 M1 H1 → EOk X Z1 mu1 M1 H1 fl sl' M' D → g (.v (.bool b)) M1 = some (fl, sl', M') → Q b H1) : wT X pe sv H Q := by
  cases e : f sl M with
  | none =>
    rw [e] at hf
    cases hf
  | some p =>
    obtain ⟨o, M1⟩ := p
    rw [e] at hf
    cases o with
    | ex er =>
      have hf' : some (Flow.ex er, sl, M1) = some (fl, sl', M') := hf
      cases hf'
      exact h sl M _ _ e (fun d z => nomatch z) sv H Z mu S L (x.x S L fun e' z => by cases z; rfl) Q fun d Z' mu' H' z => nomatch z
    | ok d =>
      have hf' : g d M1 = some (fl, sl', M') := hf
      exact h sl M _ _ e (fun d' z => by cases z; exact hb d M1 _ hf') sv H Z mu S L XOk.ok Q fun b Z1 mu1 H1 z S1 T1 => by
        cases z
        exact k b M1 Z1 mu1 H1 S1 (L.step S T1) T1 (x.step T1) hf'
theorem SI.go {tg iter : Expr} {f : Slots → Store → R (List Ev.D × List Nat)} (h : SI X tg iter f) {g : (List Ev.D × List Nat) → Store → RS} (hf : (f sl M).go sl g = some (fl, sl', M')) (S : StOk X.K Z mu H M) (L : SlOk X.K Z mu H sv sl) (x : EOk X Z mu M H fl sl' M' D) {Q : It → Hp → Prop}
    (k : ∀ it M1 J Z1 mu1 H1, StOk X.K Z1 mu1 H1 M1 → SlOk X.K Z1 mu1 H1 sv sl → Stp Z mu M H Z1 mu1 M1 H1 → Walk X.K J it.2 it.1 Z1 mu1 M1 H1 → EOk X Z1 mu1 M1 H1 fl sl' M' D → g it M1 = some (fl, sl', M') → Q J H1) : wI X tg iter sv H Q := by
  cases e : f sl M with
  | none =>
    rw [e] at hf
    cases hf
  | some p =>
    obtain ⟨o, M1⟩ := p
    rw [e] at hf
    cases o with
    | ex er =>
      have hf' : some (Flow.ex er, sl, M1) = some (fl, sl', M') := hf
      cases hf'
      exact h sl M _ _ e sv H Z mu S L (x.x S L fun e' z => by cases z; rfl) Q fun d J Z' mu' H' z => nomatch z
    | ok d =>
      have hf' : g d M1 = some (fl, sl', M') := hf
      exact h sl M _ _ e sv H Z mu S L XOk.ok Q fun it J Z1 mu1 H1 z S1 T1 W => by
        cases z
        exact k d M1 J Z1 mu1 H1 S1 (L.step S T1) T1 W (x.step T1) hf'
end
section
variable {X : Cx} {G : Sig} {pos : Pos}
theorem sss_nil : SSs X [] (fun sl M => evS G .skip sl M) := by
  intro sl M fl sl' M' hf sv H Z mu S L D x
  unfold evS at hf
  cases hf
  exact wSs_of pss_nil (x sv Z mu H S (Stp.refl ..) L)
theorem sss_cons {st : Stmt} {rest : List Stmt} {a b : Ev.S} (h1 : SS X st (fun sl M => evS G a sl M)) (h2 : SSs X rest (fun sl M => evS G b sl M)) : SSs X (st :: rest) (fun sl M => evS G (.seq a b) sl M) := by
  intro sl M fl sl' M' hf sv H Z mu S L D x
  unfold evS at hf
  replace hf : thenS (evS G a sl M) (fun σ M => evS G b σ M) = some (fl, sl', M') := hf
  refine wSs_of (pss_cons (ps_w X st) (pss_w X rest)) ?_
  cases e : evS G a sl M with
  | none =>
    rw [e] at hf
    cases hf
  | some p =>
    obtain ⟨fl1, sl1, M1⟩ := p
    rw [e] at hf
    refine h1 sl M _ _ _ e sv H Z mu S L _ ?_
    cases fl1 with
    | nx => exact fun sv' Z' mu' H' S' T' L' => h2 sl1 M1 fl sl' M' hf sv' H' Z' mu' S' L' D (x.step T')
    | ret d =>
      cases hf
      exact x
    | brk =>
      cases hf
      exact x
    | cont =>
      cases hf
      exact x
    | ex er =>
      cases hf
      exact x
theorem ss_pass : SS X (.Pass pos) (fun sl M => evS G .skip sl M) := by
  intro sl M fl sl' M' hf sv H Z mu S L D x
  unfold evS at hf
  cases hf
  exact wS_of ps_pass (x sv Z mu H S (Stp.refl ..) L)
theorem ss_doc {z : Str} {j : Nat} {pos' : Pos} : SS X (.Expr (.Constant (.str z) j pos) pos') (fun sl M => evS G .skip sl M) := by
  intro sl M fl sl' M' hf sv H Z mu S L D x
  unfold evS at hf
  cases hf
  exact wS_of ps_doc (x sv Z mu H S (Stp.refl ..) L)
theorem ss_break : SS X (.Break pos) (fun sl M => evS G .brk sl M) := by
  intro sl M fl sl' M' hf sv H Z mu S L D x
  unfold evS at hf
  cases hf
  exact wS_of ps_break (x sv Z mu H S (Stp.refl ..) L)
theorem ss_cont : SS X (.Continue pos) (fun sl M => evS G .cont sl M) := by
  intro sl M fl sl' M' hf sv H Z mu S L D x
  unfold evS at hf
  cases hf
  exact wS_of ps_continue (x sv Z mu H S (Stp.refl ..) L)
def isComp : Expr → Bool
  | .ListComp .. => true
  | .SetComp .. => true
  | .DictComp .. => true
  | _ => false
theorem swaps_no {e : Expr} {t : Option Expr} {l : Nat} {env : Env} (h : isComp e = false) : swapsWith e t l env = pure false := by
  cases e <;> first | rfl | cases h
def isName : Expr → Bool
  | .Name .. => true
  | _ => false
theorem swaps_no2 {e t : Expr} {l : Nat} {env : Env} (h : isName t = false) : swapsWith e (some t) l env = pure false := by
  unfold swapsWith
  cases e <;> first | rfl | (cases t <;> first | rfl | cases h)
theorem sole_no {e t : Expr} {l : Nat} {env : Env} (h : isName t = false) : swapsWithSole [t] e l env = pure false := swaps_no2 (e := e) (t := t) (l := l) (env := env) h
def isTup : Expr → Bool
  | .Tuple .. => true
  | _ => false
theorem swapped_no {t e : Expr} {env : Env} (h : isTup e = false) : swappedStores [t] e env = pure none := by
  unfold swappedStores
  cases t <;> cases e <;> first | rfl | cases h
theorem swapped_no2 {o i e : Expr} {p : Pos} {env : Env} : swappedStores [.Subscript o i p] e env = pure none := by
  unfold swappedStores
  cases e <;> rfl
theorem ss_expr {pe : Expr} {e : E} (h : SE X pe (fun sl M => evE G e sl M)) (hn : isComp pe = false) : SS X (.Expr pe pos) (fun sl M => evS G (.expr e) sl M) := by
  intro sl M fl sl' M' hf sv H Z mu S L D x
  unfold evS at hf
  refine wS_of (ps_expr (pe_w X pe) (swaps_no hn)) ?_
  refine h.go hf S L x fun d M1 v Z1 mu1 H1 S1 L1 T1 R1 x1 hf1 => ?_
  cases hf1
  exact x1 sv Z1 mu1 H1 S1 (Stp.refl ..) L1
theorem ss_asg {i : Nat} {y : Str} {p : Pos} {pe : Expr} {e : E} (hN : X.N.Nodup) (hi : X.N[i]? = some y) (hx : L2.Loc X.env.scope y) (hfn : X.fn y = true ∨ X.env.scope.names.lookup y = some .local) (h : SE X pe (fun sl M => evE G e sl M)) (hs : swapsWith pe (some (.Name y p)) pos.line X.env = pure false) :
    SS X (.Assign [.Name y p] pe pos) (fun sl M => evS G (.asg i e) sl M) := by
  intro sl M fl sl' M' hf sv H Z mu S L D x
  unfold evS at hf
  refine wS_of (ps_set hN hi hx (pe_w X pe) hs hfn) ?_
  refine h.go hf S L x fun d M1 v Z1 mu1 H1 S1 L1 T1 R1 x1 hf1 => ?_
  split at hf1
  · cases hf1
    exact x1 _ Z1 mu1 H1 S1 (Stp.refl ..) (L1.set R1)
  · cases hf1
theorem ss_asgT {ts : List Expr} {j : Nat} {p : Pos} {g : Tg} {pe : Expr} {e : E} (hg : STg X (.Tuple ts j p) (.tup g)) (h : SE X pe (fun sl M => evE G e sl M)) (hw : swappedStores [.Tuple ts j p] pe X.env = pure none) :
    SS X (.Assign [.Tuple ts j p] pe pos) (fun sl M => evS G (.asgT g e) sl M) := by
  intro sl M fl sl' M' hf sv H Z mu S L D x
  unfold evS at hf
  refine wS_of (ps_asg (pe_w X pe) (pg_w X _) (sole_no rfl) hw (by rw [assignEach_cons rfl]; rfl)) ?_
  refine h.go hf S L x fun d M1 v Z1 mu1 H1 S1 L1 T1 R1 x1 hf1 => ?_
  obtain ⟨sl2, e1, e2⟩ := need_eq hf1
  cases e2
  exact hg d v sl _ sv H1 Z1 mu1 _ e1 S1 L1 R1 _ fun sv' L' _ => x1 sv' Z1 mu1 H1 S1 (Stp.refl ..) L'
theorem ss_par {i j : Nat} {y z : Str} {a b : Expr} {py pz pt : Pos} {kt k2 : Nat} {pt2 : Pos} {es : E} (hc : X.calm = true) (hN : X.N.Nodup) (hi : X.N[i]? = some y) (hj : X.N[j]? = some z) (hij : i ≠ j)
    (hy : X.env.scope.names.lookup y = some .local) (hz : X.env.scope.names.lookup z = some .local) (h : SEs X [a, b] (fun sl M => evEs G es sl M)) (hw : swappedStores [.Tuple [.Name y py, .Name z pz] kt pt] (.Tuple [a, b] k2 pt2) X.env = pure (some [y, z])) :
    SS X (.Assign [.Tuple [.Name y py, .Name z pz] kt pt] (.Tuple [a, b] k2 pt2) pos) (fun sl M => evS G (.par (.cons (.s i) (.cons (.s j) .nil)) es) sl M) := by
  intro sl M fl sl' M' hf sv H Z mu S L D x
  unfold evS at hf
  refine wS_of (ps_par hc hN hi hj hij hy hz (pa_w X [a, b]) hw (sole_no rfl)) ?_
  refine h.go hf S L x fun ds M1 vs Z1 mu1 H1 S1 L1 T1 R1 x1 hf1 => ?_
  obtain ⟨sl2, e1, e2⟩ := need_eq hf1
  cases e2
  have hl := setTs_tgLen e1
  cases R1 with
  | nil => cases hl
  | cons q R2 =>
    cases R2 with
    | nil => cases hl
    | cons q2 R3 =>
      cases R3 with
      | cons _ _ => cases hl
      | nil =>
        refine ⟨_, _, rfl, ?_⟩
        unfold setTs at e1
        obtain ⟨sl3, e3, e4⟩ := need_eq e1
        unfold setTs at e4
        obtain ⟨sl4, e5, e6⟩ := need_eq e4
        unfold setTs at e6
        cases e6
        unfold setT at e3 e5
        split at e3
        · cases e3
          split at e5
          · cases e5
            exact x1 _ Z1 mu1 H1 S1 (Stp.refl ..) ((L1.set q).set q2)
          · cases e5
        · cases e3
theorem SlOk.lenO {K : PySem.W.Frag} {Z : Addr → Prop} {mu : List Addr} {H : Hp} {sv : L2.St} {sl : Slots} (L : SlOk K Z mu H sv sl) : sv.length = sl.length := L.len
/-- a cell of a list -/
theorem cell_at {K : PySem.W.Frag} {Z : Addr → Prop} {mu : List Addr} {H : Hp} {M : Store} (S : StOk K Z mu H M) {v : V} {r : Nat} (R : RD K Z mu H v (.ref r)) {xs : List Ev.D} (e : M[r]? = some (some (.lst xs))) : ∃ a vs, v = .ref a ∧ mu[r]? = some a ∧ H a = some (.lst vs) ∧ RDs K Z mu H vs xs := by
  cases R with
  | ref hm =>
    obtain ⟨b, e1, vs, e2, q⟩ := S.cell r _ e
    rw [hm] at e1
    cases e1
    exact ⟨_, vs, rfl, hm, e2, q⟩
def isSlice : Expr → Bool
  | .Slice .. => true
  | _ => false
theorem ss_store {o i : Expr} {p : Pos} {pe : Expr} {a ei e : E} (h : SE X pe (fun sl M => evE G e sl M)) (ho : SE X o (fun sl M => evE G a sl M)) (hi : SE X i (fun sl M => evE G ei sl M)) (hns : isSlice i = false) :
    SS X (.Assign [.Subscript o i p] pe pos) (fun sl M => evS G (.store a ei e) sl M) := by
  intro sl M fl sl' M' hf sv H Z mu S L D x
  unfold evS at hf
  refine wS_of (ps_asg (pe_w X pe) (pg_sub (pe_w X o) (pe_w X i) set_list (by intro _; cases i <;> first | rfl | cases hns)) (sole_no rfl) swapped_no2 (by rw [assignEach_cons rfl]; rfl)) ?_
  refine h.go hf S L x fun d M1 v Z1 mu1 H1 S1 L1 T1 R1 x1 hf1 => ?_
  refine ho.go hf1 S1 L1 x1 fun dx M2 u Z2 mu2 H2 S2 L2 T2 R2 x2 hf2 => ?_
  refine hi.go hf2 S2 L2 x2 fun dy M3 w Z3 mu3 H3 S3 L3 T3 R3 x3 hf3 => ?_
  obtain ⟨M4, e1, e2⟩ := need_eq hf3
  cases e2
  unfold putIx at e1
  split at e1
  · split at e1
    · rename_i xs ex
      obtain ⟨k, e3, e4⟩ := Option.map_eq_some_iff.mp e1
      obtain ⟨ad, vs, rfl, hm, hH, q⟩ := cell_at S3 (R2.step S2 T3) ex
      rw [← e4] at x3
      refine ⟨ad, vs, _, k, rfl, int_of R3, hH, by rw [q.length]; exact e3, ?_⟩
      have q2 := q.set (((R1.step S1 T2).step S2 T3)) k
      have T4 := Stp.write (o := .lst (vs.set k v)) (c' := .lst (xs.set k d)) S3 ex hm
      exact x3 _ Z3 mu3 _ (S3.write ex hm q2) T4 (L3.step S3 T4)
    · cases e1
  · cases e1
theorem isL_ty {K : PySem.W.Frag} {Z : Addr → Prop} {mu : List Addr} {H : Hp} {M : Store} (S : StOk K Z mu H M) {v : V} {d : Ev.D} (R : RD K Z mu H v d) (h : isL M d = true) : tyV K "list" v H := by
  unfold isL at h
  split at h
  · split at h
    · rename_i xs ex
      obtain ⟨ad, vs, rfl, hm, hH, q⟩ := cell_at S R ex
      exact .inl ⟨rfl, vs, SqL.of hH⟩
    · cases h
  · cases h
/-- x.append(e) as a statement -/
theorem ss_app {o e1 : Expr} {apos cpos : Pos} {a e : E} (ho : SE X o (fun sl M => evE G a sl M)) (h : SE X e1 (fun sl M => evE G e sl M)) (hs : starred e1 = false) (hb : attributeBase o "append" X.env (eval o X.env) = eval o X.env)
    (hfew : ((backTo cpos (starEach [e1] X.env)).all (fun x => !x.1) && (backToKw cpos (keywordEach [] X.env)).all (fun x => x.1.isSome) && decide (([e1] : List Expr).length + ([] : List Keyword).length + (if ([] : List Keyword).isEmpty then 0 else 1) < 30)) = true)
    (hl : (apos.endLine == cpos.line) = true) : SS X (.Expr (.Call (.Attribute o "append" apos) [e1] [] cpos) pos) (fun sl M => evS G (.app a e) sl M) := by
  intro sl M fl sl' M' hf sv H Z mu S L D x
  unfold evS at hf
  refine wS_of (ps_expr (pe_bm PySem.F.plainAttrs_list PySem.F.slot_list_append PySem.F.type_list_append mt_append (pe_w X o) (pa_cons (pe_w X e1) pa_nil (starEach_cons hs)) hb hfew hl (starEach_cons hs) rfl) (swaps_no rfl)) ?_
  refine ho.go hf S L x fun dx M1 u Z1 mu1 H1 S1 L1 T1 R1 x1 hf0 => ?_
  split at hf0
  · rename_i hL
    have hf1 := hf0
    refine ⟨isL_ty S1 R1 hL, ?_⟩
    refine h.go hf1 S1 L1 x1 fun d M2 w Z2 mu2 H2 S2 L2 T2 R2 x2 hf2 => ?_
    obtain ⟨M4, e1, e2⟩ := need_eq hf2
    cases e2
    unfold appC at e1
    split at e1
    · split at e1
      · rename_i xs ex
        obtain ⟨hz, e3⟩ := guardO_eq e1
        obtain ⟨ad, vs, rfl, hm, hH, q⟩ := cell_at S2 (R1.step S1 T2) ex
        rw [← e3] at x2
        have T4 := Stp.write (o := .lst (vs ++ [w])) (c' := .lst (xs ++ [d])) S2 ex hm
        refine ⟨ad, vs, w, rfl, rfl, hH, by rw [q.length]; exact dec hz, ?_⟩
        exact x2 _ Z2 mu2 _ (S2.write ex hm (q.append (.cons R2 .nil))) T4 (L2.step S2 T4)
      · cases e1
    · cases e1
  · cases hf0
theorem listD_ok {K : PySem.W.Frag} {Z : Addr → Prop} {mu : List Addr} {H : Hp} {M : Store} (S : StOk K Z mu H M) {v : V} {d : Ev.D} (R : RD K Z mu H v d) {ds : List Ev.D} (e : listD M d = some ds) : ∃ a vs, v = .ref a ∧ H a = some (.lst vs) ∧ RDs K Z mu H vs ds := by
  unfold listD at e
  split at e
  · cases e
    cases R with
    | v R =>
      cases R with
      | lst z h r => exact ⟨_, _, rfl, h, RDs.ofRps r⟩
  · split at e
    · rename_i xs ex
      cases e
      obtain ⟨ad, vs, rfl, hm, hH, q⟩ := cell_at S R ex
      exact ⟨ad, vs, rfl, hH, q⟩
    · cases e
  · cases e
/-- x.extend(e) as a statement -/
theorem ss_ext {o e1 : Expr} {apos cpos : Pos} {a e : E} (ho : SE X o (fun sl M => evE G a sl M)) (h : SE X e1 (fun sl M => evE G e sl M)) (hs : starred e1 = false) (hb : attributeBase o "extend" X.env (eval o X.env) = eval o X.env)
    (hfew : ((backTo cpos (starEach [e1] X.env)).all (fun x => !x.1) && (backToKw cpos (keywordEach [] X.env)).all (fun x => x.1.isSome) && decide (([e1] : List Expr).length + ([] : List Keyword).length + (if ([] : List Keyword).isEmpty then 0 else 1) < 30)) = true)
    (hl : (apos.endLine == cpos.line) = true) : SS X (.Expr (.Call (.Attribute o "extend" apos) [e1] [] cpos) pos) (fun sl M => evS G (.ext a e) sl M) := by
  intro sl M fl sl' M' hf sv H Z mu S L D x
  unfold evS at hf
  refine wS_of (ps_expr (pe_bm PySem.F.plainAttrs_list PySem.F.slot_list_extend PySem.F.type_list_extend mt_extend (pe_w X o) (pa_cons (pe_w X e1) pa_nil (starEach_cons hs)) hb hfew hl (starEach_cons hs) rfl) (swaps_no rfl)) ?_
  refine ho.go hf S L x fun dx M1 u Z1 mu1 H1 S1 L1 T1 R1 x1 hf0 => ?_
  split at hf0
  · rename_i hL
    have hf1 := hf0
    refine ⟨isL_ty S1 R1 hL, ?_⟩
    refine h.go hf1 S1 L1 x1 fun d M2 w Z2 mu2 H2 S2 L2 T2 R2 x2 hf2 => ?_
    obtain ⟨ds, e0, hf3⟩ := need_eq hf2
    obtain ⟨M4, e1, e2⟩ := need_eq hf3
    cases e2
    obtain ⟨b, ws, rfl, hB, qB⟩ := listD_ok S2 R2 e0
    unfold extC at e1
    split at e1
    · split at e1
      · rename_i xs ex
        obtain ⟨hz, e3⟩ := guardO_eq e1
        obtain ⟨ad, vs, rfl, hm, hH, q⟩ := cell_at S2 (R1.step S1 T2) ex
        rw [← e3] at x2
        have T4 := Stp.write (o := .lst (vs ++ ws)) (c' := .lst (xs ++ ds)) S2 ex hm
        refine ⟨ad, b, vs, ws, rfl, rfl, hH, hB, by rw [q.length, qB.length]; exact dec hz, ?_⟩
        exact x2 _ Z2 mu2 _ (S2.write ex hm (q.append qB)) T4 (L2.step S2 T4)
      · cases e1
    · cases e1
  · cases hf0
theorem ss_ret {pe : Expr} {e : E} (h : SE X pe (fun sl M => evE G e sl M)) : SS X (.Return (some pe) pos) (fun sl M => evS G (.ret e) sl M) := by
  intro sl M fl sl' M' hf sv H Z mu S L D x
  unfold evS at hf
  refine wS_of (ps_ret (pe_w X pe)) ?_
  refine h.go hf S L x fun d M1 v Z1 mu1 H1 S1 L1 T1 R1 x1 hf1 => ?_
  cases hf1
  exact x1 v Z1 mu1 H1 S1 (Stp.refl ..) R1
theorem ss_retN : SS X (.Return none pos) (fun sl M => evS G .retN sl M) := by
  intro sl M fl sl' M' hf sv H Z mu S L D x
  unfold evS at hf
  cases hf
  exact wS_of ps_retN (x _ Z mu H S (Stp.refl ..) (.v .non))
theorem ss_ite {c : Expr} {a b : List Stmt} {ec : E} {ea eb : Ev.S} (hc : STt X c (fun sl M => evE G ec sl M)) (ha : SSs X a (fun sl M => evS G ea sl M)) (hb : SSs X b (fun sl M => evS G eb sl M)) : SS X (.If c a b pos) (fun sl M => evS G (.ite ec ea eb) sl M) := by
  intro sl M fl sl' M' hf sv H Z mu S L D x
  unfold evS at hf
  refine wS_of (ps_if (pt_w X c) (pss_w X a) (pss_w X b)) ?_
  refine hc.go hf (fun d M1 r h => by obtain ⟨_, e, _⟩ := need_eq h; rw [e]; rfl) S L x fun t M1 Z1 mu1 H1 S1 L1 T1 x1 hf1 => ?_
  obtain ⟨b', e1, hf2⟩ := need_eq hf1
  cases e1
  cases t with
  | true =>
    rw [if_pos rfl] at hf2 ⊢
    exact ha sl M1 fl sl' M' hf2 sv H1 Z1 mu1 S1 L1 D x1
  | false =>
    rw [if_neg (by decide)] at hf2 ⊢
    exact hb sl M1 fl sl' M' hf2 sv H1 Z1 mu1 S1 L1 D x1
end
end Ev

set_option maxRecDepth 100000
set_option maxHeartbeats 1000000
namespace Ev
open PySem PySem.Spec PyProof.Rows L2

/-! ### forgotten cells -/
section
variable {K : PySem.W.Frag} {Z Z1 : Addr → Prop} {mu mu1 : List Addr} {M M1 : Store} {H H1 : Hp} {n : Nat}
theorem take_get {α : Type} {xs : List α} {n i : Nat} {x : α} (h : (xs.take n)[i]? = some x) : i < n ∧ xs[i]? = some x := by
  have hlt := (List.getElem?_eq_some_iff.mp h).1
  rw [List.length_take] at hlt
  have h1 : i < n := by omega
  rw [List.getElem?_take_of_lt h1] at h
  exact ⟨h1, h⟩
theorem get_take {α : Type} {xs : List α} {n i : Nat} {x : α} (hi : i < n) (h : xs[i]? = some x) : (xs.take n)[i]? = some x := by
  rw [List.getElem?_take_of_lt hi]
  exact h
theorem RD.cut {v : V} {d : D} (r : RD K Z mu H v d) (h : ∀ r ∈ refsD d, r < n) : RD K Z (mu.take n) H v d := by
  cases r with
  | v q => exact .v q
  | ref q => exact .ref (get_take (h _ (by simp [refsD])) q)
  | scr q => exact .scr q
theorem RDs.cut : ∀ {ds : List D} {vs : List V}, RDs K Z mu H vs ds → (∀ r ∈ refsDs ds, r < n) → RDs K Z (mu.take n) H vs ds
  | [], _, r, _ => by
    cases r
    exact .nil
  | d :: ds, _, r, h => by
    cases r with
    | cons q r =>
      exact .cons (q.cut fun s hs => h s (by unfold refsDs; rw [List.flatMap_cons]; exact List.mem_append_left _ hs)) (RDs.cut r fun s hs => h s (by unfold refsDs; rw [List.flatMap_cons]; exact List.mem_append_right _ hs))
theorem CellAt.cut {a : Addr} {c : Cell} (q : CellAt K Z mu H a c) (h : ∀ r ∈ refsC c, r < n) : CellAt K Z (mu.take n) H a c := by
  cases c with
  | lst xs =>
    obtain ⟨vs, e, q⟩ := q
    exact ⟨vs, e, q.cut h⟩
  | dic _ => exact q.elim
  | ins _ _ => exact q.elim
theorem below_of {n : Nat} {M : Store} (h : cellsBelow n M = true) {r : Nat} {c : Cell} (e : M[r]? = some (some c)) : ∀ s ∈ refsC c, s < n := by
  have := List.all_eq_true.mp h _ (List.mem_of_getElem? e)
  simp only [List.all_eq_true, decide_eq_true_eq] at this
  exact this
theorem StOk.cut (S : StOk K Z mu H M) (h : cellsBelow n (M.take n) = true) : StOk K Z (mu.take n) H (M.take n) where
  len := by rw [List.length_take, List.length_take, S.len]
  cell := fun r c e => by
    obtain ⟨h1, h2⟩ := take_get e
    obtain ⟨a, e1, q⟩ := S.cell r c h2
    exact ⟨a, get_take h1 e1, q.cut (below_of h e)⟩
  inj := fun r s c c' a h1 h2 h3 h4 => S.inj r s c c' a (take_get h1).2 (take_get h2).2 (take_get h3).2 (take_get h4).2
  nz := fun a ⟨r, c, e1, e2⟩ => S.nz a ⟨r, c, (take_get e1).2, (take_get e2).2⟩
  fz := S.fz
theorem Live.cut {a : Addr} (l : Live (mu.take n) (M.take n) a) : Live mu M a := by
  obtain ⟨r, c, e1, e2⟩ := l
  exact ⟨r, c, (take_get e1).2, (take_get e2).2⟩
theorem Stp.cut (T : Stp Z1 mu1 M1 H1 Z mu M H) (h : mu1.length ≤ n) : Stp Z1 mu1 M1 H1 Z (mu.take n) (M.take n) H :=
  ⟨T.z, fun r a e => get_take (by have := (List.getElem?_eq_some_iff.mp e).1; omega) (T.m r a e), T.keep, fun a l => T.back a l.cut, T.zback⟩
theorem keepS_len : ∀ (m : List Bool) (σ : Slots), (keepS m σ).length = σ.length
  | [], _ => rfl
  | true :: m, [] => rfl
  | false :: m, [] => rfl
  | true :: m, _ :: r => congrArg (· + 1) (keepS_len m r)
  | false :: m, _ :: r => congrArg (· + 1) (keepS_len m r)
theorem keepS_get : ∀ {m : List Bool} {σ : Slots} {i : Nat} {d : D}, (keepS m σ)[i]? = some (some d) → σ[i]? = some (some d)
  | [], _, _, _, h => h
  | true :: m, [], _, _, h => h
  | false :: m, [], _, _, h => h
  | true :: m, x :: r, 0, d, h => h
  | true :: m, x :: r, i + 1, d, h => by
    have h' : (keepS m r)[i]? = some (some d) := by simpa [keepS] using h
    simpa using keepS_get h'
  | false :: m, x :: r, 0, d, h => by simp [keepS] at h
  | false :: m, x :: r, i + 1, d, h => by
    have h' : (keepS m r)[i]? = some (some d) := by simpa [keepS] using h
    simpa using keepS_get h'
theorem refsS_mem : ∀ {σ : Slots} {i : Nat} {d : D}, σ[i]? = some (some d) → ∀ r ∈ refsD d, r ∈ refsS σ
  | [], i, d, h, r, hr => by simp at h
  | some x :: σ, 0, d, h, r, hr => by
    simp at h
    subst h
    unfold refsS
    exact List.mem_append_left _ hr
  | none :: σ, 0, d, h, r, hr => by simp at h
  | some x :: σ, i + 1, d, h, r, hr => by
    unfold refsS
    exact List.mem_append_right _ (refsS_mem (i := i) (by simpa using h) r hr)
  | none :: σ, i + 1, d, h, r, hr => by
    unfold refsS
    exact refsS_mem (i := i) (by simpa using h) r hr
/-- the slots and the store behind a turn -/
def tidyS (live : List Bool) (n : Nat) (σ : Slots) (M : Store) : Store := if (refsS (keepS live σ)).all (· < n) && cellsBelow n (M.take n) then M.take n else M
theorem tidy_eq {live : List Bool} {n : Nat} {σ : Slots} {M : Store} {f : Slots → Store → RS} : tidy live n σ M f = f (keepS live σ) (tidyS live n σ M) := rfl
theorem tidy_ok {live : List Bool} {sv : L2.St} {sl : Slots} (S : StOk K Z mu H M) (L : SlOk K Z mu H sv sl) (T : Stp Z1 mu1 M1 H1 Z mu M H) (hn : mu1.length = n) :
    ∃ mu2, StOk K Z mu2 H (tidyS live n sl M) ∧ SlOk K Z mu2 H sv (keepS live sl) ∧ Stp Z1 mu1 M1 H1 Z mu2 (tidyS live n sl M) H := by
  have L2 : SlOk K Z mu H sv (keepS live sl) := ⟨by rw [keepS_len]; exact L.len, fun i d e => L.at_ i d (keepS_get e)⟩
  unfold tidyS
  split
  · rename_i hc
    obtain ⟨h1, h2⟩ := and2 hc
    refine ⟨mu.take n, S.cut h2, ⟨L2.len, fun i d e => ?_⟩, T.cut (Nat.le_of_eq hn)⟩
    obtain ⟨v, e1, q⟩ := L2.at_ i d e
    refine ⟨v, e1, q.cut fun r hr => ?_⟩
    have := List.all_eq_true.mp h1 r (refsS_mem e r hr)
    simpa using this
  · exact ⟨mu, S, L2, T⟩
theorem stays_tidy {live : List Bool} {sl : Slots} {rs : List Nat} (h : stays rs M1 M = true) : stays rs M1 (tidyS live M1.length sl M) = true := by
  unfold tidyS
  split
  · refine List.all_eq_true.mpr fun r hr => ?_
    have h1 := stays_mem h hr
    unfold sameLst at h1 ⊢
    split at h1
    · rename_i xs ys e1 e2
      have hlt := (List.getElem?_eq_some_iff.mp e1).1
      rw [e1, get_take hlt e2]
      exact h1
    · cases h1
  · exact h
end

/-! ### for -/
section
variable {X : Cx} {G : Sig} {pos : Pos}
theorem forL_ok {kk : Nat} (c : Ctx1 X kk) {tgP : Expr} {body : List Stmt} {tg : Tg} {b : Ev.S} {live : List Bool} (hg : STg X tgP tg) (hb : SSs X body (fun sl M => evS G b sl M)) {rs : List Nat} {items : List Ev.D} {J : It}
    {Z1 : Addr → Prop} {mu1 : List Addr} {M1 : Store} {H1 : Hp} (S1 : StOk X.K Z1 mu1 H1 M1) (Wk : Walk X.K J rs items Z1 mu1 M1 H1) {sv : L2.St} {sl : Slots} (L1 : SlOk X.K Z1 mu1 H1 sv sl) {fl : Flow} {sl' : Slots} {M' : Store}
    (hf : forL live M1.length (fun d sl M => need (setT tg d sl) fun sl' => evS G b sl' M) (stays rs M1) items sl M1 = some (fl, sl', M')) {D : Ends} (x : EOk X Z1 mu1 M1 H1 fl sl' M' D) :
    ∃ W : Nat → Nat → L2.St → Hp → Prop, (∃ m, W 0 m sv H1) ∧ ∀ i m σ H, W i m σ H →
      (J.stop i H ∧ D.nx σ H) ∨ (J.go i H ∧ ∃ N : L2.St → Hp → Prop, (∀ σ' H', N σ' H' → ∃ m', m' < m ∧ W (i + 1) m' σ' H') ∧ ∀ y H', J.yld i H y H' → wG X tgP y σ H' fun σ2 H2 => wSs X body { D with nx := N, ct := N, bk := D.nx } σ2 H2) := by
  refine ⟨fun i m σ H => m = items.length - i ∧ i ≤ items.length ∧ ∃ sl Z mu M, StOk X.K Z mu H M ∧ SlOk X.K Z mu H σ sl ∧ Stp Z1 mu1 M1 H1 Z mu M H ∧ stays rs M1 M = true ∧
    forL live M1.length (fun d sl M => need (setT tg d sl) fun sl' => evS G b sl' M) (stays rs M1) (items.drop i) sl M = some (fl, sl', M'), ⟨_, rfl, Nat.zero_le _, sl, Z1, mu1, M1, S1, L1, Stp.refl .., Wk.st0, hf⟩, ?_⟩
  rintro i m σ H ⟨rfl, hil, sl2, Z2, mu2, M2, S2, Lb, T2, st, hfl⟩
  by_cases hlt : i < items.length
  · rw [List.drop_eq_getElem_cons hlt] at hfl
    obtain ⟨go, yl⟩ := Wk.go Z2 mu2 M2 H i _ S2 T2 st (List.getElem?_eq_getElem hlt)
    refine .inr ⟨go, fun σ' H' => ∃ sl Z mu M, StOk X.K Z mu H' M ∧ SlOk X.K Z mu H' σ' sl ∧ Stp Z1 mu1 M1 H1 Z mu M H' ∧ stays rs M1 M = true ∧
      forL live M1.length (fun d sl M => need (setT tg d sl) fun sl' => evS G b sl' M) (stays rs M1) (items.drop (i + 1)) sl M = some (fl, sl', M'),
      fun σ' H' h => ⟨items.length - (i + 1), by omega, rfl, hlt, h⟩, fun y H' yy => ?_⟩
    obtain ⟨Z3, S3, T3, R3⟩ := yl y H' yy
    unfold forL at hfl
    cases hst : (need (setT tg items[i] sl2) fun sl' => evS G b sl' M2) with
    | none =>
      rw [hst] at hfl
      cases hfl
    | some q =>
      obtain ⟨fb, slb, Mb⟩ := q
      rw [hst] at hfl
      obtain ⟨sl3, e1, e2⟩ := need_eq hst
      refine hg _ y sl2 sl3 σ H' Z3 mu2 M2 e1 S3 (Lb.step S2 T3) R3 _ fun σ3 L3 _ => ?_
      refine hb sl3 M2 fb slb Mb e2 σ3 H' Z3 mu2 S3 L3 _ ?_
      have T23 := T2.trans T3
      have again : ∀ {sv' : L2.St} {Z' : Addr → Prop} {mu' : List Addr} {H' : Hp}, StOk X.K Z' mu' H' Mb → Stp Z1 mu1 M1 H1 Z' mu' Mb H' → SlOk X.K Z' mu' H' sv' slb → (if stays rs M1 Mb = true then tidy live M1.length slb Mb (forL live M1.length (fun d sl M => need (setT tg d sl) fun sl' => evS G b sl' M) (stays rs M1) (items.drop (i + 1))) else none) = some (fl, sl', M') →
          ∃ sl Z mu M, StOk X.K Z mu H' M ∧ SlOk X.K Z mu H' sv' sl ∧ Stp Z1 mu1 M1 H1 Z mu M H' ∧ stays rs M1 M = true ∧ forL live M1.length (fun d sl M => need (setT tg d sl) fun sl' => evS G b sl' M) (stays rs M1) (items.drop (i + 1)) sl M = some (fl, sl', M') := by
        intro sv' Z' mu' H' S' T' L' hh
        split at hh
        · rename_i hs
          rw [tidy_eq] at hh
          obtain ⟨mu4, S4, L4, T4⟩ := tidy_ok (live := live) S' L' T' S1.len
          exact ⟨_, Z', mu4, _, S4, L4, T4, stays_tidy hs, hh⟩
        · cases hh
      cases fb with
      | nx => exact fun sv' Z' mu' H' S' T' L' => again S' (T23.trans T') L' hfl
      | cont => exact fun sv' Z' mu' H' S' T' L' => again S' (T23.trans T') L' hfl
      | brk =>
        cases hfl
        exact x.step T23
      | ret d =>
        cases hfl
        exact x.step T23
      | ex er =>
        cases hfl
        exact x.step T23
  · have e : i = items.length := by omega
    subst e
    rw [List.drop_length] at hfl
    cases hfl
    exact .inl ⟨Wk.stop _ _ _ _ _ S2 T2 st (Nat.le_refl _), x σ Z2 mu2 H S2 T2 Lb⟩
theorem evI_go {k : ItK} {its : E} {sl : Slots} {M : Store} {g : (List Ev.D × List Nat) → Store → RS} : ((evEs G its sl M).go sl fun ds M => need (itemsOf k ds M) fun it => g it M) = (evI G k its sl M).go sl g := by
  unfold evI
  cases evEs G its sl M with
  | none => rfl
  | some p =>
    obtain ⟨o, M1⟩ := p
    cases o with
    | ex e => rfl
    | ok ds =>
      show (need (itemsOf k ds M1) fun it => g it M1) = R.go (need (itemsOf k ds M1) fun it => retR it M1) sl g
      cases itemsOf k ds M1 <;> rfl
theorem ss_for {kk : Nat} (c : Ctx1 X kk) {tgP iter : Expr} {body : List Stmt} {tg : Tg} {k : ItK} {its : E} {b : Ev.S} {live : List Bool} (hi : SI X tgP iter (evI G k its)) (hg : STg X tgP tg) (hb : SSs X body (fun sl M => evS G b sl M))
    (hs : ∀ x, foldedSetIterable iter X.env x = pure x) : SS X (.For tgP iter body [] pos) (fun sl M => evS G (.for_ live tg k its b) sl M) := by
  intro sl M fl sl' M' hf sv H Z mu S L D x
  unfold evS at hf
  replace hf : ((evEs G its sl M).go sl fun ds M => need (itemsOf k ds M) fun it => forL live M.length (fun d sl M => need (setT tg d sl) fun sl' => evS G b sl' M) (stays it.2 M) it.1 sl M) = some (fl, sl', M') := hf
  rw [evI_go] at hf
  refine wS_of (ps_for c.own c.calm (pi_w X tgP iter) (pg_w X tgP) (pss_w X body) hs) ?_
  refine hi.go hf S L x fun it M1 J Z1 mu1 H1 S1 L1 T1 Wk x1 hf1 => ?_
  exact forL_ok c hg hb S1 Wk L1 hf1 x1
/-! ### while -/
/-- what a reading of while promises -/
def LoopOk (W : Loop) : Prop :=
  ∀ (X : Cx) (kk : Nat), Ctx1 X kk → ∀ (live : List Bool) (c : Expr) (body : List Stmt) (pos : Pos) (fc : Slots → Store → R Ev.D) (fb : Slots → Store → RS), STt X c fc → SSs X body fb → SS X (.While c body [] pos) (fun sl M => W live fc fb sl M)
theorem loop_ok (n : Nat) : LoopOk (loopN n) := by
  intro X kk c live cP body pos fc fb hc hb sl M1 fl sl' M' hf sv H1 Z1 mu1 S1 L1 D x
  replace hf : whileN live M1.length fc fb n sl M1 = some (fl, sl', M') := hf
  refine wS_of (ps_while c.own (pt_w X cP) (pss_w X body)) ?_
  refine ⟨fun m σ H => ∃ sl Z mu M, StOk X.K Z mu H M ∧ SlOk X.K Z mu H σ sl ∧ Stp Z1 mu1 M1 H1 Z mu M H ∧ whileN live M1.length fc fb m sl M = some (fl, sl', M'), ⟨n, sl, Z1, mu1, M1, S1, L1, Stp.refl .., hf⟩, ?_⟩
  rintro m σ H ⟨sl2, Z2, mu2, M2, S2, Lb, T2, hw⟩
  cases m with
  | zero => cases hw
  | succ m =>
    unfold whileN at hw
    refine hc.go hw (fun d M1 r h => by obtain ⟨_, e, _⟩ := need_eq h; rw [e]; rfl) S2 Lb (x.step T2) fun t M3 Z3 mu3 H3 S3 L3 T3 x3 hf1 => ?_
    obtain ⟨b', e1, hf2⟩ := need_eq hf1
    cases e1
    cases t with
    | false =>
      rw [if_neg (by decide)] at hf2 ⊢
      cases hf2
      exact x3 σ Z3 mu3 H3 S3 (Stp.refl ..) L3
    | true =>
      rw [if_pos rfl] at hf2 ⊢
      refine ⟨fun σ' H' => ∃ sl Z mu M, StOk X.K Z mu H' M ∧ SlOk X.K Z mu H' σ' sl ∧ Stp Z1 mu1 M1 H1 Z mu M H' ∧ whileN live M1.length fc fb m sl M = some (fl, sl', M'), fun σ' H' h => ⟨m, Nat.lt_succ_self m, h⟩, ?_⟩
      cases hst : fb sl2 M3 with
      | none =>
        rw [hst] at hf2
        cases hf2
      | some q =>
        obtain ⟨fbb, slb, Mb⟩ := q
        rw [hst] at hf2
        refine hb sl2 M3 fbb slb Mb hst σ H3 Z3 mu3 S3 L3 _ ?_
        have T23 := T2.trans T3
        have again : ∀ {sv' : L2.St} {Z' : Addr → Prop} {mu' : List Addr} {H' : Hp}, StOk X.K Z' mu' H' Mb → Stp Z1 mu1 M1 H1 Z' mu' Mb H' → SlOk X.K Z' mu' H' sv' slb → tidy live M1.length slb Mb (whileN live M1.length fc fb m) = some (fl, sl', M') →
            ∃ sl Z mu M, StOk X.K Z mu H' M ∧ SlOk X.K Z mu H' sv' sl ∧ Stp Z1 mu1 M1 H1 Z mu M H' ∧ whileN live M1.length fc fb m sl M = some (fl, sl', M') := by
          intro sv' Z' mu' H' S' T' L' hh
          rw [tidy_eq] at hh
          obtain ⟨mu4, S4, L4, T4⟩ := tidy_ok (live := live) S' L' T' S1.len
          exact ⟨_, Z', mu4, _, S4, L4, T4, hh⟩
        cases fbb with
        | nx => exact fun sv' Z' mu' H' S' T' L' => again S' (T23.trans T') L' hf2
        | cont => exact fun sv' Z' mu' H' S' T' L' => again S' (T23.trans T') L' hf2
        | brk =>
          cases hf2
          exact x3
        | ret d =>
          cases hf2
          exact x3
        | ex er =>
          cases hf2
          exact x3
/-- while, as long as it ends -/
noncomputable def loopAny : Loop := fun live c b σ M => by
  classical
  exact if h : ∃ n r, loopN n live c b σ M = some r then some h.choose_spec.choose else none
theorem loopAny_ok : LoopOk loopAny := by
  intro X kk c live cP body pos fc fb hc hb sl M1 fl sl' M' hf
  unfold loopAny at hf
  dsimp only at hf
  split at hf
  · rename_i h
    have := h.choose_spec.choose_spec
    have e : h.choose_spec.choose = (fl, sl', M') := Option.some.inj hf
    rw [e] at this
    exact loop_ok _ X kk c live cP body pos fc fb hc hb sl M1 fl sl' M' this
  · cases hf
end
end Ev

set_option maxRecDepth 100000
set_option maxHeartbeats 1000000
namespace Ev
open PySem PySem.Spec PyProof.Rows L2
section
variable {X : Cx} {G : Sig} {pos : Pos}
theorem se_fmt {a : Expr} {e : E} (h : SE X a (fun sl M => evE G e sl M)) : SE X (.FormattedValue a (-1) none pos) (fun sl M => evE G (.fmt e) sl M) := by
  intro sl M r M' hf sv H Z mu S L xo Q k
  unfold evE at hf
  refine wE_of (pe_fmt (pe_w X a)) ?_
  refine h.step hf S L xo fun d M1 v Z1 mu1 H1 S1 L1 T1 R1 xo1 hf1 => ?_
  split at hf1
  · split at hf1
    · rename_i i hok
      obtain ⟨rfl, rfl⟩ := ret_eq hf1
      exact .inr ⟨_, int_of R1, dec hok, k _ _ Z1 mu1 H1 rfl S1 T1 (.v (.str _))⟩
    · cases hf1
  · split at hf1
    · rename_i z hok
      obtain ⟨rfl, rfl⟩ := ret_eq hf1
      cases R1 with
      | v R1 =>
        cases R1
        exact .inl ⟨_, rfl, hok, k _ _ Z1 mu1 H1 rfl S1 T1 (.v (.str _))⟩
    · cases hf1
  · cases hf1
def SJ (X : Cx) (pes : List Expr) (f : Str → Slots → Store → R Str) : Prop :=
  ∀ (acc : Str) (sl : Slots) (M : Store) (r : Out Str) (M' : Store), f acc sl M = some (r, M') → ∀ (sv : L2.St) (H : Hp) (Z : Addr → Prop) (mu : List Addr), StOk X.K Z mu H M → SlOk X.K Z mu H sv sl → XOk X sv Z mu M H r M' →
    ∀ Q : Str → Hp → Prop, (∀ b Z' mu' H', r = .ok b → StOk X.K Z' mu' H' M' → Stp Z mu M H Z' mu' M' H' → Q b H') → tJs (pes.map (wE X)) acc sv H Q
theorem pj_w : ∀ pes : List Expr, PJ X pes (pes.map (wE X))
  | [] => .nil
  | e :: es => .cons (pe_w X e) (pj_w es)
theorem sj_nil : SJ X [] (fun acc sl M => evF G .nil acc sl M) := by
  intro acc sl M r M' hf sv H Z mu S L xo Q k
  unfold evF at hf
  obtain ⟨rfl, rfl⟩ := ret_eq hf
  exact k acc Z mu H rfl S (Stp.refl ..)
theorem sj_cons {a : Expr} {es : List Expr} {e ee : E} (h : SE X a (fun sl M => evE G e sl M)) (h2 : SJ X es (fun acc sl M => evF G ee acc sl M)) : SJ X (a :: es) (fun acc sl M => evF G (.cons e ee) acc sl M) := by
  intro acc sl M r M' hf sv H Z mu S L xo Q k
  unfold evF at hf
  show wE X a sv H _
  refine h.step hf S L xo fun d M1 v Z1 mu1 H1 S1 L1 T1 R1 xo1 hf1 => ?_
  split at hf1
  · rename_i y
    split at hf1
    · rename_i hle
      cases R1 with
      | v R1 =>
        cases R1
        refine ⟨y, rfl, hle, ?_⟩
        exact h2 (acc ++ y) sl M1 r M' hf1 sv H1 Z1 mu1 S1 L1 xo1 Q fun b Z' mu' H' e S' T' => k b Z' mu' H' e S' (T1.trans T')
    · cases hf1
  · cases hf1
theorem se_fst {v1 v2 : Expr} {rest : List Expr} {es : E} (h : SJ X (v1 :: v2 :: rest) (fun acc sl M => evF G es acc sl M)) : SE X (.JoinedStr (v1 :: v2 :: rest) pos) (fun sl M => evE G (.fst es) sl M) := by
  intro sl M r M' hf sv H Z mu S L xo Q k
  unfold evE at hf
  refine wE_of (pe_joined (pj_w (v1 :: v2 :: rest))) ?_
  rcases bind_eq hf with ⟨z, M1, e1, e2⟩ | ⟨er, e1, rfl⟩
  · obtain ⟨rfl, rfl⟩ := ret_eq e2
    refine h _ sl M _ _ e1 sv H Z mu S L XOk.ok _ fun b Z' mu' H' e S' T' => ?_
    cases e
    exact k _ _ Z' mu' H' rfl S' T' (.v (.str _))
  · exact h _ sl M _ _ e1 sv H Z mu S L (xo.conv fun e z => by cases z; rfl) _ fun b Z' mu' H' e S' T' => nomatch e
/-- a class whose instances are raised with a text -/
def ClsOk (K : PySem.W.Frag) (mg : Str → Option Value) (c : Str) : Prop :=
  ∃ (C : Addr) (bmB : List Value) (B newId initId : String), ExcBaseFacts B newId initId bmB ∧ PySem.W.excIn K C bmB newId = true ∧ mg c = some (.ref C) ∧ PySem.W.keepIn K (.ref C) = true ∧
    PySem.W.subIn K (.ref C) (.type "BaseException") = some true ∧ PySem.W.typeIn K (.ref C) = some (.type "type")
theorem ss_raise {kk : Nat} (c : Ctx0 X kk) {x m : Str} {j : Nat} {p p2 cpos : Pos} (hc : ClsOk X.K X.mg x) (hg : Gl X x) (hdb : (x == ("__debug__" : Str)) = false) :
    SS X (.Raise (some (.Call (.Name x p) [.Constant (.str m) j p2] [] cpos)) none pos) (fun sl M => evS G (.raise x (.k (.str m))) sl M) := by
  intro sl M fl sl' M' hf sv H Z mu S L D xe
  unfold evS at hf
  have e0 : evE G (.k (.str m)) sl M = retR (.v (.str m)) M := by rw [evE]
  dsimp only at hf
  rw [e0] at hf
  cases hf
  obtain ⟨W, tk, p⟩ := xe
  obtain ⟨C, bmB, B, newId, initId, F, q, gC, kC, s1, s2⟩ := hc
  refine wS_of (ps_raise c.calm tk (pmk_own F q gC kC (raises_own s1 s2) hg hdb)) ?_
  exact p sv (.ref C) none Z mu H S (Stp.refl ..) L ⟨gC, ⟨C, rfl⟩, rfl⟩
/-- name = [..], the name a local -/
theorem ss_setLc {kk : Nat} (c : Ctx0 X kk) {i : Nat} {y : Str} {py : Pos} {al : Bool} {eltP tgP iter : Expr} {ifsP : List Expr} {scope : Scope} {spos : Pos} {own : List (Str × Nat)} {elt ifs its : E} {tg : Tg} {kd : ItK} (hy : X.N[i]? = some y) (hyl : X.env.scope.names.lookup y = some .local)
    (hsw : swapsWith (.ListComp eltP [⟨tgP, iter, ifsP, 0⟩] scope pos) (some (.Name y py)) spos.line X.env = pure true) (ok : BlkOk X.N X.env.scope scope own) (hi : SI X tgP iter (evI G kd its)) (hown : ∀ j, j ∈ own.map (·.2) ↔ j ∈ tgSlots tg)
    (hg : ∀ s H C cl fp, STg (Cx.blkAt X scope s H C cl fp) tgP tg) (ht : ∀ s H C cl fp, SPt (Cx.blkAt X scope s H C cl fp) ifsP (fun sl M => evAnd G ifs sl M)) (he : ∀ s H C cl fp, SE (Cx.blkAt X scope s H C cl fp) eltP (fun sl M => evE G elt sl M))
    (hs : ∀ x, foldedSetIterable iter X.env x = pure x) : SS X (.Assign [.Name y py] (.ListComp eltP [⟨tgP, iter, ifsP, 0⟩] scope pos) spos) (fun sl M => evS G (.asg i (.comp al elt tg kd its ifs)) sl M) := by
  intro sl M fl sl' M' hf sv H Z mu S L D x
  unfold evS at hf
  replace hf : ((evE G (.comp al elt tg kd its ifs) sl M).go sl fun x M => if i < sl.length then some (Flow.nx, sl.set i (some x), M) else none) = some (fl, sl', M') := hf
  refine wS_of (ps_setLc (g := wGB X scope tgP) (tt := wPB X scope ifsP) (te := wEB X scope eltP) c.calm c.nd hy hyl hsw (pi_w X tgP iter) ok (fun s H C cl fp => ⟨fun pins s' sv H v u Q I r h => h s _ C cl fp pins s' u I r⟩) (fun s H C cl fp => ⟨fun pins s' sv H Q I h => h s _ C cl fp pins s' I⟩) (fun s H C cl fp => ⟨fun pins s' sv H Q I h => h s _ C cl fp pins s' I⟩) hs) ?_
  show tLc _ _ _ _ _ sv H _
  rw [evE_comp] at hf
  cases e : ((evI G kd its sl M).bind fun it M => (compL (compStep G elt tg ifs sl) (stays it.2 M) it.1 M).bind fun ds M => mkL al ds M) with
  | none =>
    rw [e] at hf
    cases hf
  | some q =>
    obtain ⟨o, M1⟩ := q
    rw [e] at hf
    cases o with
    | ex er =>
      have hf' : some (Flow.ex er, sl, M1) = some (fl, sl', M') := hf
      cases hf'
      exact comp_read hi hown hg ht he e S L (x.x S L fun e' z => by cases z; rfl) fun d v Z' mu' H' z => nomatch z
    | ok d =>
      refine comp_read hi hown hg ht he e S L XOk.ok fun d' v Z1 mu1 H1 z S1 T1 R1 => ?_
      cases z
      have hf' : (if i < sl.length then some (Flow.nx, sl.set i (some d), M1) else none) = some (fl, sl', M') := hf
      split at hf'
      · cases hf'
        exact x _ Z1 mu1 H1 S1 T1 ((L.step S T1).set R1)
      · cases hf'
end
end Ev

set_option maxRecDepth 100000
set_option maxHeartbeats 1000000
namespace Ev
open PySem PySem.Spec PyProof.Rows L2

structure Cfg where
  N : List Str
  sc : Scope
  fns : List Str
  gls : List Str
  exs : List Str
  fnAll : Bool
def isVis (c : Cfg) (x : Str) : Bool := match c.sc.names.lookup x with
  | some .local => true
  | some .cell => true
  | some .free => true
  | _ => false
def isLoc (c : Cfg) (x : Str) : Bool := match c.sc.names.lookup x with
  | some .local => true
  | some .cell => c.fnAll
  | _ => false
def isGl (c : Cfg) (x : Str) : Bool := match c.sc.names.lookup x with
  | some .globalImplicit => true
  | _ => false
def noDb (x : Str) : Bool := !(x == ("__debug__" : Str)) && !(x == ("__classdict__" : Str))
def slotIs (c : Cfg) (i : Nat) (x : Str) : Bool := match c.N[i]? with
  | some y => decide (y = x)
  | none => false
def chkK : Const → PyData → Bool
  | .none, .none => true
  | .bool b, .bool b' => b == b'
  | .int i, .int j => decide (i = j)
  | .str x, .str y => decide (x = y)
  | _, _ => false
def noStar (es : List Expr) : Bool := es.all fun e => !starred e
def notSet : Expr → Bool
  | .Set .. => false
  | _ => true
/-- tested by its value -/
def plainT : Expr → Bool
  | .Name .. => true
  | .Constant .. => true
  | .Call .. => true
  | .Subscript .. => true
  | .Attribute .. => true
  | _ => false
mutual
def chkTg (c : Cfg) : Tg → Expr → Bool
  | .s i, pe => match pe with
    | .Name x _ => slotIs c i x && isLoc c x
    | _ => false
  | .tup g, pe => match pe with
    | .Tuple ts _ _ => chkTgs c g ts && noStar ts
    | _ => false
  | .nil, _ => false
  | .cons _ _, _ => false
def chkTgs (c : Cfg) : Tg → List Expr → Bool
  | .nil, ts => ts.isEmpty
  | .cons g gs, ts => match ts with
    | t :: r => chkTg c g t && chkTgs c gs r && !starred t
    | [] => false
  | .s _, _ => false
  | .tup _, _ => false
end
def ownOf (c : Cfg) (tg : Tg) : List (Str × Nat) := (tgSlots tg).map fun i => (c.N.getD i ⟨#[]⟩, i)
def inBlk (c : Cfg) (scope : Scope) : Cfg := { c with sc := relS scope c.sc, fnAll := false }
mutual
def chkE (t : Bool) (c : Cfg) : E → Expr → Bool
  | .v i, pe => match pe with
    | .Name x _ => slotIs c i x && isVis c x && noDb x
    | _ => false
  | .k p, pe => match pe with
    | .Constant k _ _ => chkK k p
    | _ => false
  | .g x, pe => match pe with
    | .Name y _ => decide (x = y) && isGl c y && noDb y && decide (y ∈ c.gls)
    | _ => false
  | .tup es, pe => match pe with
    | .Tuple pes _ _ => chkEs c es pes && !t
    | _ => false
  | .lst _ es, pe => match pe with
    | .List pes _ => chkEs c es pes && !t
    | _ => false
  | .bin o a b, pe => match pe with
    | .BinOp pa o' pb _ => decide (o = o') && chkE false c a pa && chkE false c b pb && !t
    | _ => false
  | .binA o a b, pe => match pe with
    | .BinOp pa o' pb _ => decide (o = o') && chkE false c a pa && chkE false c b pb && !t
    | _ => false
  | .neg a, pe => match pe with
    | .UnaryOp .USub pa _ => chkE false c a pa && !t
    | _ => false
  | .not a, pe => match pe with
    | .UnaryOp .Not pa _ => chkE t c a pa
    | _ => false
  | .cmp o a b, pe => match pe with
    | .Compare pa [o'] [pb] _ => decide (o = o') && chkE false c a pa && chkE false c b pb && !behindInMarks o pb
    | _ => false
  | .chain o o2 a b d, pe => match pe with
    | .Compare pa [o', o2'] [pb, pd] _ => decide (o = o') && decide (o2 = o2') && chkE false c a pa && chkE false c b pb && chkE false c d pd && !lastMarks [o, o2] [pb, pd]
    | _ => false
  | .and es, pe => match pe with
    | .BoolOp .And pes _ => chkB t c es pes
    | _ => false
  | .or es, pe => match pe with
    | .BoolOp .Or pes _ => chkB t c es pes
    | _ => false
  | .ifx d a b, pe => match pe with
    | .IfExp pd pa pb _ => chkE true c d pd && chkE false c a pa && chkE false c b pb && !t
    | _ => false
  | .sub a i, pe => match pe with
    | .Subscript pa pi _ => chkE false c a pa && chkE false c i pi && !isSlice pi
    | _ => false
  | .sl a lo hi, pe => match pe with
    | .Subscript pa (.Slice plo phi none _) _ => chkE false c a pa && chkO c lo plo && chkO c hi phi && !t
    | _ => false
  | .rev _, _ => false
  | .call f es, pe => match pe with
    | .Call (.Name f' _) pes [] _ => decide (f = f') && isGl c f' && noDb f' && decide (f' ∈ c.fns) && chkEs c es pes && noStar pes
    | _ => false
  | .bi b es, pe => match pe with
    | .Call (.Name f _) pes [] _ => decide (f = biName b) && isGl c f && chkEs c es pes && noStar pes && !pes.isEmpty
    | _ => false
  | .biA b es, pe => match pe with
    | .Call (.Name f _) pes [] _ => decide (f = biName b) && isGl c f && chkEs c es pes && noStar pes && !pes.isEmpty
    | _ => false
  | .mt _ _ _, _ => false
  | .comp _ elt tg k it ifs, pe => match pe with
    | .ListComp pelt [⟨ptg, piter, pifs, 0⟩] scope _ =>
      blkC c.N c.sc scope (ownOf c tg) && chkTg (inBlk c scope) tg ptg && chkI c k it ptg piter && chkIf (inBlk c scope) ifs pifs && chkE false (inBlk c scope) elt pelt && notSet piter && !t
    | _ => false
  | .comp2 _ _ _ _ _ _ _ _ _, _ => false
  | .frz e, pe => chkE false c e pe && !t
  | .told _, _ => false
  | .fst es, pe => match pe with
    | .JoinedStr pes _ => chkEs c es pes && decide (2 ≤ pes.length) && !t
    | _ => false
  | .fmt e, pe => match pe with
    | .FormattedValue pa cv none _ => chkE false c e pa && decide (cv = -1) && !t
    | _ => false
  | .pop _, _ => false
  | .nil, _ => false
  | .cons _ _, _ => false
  | .conss _ _, _ => false
def chkEs (c : Cfg) : E → List Expr → Bool
  | .nil, pes => pes.isEmpty
  | .cons e es, pes => match pes with
    | p :: ps => chkE false c e p && chkEs c es ps && !starred p
    | [] => false
  | .conss e es, pes => match pes with
    | .Starred p _ :: ps => chkE false c e p && chkEs c es ps
    | _ => false
  | _, _ => false
def chkB (t : Bool) (c : Cfg) : E → List Expr → Bool
  | .cons e es, pes => match pes with
    | [p] => chkE t c e p && isNilE es
    | p :: q :: ps => chkE t c e p && chkB t c es (q :: ps)
    | [] => false
  | _, _ => false
def chkO (c : Cfg) : E → Option Expr → Bool
  | .nil, p => p.isNone
  | .cons e es, p => match p with
    | some pe => chkE false c e pe && isNilE es
    | none => false
  | _, _ => false
def chkIf (c : Cfg) : E → List Expr → Bool
  | .nil, pes => pes.isEmpty
  | .cons e es, pes => match pes with
    | [p] => chkE true c e p && isNilE es
    | _ => false
  | _, _ => false
def chkI (c : Cfg) (k : ItK) : E → Expr → Expr → Bool
  | .cons e es, ptg, piter => match k with
    | .plain => chkE false c e piter && isNilE es
    | .range => match piter with
      | .Call (.Name f _) [a] [] _ => decide (f = ("range" : Str)) && isGl c f && chkE false c e a && isNilE es && !starred a
      | _ => false
    | .range2 => match piter with
      | .Call (.Name f _) [a, b] [] _ => decide (f = ("range" : Str)) && isGl c f && chkE false c e a && chkEs c es [b] && !starred a && !starred b
      | _ => false
    | .enum => match ptg, piter with
      | .Tuple _ _ _, .Call (.Name f _) [a] [] _ => decide (f = ("enumerate" : Str)) && isGl c f && chkE false c e a && isNilE es && !starred a
      | _, _ => false
    | .zip => match ptg, piter with
      | .Tuple _ _ _, .Call (.Name f _) [a, b] [] _ => decide (f = ("zip" : Str)) && isGl c f && chkE false c e a && chkEs c es [b] && !starred a && !starred b
      | _, _ => false
    | _ => false
  | _, _, _ => false
def isNilE : E → Bool
  | .nil => true
  | _ => false
end

/-! ### what the check leans on -/
structure GOk (c : Cfg) (X : Cx) (G : Sig) (kk : Nat) : Prop where
  c0 : Ctx0 X kk
  n : X.N = c.N
  sc : X.env.scope = c.sc
  calls : Calls X.prog X.w X.K X.mg X.base kk (fun f => decide (f ∈ c.fns)) G.call
  bis : ∀ b, X.mg (biName b) = none
  rng : X.mg "range" = none
  enu : X.mg "enumerate" = none
  zip : X.mg "zip" = none
  gls : ∀ x ∈ c.gls, ∀ p, G.glob x = some p → ∃ u v, X.mg x = some u ∧ RelV v u ∧ ∀ Z H, Rp X.K Z H v p
  exs : ∀ x ∈ c.exs, ClsOk X.K X.mg x
  fn : c.fnAll = true → ∀ x, X.fn x = true
section
variable {c : Cfg} {X : Cx} {G : Sig} {kk : Nat}
theorem GOk.blk (ok : GOk c X G kk) (scope : Scope) (s : Shared) (H : Hp) (C : Addr) (cl : List (Str × Addr)) (fp : List Addr) : GOk (inBlk c scope) (Cx.blkAt X scope s H C cl fp) G kk where
  c0 := ⟨ok.c0.calm, ok.c0.room, ok.c0.g, ok.c0.nd⟩
  n := ok.n
  sc := by
    show relS scope X.env.scope = relS scope c.sc
    rw [ok.sc]
  calls := ok.calls
  bis := ok.bis
  rng := ok.rng
  enu := ok.enu
  zip := ok.zip
  gls := ok.gls
  exs := ok.exs
  fn := fun h => by cases h
theorem GOk.slot (ok : GOk c X G kk) {i : Nat} {x : Str} (h : slotIs c i x = true) : X.N[i]? = some x := by
  unfold slotIs at h
  rw [ok.n]
  split at h
  · rename_i y e
    rw [e, dec h]
  · cases h
theorem GOk.vis (ok : GOk c X G kk) {x : Str} (h : isVis c x = true) : Vis X.env.scope x := by
  unfold isVis at h
  unfold Vis
  rw [ok.sc]
  split at h
  · rename_i e
    exact .inl e
  · rename_i e
    exact .inr (.inl e)
  · rename_i e
    exact .inr (.inr e)
  · cases h
theorem GOk.loc (ok : GOk c X G kk) {x : Str} (h : isLoc c x = true) : L2.Loc X.env.scope x ∧ (X.fn x = true ∨ X.env.scope.names.lookup x = some .local) := by
  unfold isLoc at h
  unfold L2.Loc
  rw [ok.sc]
  split at h
  · rename_i e
    exact ⟨.inl e, .inr e⟩
  · rename_i e
    exact ⟨.inr e, .inl (ok.fn h x)⟩
  · cases h
theorem GOk.gl (ok : GOk c X G kk) {x : Str} (h : isGl c x = true) : Gl X x := by
  unfold isGl at h
  show X.env.scope.names.lookup x = some .globalImplicit
  rw [ok.sc]
  split at h
  · rename_i e
    exact e
  · cases h
theorem noDb_eq {x : Str} (h : noDb x = true) : (x == ("__debug__" : Str)) = false ∧ (x == ("__classdict__" : Str)) = false := by
  unfold noDb at h
  obtain ⟨h1, h2⟩ := and2 h
  exact ⟨by simpa using h1, by simpa using h2⟩
theorem not_eq {b : Bool} (h : (!b) = true) : b = false := by cases b <;> first | rfl | cases h
theorem noStar_mem {es : List Expr} (h : noStar es = true) : ∀ e ∈ es, starred e = false := fun e he => by
  have := List.all_eq_true.mp h e he
  exact not_eq this
mutual
theorem chkTg_ok (ok : GOk c X G kk) : ∀ {g : Tg} {pe : Expr}, chkTg c g pe = true → STg X pe g
  | .s i, pe, h => by
    unfold chkTg at h
    split at h
    · obtain ⟨h1, h2⟩ := and2 h
      obtain ⟨h3, h4⟩ := ok.loc h2
      exact stg_name ok.c0.nd (ok.slot h1) h3 h4
    · cases h
  | .tup g, pe, h => by
    unfold chkTg at h
    split at h
    · obtain ⟨h1, h2⟩ := and2 h
      exact stg_tup ok.c0.calm (chkTgs_ok ok h1) (chkTgs_len h1) (noStar_mem h2)
    · cases h
  | .nil, pe, h => by
    unfold chkTg at h
    cases h
  | .cons _ _, pe, h => by
    unfold chkTg at h
    cases h
theorem chkTgs_ok (ok : GOk c X G kk) : ∀ {g : Tg} {pes : List Expr}, chkTgs c g pes = true → STgs X pes g
  | .nil, pes, h => by
    unfold chkTgs at h
    cases pes with
    | nil => exact stgs_nil
    | cons _ _ => cases h
  | .cons g gs, pes, h => by
    unfold chkTgs at h
    cases pes with
    | nil => cases h
    | cons t r =>
      obtain ⟨h1, h2⟩ := and2 h
      obtain ⟨h3, h4⟩ := and2 h1
      exact stgs_cons (chkTg_ok ok h3) (chkTgs_ok ok h4) (not_eq h2)
  | .s _, pes, h => by
    unfold chkTgs at h
    cases h
  | .tup _, pes, h => by
    unfold chkTgs at h
    cases h
theorem chkTgs_len : ∀ {g : Tg} {pes : List Expr}, chkTgs c g pes = true → tgLen g = pes.length
  | .nil, pes, h => by
    unfold chkTgs at h
    cases pes with
    | nil => rfl
    | cons _ _ => cases h
  | .cons g gs, pes, h => by
    unfold chkTgs at h
    cases pes with
    | nil => cases h
    | cons t r =>
      obtain ⟨h1, h2⟩ := and2 h
      obtain ⟨h3, h4⟩ := and2 h1
      exact congrArg (· + 1) (chkTgs_len h4)
  | .s _, pes, h => by
    unfold chkTgs at h
    cases h
  | .tup _, pes, h => by
    unfold chkTgs at h
    cases h
end
end
end Ev

set_option maxRecDepth 100000
set_option maxHeartbeats 2000000
namespace Ev
open PySem PySem.Spec PyProof.Rows L2
section
variable {c : Cfg} {X : Cx} {G : Sig} {kk : Nat}
theorem and3 {a b d : Bool} (h : (a && b && d) = true) : a = true ∧ b = true ∧ d = true := by
  obtain ⟨h1, h2⟩ := and2 h
  obtain ⟨h3, h4⟩ := and2 h1
  exact ⟨h3, h4, h2⟩
theorem and4 {a b d e : Bool} (h : (a && b && d && e) = true) : a = true ∧ b = true ∧ d = true ∧ e = true := by
  obtain ⟨h1, h2⟩ := and2 h
  obtain ⟨h3, h4, h5⟩ := and3 h1
  exact ⟨h3, h4, h5, h2⟩
theorem and5 {a b d e f : Bool} (h : (a && b && d && e && f) = true) : a = true ∧ b = true ∧ d = true ∧ e = true ∧ f = true := by
  obtain ⟨h1, h2⟩ := and2 h
  obtain ⟨h3, h4, h5, h6⟩ := and4 h1
  exact ⟨h3, h4, h5, h6, h2⟩
theorem and6 {a b d e f g : Bool} (h : (a && b && d && e && f && g) = true) : a = true ∧ b = true ∧ d = true ∧ e = true ∧ f = true ∧ g = true := by
  obtain ⟨h1, h2⟩ := and2 h
  obtain ⟨h3, h4, h5, h6, h7⟩ := and5 h1
  exact ⟨h3, h4, h5, h6, h7, h2⟩
theorem and7 {a b d e f g i : Bool} (h : (a && b && d && e && f && g && i) = true) : a = true ∧ b = true ∧ d = true ∧ e = true ∧ f = true ∧ g = true ∧ i = true := by
  obtain ⟨h1, h2⟩ := and2 h
  obtain ⟨h3, h4, h5, h6, h7, h8⟩ := and6 h1
  exact ⟨h3, h4, h5, h6, h7, h8, h2⟩
theorem noT {t : Bool} {P : Prop} (h : (!t) = true) : t = true → P := fun e => by
  rw [e] at h
  cases h
theorem nilE {e : E} (h : isNilE e = true) : e = .nil := by
  cases e <;> first | rfl | cases h
theorem emp {α : Type} {l : List α} (h : l.isEmpty = true) : l = [] := by
  cases l <;> first | rfl | cases h
theorem folded {e : Expr} {env : Env} (h : notSet e = true) : ∀ x, foldedSetIterable e env x = pure x := fun x => by
  cases e <;> first | rfl | cases h
theorem plainIx_no {b : Expr} (h : isSlice b = false) : PlainIx b := plainIx_of fun a c d p e => by
  rw [e] at h
  cases h
theorem both {pe : Expr} {f : Slots → Store → R D} {t : Bool} (h : SE X pe f) (he : plainT pe = true) : SE X pe f ∧ (t = true → STt X pe f) := by
  refine ⟨h, fun _ => stt_val h fun whole => ?_⟩
  cases pe <;> first | rfl | cases he
theorem chkK_ok {k : Const} {p : PyData} : chkK k p = true → (match k, p with
    | .none, .none => True
    | .bool b, .bool b' => b = b'
    | .int b, .int b' => b = b'
    | .str b, .str b' => b = b'
    | _, _ => False) := by
  intro h
  unfold chkK at h
  split at h
  · trivial
  · simpa using h
  · exact dec h
  · exact dec h
  · cases h
theorem ownOf_ix {tg : Tg} : (ownOf c tg).map (·.2) = tgSlots tg := by
  unfold ownOf
  rw [List.map_map]
  have : ((fun x => x.2) ∘ fun i => (c.N.getD i ⟨#[]⟩, i)) = id := rfl
  rw [this, List.map_id]
theorem biNDb (b : Bi) : noDb (biName b) = true := by
  cases b <;> decide +kernel
theorem ses_of_one {a : Expr} {es : List Expr} {X : Cx} {f : Slots → Store → R (List D)} (h : SEs X (a :: es) f) : SEs X (a :: es) f := h
set_option maxHeartbeats 4000000 in
mutual
theorem chkE_ok : ∀ (e : E) {t : Bool} {c : Cfg} {X : Cx} {pe : Expr}, GOk c X G kk → chkE t c e pe = true → SE X pe (fun sl M => evE G e sl M) ∧ (t = true → STt X pe (fun sl M => evE G e sl M))
  | .v i, t, c, X, pe, ok, h => by
    unfold chkE at h
    split at h
    · obtain ⟨h1, h2, h3⟩ := and3 h
      obtain ⟨h4, h5⟩ := noDb_eq h3
      exact both (se_v (ok.slot h1) (ok.vis h2) h4 h5) rfl
    · cases h
  | .k p, t, c, X, pe, ok, h => by
    unfold chkE at h
    split at h
    · exact both (se_const (.inr (chkK_ok h))) rfl
    · cases h
  | .g x, t, c, X, pe, ok, h => by
    unfold chkE at h
    split at h
    · obtain ⟨h1, h2, h3, h4⟩ := and4 h
      have e := dec h1
      subst e
      exact both (se_glob (ok.gl h2) (noDb_eq h3).1 (ok.gls _ (dec h4))) rfl
    · cases h
  | .tup es, t, c, X, pe, ok, h => by
    unfold chkE at h
    split at h
    · obtain ⟨h1, h2⟩ := and2 h
      exact ⟨se_tup (chkEs_ok es ok h1), noT h2⟩
    · cases h
  | .lst al es, t, c, X, pe, ok, h => by
    unfold chkE at h
    split at h
    · obtain ⟨h1, h2⟩ := and2 h
      exact ⟨se_lst (chkEs_ok es ok h1), noT h2⟩
    · cases h
  | .bin o a b, t, c, X, pe, ok, h => by
    unfold chkE at h
    split at h
    · obtain ⟨h1, h2, h3, h4⟩ := and4 h
      have e := dec h1
      subst e
      exact ⟨se_bin ok.c0 (chkE_ok a ok h2).1 (chkE_ok b ok h3).1, noT h4⟩
    · cases h
  | .binA o a b, t, c, X, pe, ok, h => by
    unfold chkE at h
    split at h
    · obtain ⟨h1, h2, h3, h4⟩ := and4 h
      have e := dec h1
      subst e
      exact ⟨se_binA ok.c0 (chkE_ok a ok h2).1 (chkE_ok b ok h3).1, noT h4⟩
    · cases h
  | .neg a, t, c, X, pe, ok, h => by
    unfold chkE at h
    split at h
    · obtain ⟨h1, h2⟩ := and2 h
      exact ⟨se_neg (chkE_ok a ok h1).1, noT h2⟩
    · cases h
  | .not a, t, c, X, pe, ok, h => by
    unfold chkE at h
    split at h
    · obtain ⟨h1, h2⟩ := chkE_ok a ok h
      exact ⟨se_not h1, fun e => stt_not (h2 e)⟩
    · cases h
  | .cmp o a b, t, c, X, pe, ok, h => by
    unfold chkE at h
    split at h
    · obtain ⟨h1, h2, h3, h4⟩ := and4 h
      have e := dec h1
      subst e
      have ha := (chkE_ok a ok h2).1
      have hb := (chkE_ok b ok h3).1
      exact ⟨se_cmp ok.c0 ha hb (not_eq h4), fun _ => stt_cmp ok.c0 ha hb (not_eq h4)⟩
    · cases h
  | .chain o o2 a b d, t, c, X, pe, ok, h => by
    unfold chkE at h
    split at h
    · obtain ⟨h1, h2, h3, h4, h5, h6⟩ := and6 h
      have e := dec h1
      have e2 := dec h2
      subst e e2
      have ha := (chkE_ok a ok h3).1
      have hb := (chkE_ok b ok h4).1
      have hd := (chkE_ok d ok h5).1
      exact ⟨se_chain ok.c0 ha hb hd (not_eq h6), fun _ => stt_chain ok.c0 ha hb hd (not_eq h6)⟩
    · cases h
  | .and es, t, c, X, pe, ok, h => by
    unfold chkE at h
    split at h
    · exact ⟨se_and ((chkB_ok es ok h).1 _), fun e => stt_and ((chkB_ok es ok h).2.1 e _)⟩
    · cases h
  | .or es, t, c, X, pe, ok, h => by
    unfold chkE at h
    split at h
    · exact ⟨se_or ((chkB_ok es ok h).2.2.1 _), fun e => stt_or ((chkB_ok es ok h).2.2.2 e _)⟩
    · cases h
  | .ifx d a b, t, c, X, pe, ok, h => by
    unfold chkE at h
    split at h
    · obtain ⟨h1, h2, h3, h4⟩ := and4 h
      exact ⟨se_ifx ((chkE_ok d ok h1).2 rfl) (chkE_ok a ok h2).1 (chkE_ok b ok h3).1, noT h4⟩
    · cases h
  | .sub a i, t, c, X, pe, ok, h => by
    unfold chkE at h
    split at h
    · obtain ⟨h1, h2, h3⟩ := and3 h
      exact both (se_sub (chkE_ok a ok h1).1 (chkE_ok i ok h2).1 (plainIx_no (not_eq h3))) rfl
    · cases h
  | .sl a lo hi, t, c, X, pe, ok, h => by
    unfold chkE at h
    split at h
    · obtain ⟨h1, h2, h3, h4⟩ := and4 h
      exact ⟨se_sl (chkE_ok a ok h1).1 (chkO_ok lo ok h2) (chkO_ok hi ok h3), noT h4⟩
    · cases h
  | .rev _, t, c, X, pe, ok, h => by
    unfold chkE at h
    cases h
  | .call f es, t, c, X, pe, ok, h => by
    unfold chkE at h
    split at h
    · obtain ⟨h1, h2, h3, h4, h5, h6⟩ := and6 h
      have e := dec h1
      subst e
      have hs := noStar_mem h6
      have hes := chkEs_ok es ok h5
      rename_i f' p pes pos
      cases pes with
      | nil =>
        have hn : es = .nil ∨ ∃ e es', es = .conss e es' ∨ es = .cons e es' ∨ True := .inr ⟨.nil, .nil, .inr (.inr trivial)⟩
        cases es <;> first
          | exact both (se_call0 ok.c0 (Nat.le_refl _) ok.calls h4 (ok.gl h2) (noDb_eq h3).1) rfl
          | (unfold chkEs at h5; cases h5)
      | cons e es' =>
        exact both (se_call ok.c0 (Nat.le_refl _) ok.calls h4 (ok.gl h2) (noDb_eq h3).1 (starEach_cons (hs e List.mem_cons_self)) (back_plain fun x hx => hs x (List.mem_cons_of_mem _ hx)) hes) rfl
    · cases h
  | .bi b es, t, c, X, pe, ok, h => by
    unfold chkE at h
    split at h
    · obtain ⟨h1, h2, h3, h4, h5⟩ := and5 h
      have e := dec h1
      subst e
      have hs := noStar_mem h4
      have hes := chkEs_ok es ok h3
      rename_i p pes pos
      cases pes with
      | nil => cases h5
      | cons e es' =>
        exact both (se_bi ok.c0 (ok.gl h2) (ok.bis b) (starEach_cons (hs e List.mem_cons_self)) (back_plain fun x hx => hs x (List.mem_cons_of_mem _ hx)) hes) rfl
    · cases h
  | .biA b es, t, c, X, pe, ok, h => by
    unfold chkE at h
    split at h
    · obtain ⟨h1, h2, h3, h4, h5⟩ := and5 h
      have e := dec h1
      subst e
      have hs := noStar_mem h4
      have hes := chkEs_ok es ok h3
      rename_i p pes pos
      cases pes with
      | nil => cases h5
      | cons e es' =>
        exact both (se_biA ok.c0 (ok.gl h2) (ok.bis b) (starEach_cons (hs e List.mem_cons_self)) (back_plain fun x hx => hs x (List.mem_cons_of_mem _ hx)) hes) rfl
    · cases h
  | .mt _ _ _, t, c, X, pe, ok, h => by
    unfold chkE at h
    cases h
  | .comp al elt tg k it ifs, t, c, X, pe, ok, h => by
    unfold chkE at h
    split at h
    · obtain ⟨h1, h2, h3, h4, h5, h6, h7⟩ := and7 h
      exact ⟨se_comp ok.c0 (blkOk_by (by rw [ok.n, ok.sc]; exact h1)) (chkI_ok it ok h3) (fun j => by rw [ownOf_ix]) (fun s H C cl fp => chkTg_ok (ok.blk _ s H C cl fp) h2) (fun s H C cl fp => chkIf_ok ifs (ok.blk _ s H C cl fp) h4)
        (fun s H C cl fp => (chkE_ok elt (ok.blk _ s H C cl fp) h5).1) (folded h6), noT h7⟩
    · cases h
  | .comp2 _ _ _ _ _ _ _ _ _, t, c, X, pe, ok, h => by
    unfold chkE at h
    cases h
  | .frz e, t, c, X, pe, ok, h => by
    unfold chkE at h
    obtain ⟨h1, h2⟩ := and2 h
    exact ⟨se_frz (chkE_ok e ok h1).1, noT h2⟩
  | .told _, t, c, X, pe, ok, h => by
    unfold chkE at h
    cases h
  | .fst es, t, c, X, pe, ok, h => by
    unfold chkE at h
    split at h
    · obtain ⟨h1, h2, h3⟩ := and3 h
      rename_i pes pos
      cases pes with
      | nil => cases (dec h2)
      | cons v1 r =>
        cases r with
        | nil =>
          have := dec h2
          simp at this
        | cons v2 rest => exact ⟨se_fst (chkF_ok es ok h1), noT h3⟩
    · cases h
  | .fmt e, t, c, X, pe, ok, h => by
    unfold chkE at h
    split at h
    · obtain ⟨h1, h2, h3⟩ := and3 h
      have e := dec h2
      subst e
      exact ⟨se_fmt (chkE_ok e ok h1).1, noT h3⟩
    · cases h
  | .pop _, t, c, X, pe, ok, h => by
    unfold chkE at h
    cases h
  | .nil, t, c, X, pe, ok, h => by
    unfold chkE at h
    cases h
  | .cons _ _, t, c, X, pe, ok, h => by
    unfold chkE at h
    cases h
  | .conss _ _, t, c, X, pe, ok, h => by
    unfold chkE at h
    cases h
theorem chkEs_ok : ∀ (e : E) {c : Cfg} {X : Cx} {pes : List Expr}, GOk c X G kk → chkEs c e pes = true → SEs X pes (fun sl M => evEs G e sl M)
  | .nil, c, X, pes, ok, h => by
    unfold chkEs at h
    rw [emp h]
    exact ses_nil
  | .cons e es, c, X, pes, ok, h => by
    unfold chkEs at h
    cases pes with
    | nil => cases h
    | cons p ps =>
      obtain ⟨h1, h2, h3⟩ := and3 h
      exact ses_cons (chkE_ok e ok h1).1 (chkEs_ok es ok h2) (starEach_cons (not_eq h3))
  | .conss e es, c, X, pes, ok, h => by
    unfold chkEs at h
    split at h
    · obtain ⟨h1, h2⟩ := and2 h
      exact ses_star (chkE_ok e ok h1).1 (chkEs_ok es ok h2) starEach_star
    · cases h
  | .v _, c, X, pes, ok, h | .k _, c, X, pes, ok, h | .g _, c, X, pes, ok, h | .tup _, c, X, pes, ok, h | .lst _ _, c, X, pes, ok, h | .bin _ _ _, c, X, pes, ok, h | .binA _ _ _, c, X, pes, ok, h | .neg _, c, X, pes, ok, h | .not _, c, X, pes, ok, h | .cmp _ _ _, c, X, pes, ok, h | .chain _ _ _ _ _, c, X, pes, ok, h | .and _, c, X, pes, ok, h | .or _, c, X, pes, ok, h | .ifx _ _ _, c, X, pes, ok, h | .sub _ _, c, X, pes, ok, h | .sl _ _ _, c, X, pes, ok, h | .rev _, c, X, pes, ok, h | .call _ _, c, X, pes, ok, h | .bi _ _, c, X, pes, ok, h | .biA _ _, c, X, pes, ok, h | .mt _ _ _, c, X, pes, ok, h | .comp _ _ _ _ _ _, c, X, pes, ok, h | .comp2 _ _ _ _ _ _ _ _ _, c, X, pes, ok, h | .frz _, c, X, pes, ok, h | .told _, c, X, pes, ok, h | .fst _, c, X, pes, ok, h | .fmt _, c, X, pes, ok, h | .pop _, c, X, pes, ok, h => by
    unfold chkEs at h
    cases h
theorem chkF_ok : ∀ (e : E) {c : Cfg} {X : Cx} {pes : List Expr}, GOk c X G kk → chkEs c e pes = true → SJ X pes (fun acc sl M => evF G e acc sl M)
  | .nil, c, X, pes, ok, h => by
    unfold chkEs at h
    rw [emp h]
    exact sj_nil
  | .cons e es, c, X, pes, ok, h => by
    unfold chkEs at h
    cases pes with
    | nil => cases h
    | cons p ps =>
      obtain ⟨h1, h2, h3⟩ := and3 h
      exact sj_cons (chkE_ok e ok h1).1 (chkF_ok es ok h2)
  | .conss e es, c, X, pes, ok, h => by
    intro acc sl M r M' hf
    unfold evF at hf
    cases hf
  | .v _, c, X, pes, ok, h | .k _, c, X, pes, ok, h | .g _, c, X, pes, ok, h | .tup _, c, X, pes, ok, h | .lst _ _, c, X, pes, ok, h | .bin _ _ _, c, X, pes, ok, h | .binA _ _ _, c, X, pes, ok, h | .neg _, c, X, pes, ok, h | .not _, c, X, pes, ok, h | .cmp _ _ _, c, X, pes, ok, h | .chain _ _ _ _ _, c, X, pes, ok, h | .and _, c, X, pes, ok, h | .or _, c, X, pes, ok, h | .ifx _ _ _, c, X, pes, ok, h | .sub _ _, c, X, pes, ok, h | .sl _ _ _, c, X, pes, ok, h | .rev _, c, X, pes, ok, h | .call _ _, c, X, pes, ok, h | .bi _ _, c, X, pes, ok, h | .biA _ _, c, X, pes, ok, h | .mt _ _ _, c, X, pes, ok, h | .comp _ _ _ _ _ _, c, X, pes, ok, h | .comp2 _ _ _ _ _ _ _ _ _, c, X, pes, ok, h | .frz _, c, X, pes, ok, h | .told _, c, X, pes, ok, h | .fst _, c, X, pes, ok, h | .fmt _, c, X, pes, ok, h | .pop _, c, X, pes, ok, h => by
    unfold chkEs at h
    cases h
theorem chkB_ok : ∀ (e : E) {t : Bool} {c : Cfg} {X : Cx} {pes : List Expr}, GOk c X G kk → chkB t c e pes = true → (∀ pos, SBv X (.BoolOp .And pes pos) (fun sl M => evAnd G e sl M)) ∧ (t = true → ∀ pos, SBt X (.BoolOp .And pes pos) (fun sl M => evAnd G e sl M)) ∧ (∀ pos, SBv X (.BoolOp .Or pes pos) (fun sl M => evOr G e sl M)) ∧ (t = true → ∀ pos, SBt X (.BoolOp .Or pes pos) (fun sl M => evOr G e sl M))
  | .cons e es, t, c, X, pes, ok, h => by
    unfold chkB at h
    split at h
    · obtain ⟨h1, h2⟩ := and2 h
      have e0 := nilE h2
      subst e0
      obtain ⟨h3, h4⟩ := chkE_ok e ok h1
      exact ⟨fun _ => sv_and1 h3, fun z _ => sb_and1 (h4 z), fun _ => sv_or1 h3, fun z _ => sb_or1 (h4 z)⟩
    · obtain ⟨h1, h2⟩ := and2 h
      obtain ⟨h3, h4⟩ := chkE_ok e ok h1
      obtain ⟨h5, h6, h7, h8⟩ := chkB_ok es ok h2
      exact ⟨fun _ => sv_and h3 (h5 _), fun z _ => sb_and (h4 z) (h6 z _), fun _ => sv_or h3 (h7 _), fun z _ => sb_or (h4 z) (h8 z _)⟩
    · cases h
  | .nil, t, c, X, pes, ok, h | .conss _ _, t, c, X, pes, ok, h
  | .v _, t, c, X, pes, ok, h | .k _, t, c, X, pes, ok, h | .g _, t, c, X, pes, ok, h | .tup _, t, c, X, pes, ok, h | .lst _ _, t, c, X, pes, ok, h | .bin _ _ _, t, c, X, pes, ok, h | .binA _ _ _, t, c, X, pes, ok, h | .neg _, t, c, X, pes, ok, h | .not _, t, c, X, pes, ok, h | .cmp _ _ _, t, c, X, pes, ok, h | .chain _ _ _ _ _, t, c, X, pes, ok, h | .and _, t, c, X, pes, ok, h | .or _, t, c, X, pes, ok, h | .ifx _ _ _, t, c, X, pes, ok, h | .sub _ _, t, c, X, pes, ok, h | .sl _ _ _, t, c, X, pes, ok, h | .rev _, t, c, X, pes, ok, h | .call _ _, t, c, X, pes, ok, h | .bi _ _, t, c, X, pes, ok, h | .biA _ _, t, c, X, pes, ok, h | .mt _ _ _, t, c, X, pes, ok, h | .comp _ _ _ _ _ _, t, c, X, pes, ok, h | .comp2 _ _ _ _ _ _ _ _ _, t, c, X, pes, ok, h | .frz _, t, c, X, pes, ok, h | .told _, t, c, X, pes, ok, h | .fst _, t, c, X, pes, ok, h | .fmt _, t, c, X, pes, ok, h | .pop _, t, c, X, pes, ok, h => by
    unfold chkB at h
    cases h
theorem chkO_ok : ∀ (e : E) {c : Cfg} {X : Cx} {p : Option Expr}, GOk c X G kk → chkO c e p = true → SOw X p (fun sl M => evO G e sl M)
  | .nil, c, X, p, ok, h => by
    unfold chkO at h
    cases p with
    | none => exact so_none
    | some _ => cases h
  | .cons e es, c, X, p, ok, h => by
    unfold chkO at h
    split at h
    · obtain ⟨h1, h2⟩ := and2 h
      have e0 := nilE h2
      subst e0
      exact so_some (chkE_ok e ok h1).1
    · cases h
  | .conss _ _, c, X, pes, ok, h
  | .v _, c, X, pes, ok, h | .k _, c, X, pes, ok, h | .g _, c, X, pes, ok, h | .tup _, c, X, pes, ok, h | .lst _ _, c, X, pes, ok, h | .bin _ _ _, c, X, pes, ok, h | .binA _ _ _, c, X, pes, ok, h | .neg _, c, X, pes, ok, h | .not _, c, X, pes, ok, h | .cmp _ _ _, c, X, pes, ok, h | .chain _ _ _ _ _, c, X, pes, ok, h | .and _, c, X, pes, ok, h | .or _, c, X, pes, ok, h | .ifx _ _ _, c, X, pes, ok, h | .sub _ _, c, X, pes, ok, h | .sl _ _ _, c, X, pes, ok, h | .rev _, c, X, pes, ok, h | .call _ _, c, X, pes, ok, h | .bi _ _, c, X, pes, ok, h | .biA _ _, c, X, pes, ok, h | .mt _ _ _, c, X, pes, ok, h | .comp _ _ _ _ _ _, c, X, pes, ok, h | .comp2 _ _ _ _ _ _ _ _ _, c, X, pes, ok, h | .frz _, c, X, pes, ok, h | .told _, c, X, pes, ok, h | .fst _, c, X, pes, ok, h | .fmt _, c, X, pes, ok, h | .pop _, c, X, pes, ok, h => by
    unfold chkO at h
    cases h
theorem chkIf_ok : ∀ (e : E) {c : Cfg} {X : Cx} {pes : List Expr}, GOk c X G kk → chkIf c e pes = true → SPt X pes (fun sl M => evAnd G e sl M)
  | .nil, c, X, pes, ok, h => by
    unfold chkIf at h
    rw [emp h]
    exact spt_nil
  | .cons e es, c, X, pes, ok, h => by
    unfold chkIf at h
    split at h
    · obtain ⟨h1, h2⟩ := and2 h
      have e0 := nilE h2
      subst e0
      exact spt_one ((chkE_ok e ok h1).2 rfl)
    · cases h
  | .conss _ _, c, X, pes, ok, h
  | .v _, c, X, pes, ok, h | .k _, c, X, pes, ok, h | .g _, c, X, pes, ok, h | .tup _, c, X, pes, ok, h | .lst _ _, c, X, pes, ok, h | .bin _ _ _, c, X, pes, ok, h | .binA _ _ _, c, X, pes, ok, h | .neg _, c, X, pes, ok, h | .not _, c, X, pes, ok, h | .cmp _ _ _, c, X, pes, ok, h | .chain _ _ _ _ _, c, X, pes, ok, h | .and _, c, X, pes, ok, h | .or _, c, X, pes, ok, h | .ifx _ _ _, c, X, pes, ok, h | .sub _ _, c, X, pes, ok, h | .sl _ _ _, c, X, pes, ok, h | .rev _, c, X, pes, ok, h | .call _ _, c, X, pes, ok, h | .bi _ _, c, X, pes, ok, h | .biA _ _, c, X, pes, ok, h | .mt _ _ _, c, X, pes, ok, h | .comp _ _ _ _ _ _, c, X, pes, ok, h | .comp2 _ _ _ _ _ _ _ _ _, c, X, pes, ok, h | .frz _, c, X, pes, ok, h | .told _, c, X, pes, ok, h | .fst _, c, X, pes, ok, h | .fmt _, c, X, pes, ok, h | .pop _, c, X, pes, ok, h => by
    unfold chkIf at h
    cases h
theorem chkI_ok : ∀ (e : E) {k : ItK} {c : Cfg} {X : Cx} {ptg piter : Expr}, GOk c X G kk → chkI c k e ptg piter = true → SI X ptg piter (evI G k e)
  | .cons e es, k, c, X, ptg, piter, ok, h => by
    unfold chkI at h
    split at h
    · obtain ⟨h1, h2⟩ := and2 h
      have e0 := nilE h2
      subst e0
      exact si_plain (chkE_ok e ok h1).1
    · split at h
      · obtain ⟨h1, h2, h3, h4, h5⟩ := and5 h
        have e0 := nilE h4
        have e1 := dec h1
        subst e0 e1
        exact si_range1 (ok.gl h2) ok.rng (ses_cons (chkE_ok e ok h3).1 ses_nil (starEach_cons (not_eq h5))) (not_eq h5)
      · cases h
    · split at h
      · obtain ⟨h1, h2, h3, h4, h5, h6⟩ := and6 h
        have e1 := dec h1
        subst e1
        exact si_range2 (ok.gl h2) ok.rng (ses_cons (chkE_ok e ok h3).1 (chkEs_ok es ok h4) (starEach_cons (not_eq h5))) (not_eq h5) (not_eq h6)
      · cases h
    · split at h
      · obtain ⟨h1, h2, h3, h4, h5⟩ := and5 h
        have e0 := nilE h4
        have e1 := dec h1
        subst e0 e1
        exact si_enum (ok.gl h2) ok.enu (ses_cons (chkE_ok e ok h3).1 ses_nil (starEach_cons (not_eq h5))) (not_eq h5)
      · cases h
    · split at h
      · obtain ⟨h1, h2, h3, h4, h5, h6⟩ := and6 h
        have e1 := dec h1
        subst e1
        exact si_zip (ok.gl h2) ok.zip (ses_cons (chkE_ok e ok h3).1 (chkEs_ok es ok h4) (starEach_cons (not_eq h5))) (not_eq h5) (not_eq h6)
      · cases h
    · cases h
  | .nil, k, c, X, ptg, pes, ok, h | .conss _ _, k, c, X, ptg, pes, ok, h
  | .v _, k, c, X, ptg, pes, ok, h | .k _, k, c, X, ptg, pes, ok, h | .g _, k, c, X, ptg, pes, ok, h | .tup _, k, c, X, ptg, pes, ok, h | .lst _ _, k, c, X, ptg, pes, ok, h | .bin _ _ _, k, c, X, ptg, pes, ok, h | .binA _ _ _, k, c, X, ptg, pes, ok, h | .neg _, k, c, X, ptg, pes, ok, h | .not _, k, c, X, ptg, pes, ok, h | .cmp _ _ _, k, c, X, ptg, pes, ok, h | .chain _ _ _ _ _, k, c, X, ptg, pes, ok, h | .and _, k, c, X, ptg, pes, ok, h | .or _, k, c, X, ptg, pes, ok, h | .ifx _ _ _, k, c, X, ptg, pes, ok, h | .sub _ _, k, c, X, ptg, pes, ok, h | .sl _ _ _, k, c, X, ptg, pes, ok, h | .rev _, k, c, X, ptg, pes, ok, h | .call _ _, k, c, X, ptg, pes, ok, h | .bi _ _, k, c, X, ptg, pes, ok, h | .biA _ _, k, c, X, ptg, pes, ok, h | .mt _ _ _, k, c, X, ptg, pes, ok, h | .comp _ _ _ _ _ _, k, c, X, ptg, pes, ok, h | .comp2 _ _ _ _ _ _ _ _ _, k, c, X, ptg, pes, ok, h | .frz _, k, c, X, ptg, pes, ok, h | .told _, k, c, X, ptg, pes, ok, h | .fst _, k, c, X, ptg, pes, ok, h | .fmt _, k, c, X, ptg, pes, ok, h | .pop _, k, c, X, ptg, pes, ok, h => by
    unfold chkI at h
    cases h
end
end
end Ev

set_option maxRecDepth 100000
set_option maxHeartbeats 2000000
namespace Ev
open PySem PySem.Spec PyProof.Rows L2

def isCall : Expr → Bool
  | .Call .. => true
  | _ => false
def locIs (c : Cfg) (x : Str) : Bool := match c.sc.names.lookup x with
  | some .local => true
  | _ => false
def cellIs (c : Cfg) (x : Str) : Bool := match c.sc.names.lookup x with
  | some .cell => true
  | _ => false
def ownsName (scope : Scope) (y : Str) : Bool := scope.names.any fun (n, k) => n == y && (k == .local || k == .cell)
mutual
def chkS (c : Cfg) : S → Stmt → Bool
  | .skip, st => match st with
    | .Pass _ => true
    | .Expr (.Constant (.str _) _ _) _ => true
    | _ => false
  | .seq _ _, _ => false
  | .expr e, st => match st with
    | .Expr pe _ => chkE false c e pe && !isComp pe
    | _ => false
  | .asg i e, st => match st with
    | .Assign [.Name y p] pe _ => slotIs c i y && isLoc c y && chkE false c e pe && (match e, pe with
      | .comp _ _ _ _ _ _, .ListComp _ _ scope cpos => if locIs c y then (p.line == cpos.line) && !ownsName scope y else cellIs c y
      | _, _ => !isComp pe)
    | _ => false
  | .asgT g e, st => match st with
    | .Assign [.Tuple ts j p] pe _ => chkTg c (.tup g) (.Tuple ts j p) && chkE false c e pe && !isTup pe
    | _ => false
  | .par g es, st => match g with
    | .cons (.s i) (.cons (.s j) .nil) => match st with
      | .Assign [.Tuple [.Name y py, .Name z pz] _ _] (.Tuple [a, b] _ _) _ => slotIs c i y && slotIs c j z && locIs c y && locIs c z && !decide (i = j) && !(y == z) && chkEs c es [a, b] &&
          (!starred a && !starred b && (pz.line == py.line) && !(foldedForSure 8 a && foldedForSure 8 b) && !(constantsAlone 8 a && constantsAlone 8 b))
      | _ => false
    | _ => false
  | .store a i e, st => match st with
    | .Assign [.Subscript po pi _] pe _ => chkE false c e pe && chkE false c a po && chkE false c i pi && !isSlice pi
    | _ => false
  | .app x e, st => match st with
    | .Expr (.Call (.Attribute po m apos) [pe] [] cpos) _ => decide (m = ("append" : Str)) && chkE false c x po && chkE false c e pe && !isCall po && !starred pe && (apos.endLine == cpos.line)
    | _ => false
  | .ext x e, st => match st with
    | .Expr (.Call (.Attribute po m apos) [pe] [] cpos) _ => decide (m = ("extend" : Str)) && chkE false c x po && chkE false c e pe && !isCall po && !starred pe && (apos.endLine == cpos.line)
    | _ => false
  | .ret e, st => match st with
    | .Return (some pe) _ => chkE false c e pe
    | _ => false
  | .retN, st => match st with
    | .Return none _ => true
    | _ => false
  | .raise x m, st => match m, st with
    | .k (.str z), .Raise (some (.Call (.Name x' _) [.Constant (.str z') _ _] [] _)) none _ => decide (x = x') && decide (z = z') && isGl c x && noDb x && decide (x ∈ c.exs)
    | _, _ => false
  | .ite d a b, st => match st with
    | .If pd pa pb _ => chkE true c d pd && chkSs c a pa && chkSs c b pb
    | _ => false
  | .for_ _ tg k it b, st => match st with
    | .For ptg piter pb [] _ => chkTg c tg ptg && chkI c k it ptg piter && notSet piter && chkSs c b pb
    | _ => false
  | .while_ _ d b, st => match st with
    | .While pd pb [] _ => chkE true c d pd && chkSs c b pb
    | _ => false
  | .brk, st => match st with
    | .Break _ => true
    | _ => false
  | .cont, st => match st with
    | .Continue _ => true
    | _ => false
def chkSs (c : Cfg) : S → List Stmt → Bool
  | .skip, sts => sts.isEmpty
  | .seq a b, sts => match sts with
    | st :: r => chkS c a st && chkSs c b r
    | [] => false
  | _, _ => false
end
section
variable {c : Cfg} {X : Cx} {G : Sig} {kk : Nat} {pos : Pos}
theorem swapped_two {y z : Str} {py pz pt : Pos} {kt k2 : Nat} {pt2 : Pos} {a b : Expr} {env : Env} (hk : env.scope.kind = .function) (hy : env.scope.names.lookup y = some .local) (hz : env.scope.names.lookup z = some .local) (hne : (y == z) = false) (hl : (pz.line == py.line) = true)
    (ha : starred a = false) (hb : starred b = false) (hf : (foldedForSure 8 a && foldedForSure 8 b) = false) (hc : (constantsAlone 8 a && constantsAlone 8 b) = false) :
    swappedStores [.Tuple [.Name y py, .Name z pz] kt pt] (.Tuple [a, b] k2 pt2) env = pure (some [y, z]) := by
  have ky : env.kindOf y = some .local := hy
  have kz : env.kindOf z = some .local := hz
  have bk : env.blockKind = .function := by
    unfold Env.blockKind
    rw [hk]
    rfl
  have hl2 : pz.line = py.line := by simpa using hl
  have hne2 : ¬ (z = y) := fun e => by
    rw [e] at hne
    simp at hne
  have hne3 : ¬ (y = z) := fun e => hne2 e.symm
  have hne4 : (z == y) = false := by simpa using hne2
  unfold swappedStores
  simp only [bk, ky, kz, hf, hc, List.any_cons, List.any_nil, List.all_cons, List.all_nil, Bool.or_false, Bool.and_true]
  simp [hl2, List.eraseDups_cons, hne3, hne4, Expr.pos, hf, hc, ky, kz]
  rintro (h | h)
  · split at h
    · cases ha
    · cases h
  · split at h
    · cases hb
    · cases h
theorem attrBase_no {o : Expr} {m : Str} {env : Env} {w : Sem Value} (h : isCall o = false) : attributeBase o m env w = w := by
  cases o <;> first | rfl | cases h
theorem few_one {e1 : Expr} {cpos : Pos} {env : Env} (h : starred e1 = false) : ((backTo cpos (starEach [e1] env)).all (fun x => !x.1) && (backToKw cpos (keywordEach [] env)).all (fun x => x.1.isSome) && decide (([e1] : List Expr).length + ([] : List Keyword).length + (if ([] : List Keyword).isEmpty then 0 else 1) < 30)) = true := by
  rw [starEach_cons h]
  rfl
theorem sw_cell {elt : Expr} {gs : List Comprehension} {scope : Scope} {cpos py : Pos} {y : Str} {l : Nat} {env : Env} (hy : env.scope.names.lookup y = some .cell) : swapsWith (.ListComp elt gs scope cpos) (some (.Name y py)) l env = pure false := by
  have ky : env.kindOf y = some .cell := hy
  unfold swapsWith
  simp only [ky]
  show (pure (_ && false && _ && _) : Sem Bool) = _
  simp
theorem GOk.locl (ok : GOk c X G kk) {x : Str} (h : locIs c x = true) : X.env.scope.names.lookup x = some .local := by
  unfold locIs at h
  rw [ok.sc]
  split at h
  · rename_i e
    exact e
  · cases h
theorem GOk.celll (ok : GOk c X G kk) {x : Str} (h : cellIs c x = true) : X.env.scope.names.lookup x = some .cell := by
  unfold cellIs at h
  rw [ok.sc]
  split at h
  · rename_i e
    exact e
  · cases h
/-- a body's context: the loops' reading too -/
structure BOk (c : Cfg) (X : Cx) (G : Sig) (kk : Nat) : Prop where
  g : GOk c X G kk
  c1 : Ctx1 X kk
  kind : X.env.scope.kind = .function
  loop : LoopOk G.loop
set_option maxHeartbeats 4000000 in
mutual
theorem chkS_ok (ok : BOk c X G kk) : ∀ (s : S) {st : Stmt}, chkS c s st = true → SS X st (fun sl M => evS G s sl M)
  | .skip, st, h => by
    unfold chkS at h
    split at h
    · exact ss_pass
    · exact ss_doc
    · cases h
  | .seq _ _, st, h => by
    unfold chkS at h
    cases h
  | .expr e, st, h => by
    unfold chkS at h
    split at h
    · obtain ⟨h1, h2⟩ := and2 h
      exact ss_expr (chkE_ok e ok.g h1).1 (not_eq h2)
    · cases h
  | .asg i e, st, h => by
    unfold chkS at h
    split at h
    · obtain ⟨h1, h2, h3, h4⟩ := and4 h
      obtain ⟨h5, h6⟩ := ok.g.loc h2
      split at h4
      · rename_i al elt tg kd it ifs pelt gens scope cpos
        split at h4
        · rename_i hl
          obtain ⟨h7, h8⟩ := and2 h4
          have hl2 := ok.g.locl hl
          have hsw : ∀ l, swapsWith (.ListComp pelt gens scope cpos) (some (.Name _ _)) l X.env = pure true := fun l => sw_true ok.kind hl2 h7 (not_eq h8)
          unfold chkE at h3
          split at h3
          · rename_i pelt2 ptg piter pifs scope2 cpos2 heq
            cases heq
            obtain ⟨g1, g2, g3, g4, g5, g6, g7⟩ := and7 h3
            exact ss_setLc ok.g.c0 (ok.g.slot h1) hl2 (hsw _) (blkOk_by (by rw [ok.g.n, ok.g.sc]; exact g1)) (chkI_ok it ok.g g3) (fun j => by rw [ownOf_ix]) (fun s H C cl fp => chkTg_ok (ok.g.blk _ s H C cl fp) g2) (fun s H C cl fp => chkIf_ok ifs (ok.g.blk _ s H C cl fp) g4)
              (fun s H C cl fp => (chkE_ok elt (ok.g.blk _ s H C cl fp) g5).1) (folded g6)
          · cases h3
        · exact ss_asg ok.g.c0.nd (ok.g.slot h1) h5 h6 (chkE_ok _ ok.g h3).1 (sw_cell (ok.g.celll h4))
      · exact ss_asg ok.g.c0.nd (ok.g.slot h1) h5 h6 (chkE_ok e ok.g h3).1 (swaps_no (not_eq h4))
    · cases h
  | .asgT g e, st, h => by
    unfold chkS at h
    split at h
    · obtain ⟨h1, h2, h3⟩ := and3 h
      exact ss_asgT (chkTg_ok ok.g h1) (chkE_ok e ok.g h2).1 (swapped_no (not_eq h3))
    · cases h
  | .par g es, st, h => by
    unfold chkS at h
    split at h
    · split at h
      · rename_i i j y py z pz j1 p1 a b j2 p2 pos
        obtain ⟨h1, h2⟩ := and2 h
        obtain ⟨g1, g2, g3, g4, g5⟩ := and5 h2
        obtain ⟨h3, h4, h5, h6, h7, h8, h9⟩ := and7 h1
        have l1 := ok.g.locl h5
        have l2 := ok.g.locl h6
        exact ss_par ok.g.c0.calm ok.g.c0.nd (ok.g.slot h3) (ok.g.slot h4) (of_decide_eq_false (not_eq h7)) l1 l2 (chkEs_ok es ok.g h9) (swapped_two ok.kind l1 l2 (not_eq h8) g3 (not_eq g1) (not_eq g2) (not_eq g4) (not_eq g5))
      · cases h
    · cases h
  | .store a i e, st, h => by
    unfold chkS at h
    split at h
    · obtain ⟨h1, h2, h3, h4⟩ := and4 h
      exact ss_store (chkE_ok e ok.g h1).1 (chkE_ok a ok.g h2).1 (chkE_ok i ok.g h3).1 (not_eq h4)
    · cases h
  | .app x e, st, h => by
    unfold chkS at h
    split at h
    · obtain ⟨h1, h2, h3, h4, h5, h6⟩ := and6 h
      have e0 := dec h1
      subst e0
      exact ss_app (chkE_ok x ok.g h2).1 (chkE_ok e ok.g h3).1 (not_eq h5) (attrBase_no (not_eq h4)) (few_one (not_eq h5)) h6
    · cases h
  | .ext x e, st, h => by
    unfold chkS at h
    split at h
    · obtain ⟨h1, h2, h3, h4, h5, h6⟩ := and6 h
      have e0 := dec h1
      subst e0
      exact ss_ext (chkE_ok x ok.g h2).1 (chkE_ok e ok.g h3).1 (not_eq h5) (attrBase_no (not_eq h4)) (few_one (not_eq h5)) h6
    · cases h
  | .ret e, st, h => by
    unfold chkS at h
    split at h
    · exact ss_ret (chkE_ok e ok.g h).1
    · cases h
  | .retN, st, h => by
    unfold chkS at h
    split at h
    · exact ss_retN
    · cases h
  | .raise x m, st, h => by
    unfold chkS at h
    split at h
    · obtain ⟨h1, h2, h3, h4, h5⟩ := and5 h
      have e1 := dec h1
      have e2 := dec h2
      subst e1 e2
      exact ss_raise ok.g.c0 (ok.g.exs _ (dec h5)) (ok.g.gl h3) (noDb_eq h4).1
    · cases h
  | .ite d a b, st, h => by
    unfold chkS at h
    split at h
    · obtain ⟨h1, h2, h3⟩ := and3 h
      exact ss_ite ((chkE_ok d ok.g h1).2 rfl) (chkSs_ok ok a h2) (chkSs_ok ok b h3)
    · cases h
  | .for_ live tg k it b, st, h => by
    unfold chkS at h
    split at h
    · obtain ⟨h1, h2, h3, h4⟩ := and4 h
      exact ss_for ok.c1 (chkI_ok it ok.g h2) (chkTg_ok ok.g h1) (chkSs_ok ok b h4) (folded h3)
    · cases h
  | .while_ live d b, st, h => by
    unfold chkS at h
    split at h
    · obtain ⟨h1, h2⟩ := and2 h
      exact ok.loop X kk ok.c1 live _ _ _ _ _ ((chkE_ok d ok.g h1).2 rfl) (chkSs_ok ok b h2)
    · cases h
  | .brk, st, h => by
    unfold chkS at h
    split at h
    · exact ss_break
    · cases h
  | .cont, st, h => by
    unfold chkS at h
    split at h
    · exact ss_cont
    · cases h
theorem chkSs_ok (ok : BOk c X G kk) : ∀ (s : S) {sts : List Stmt}, chkSs c s sts = true → SSs X sts (fun sl M => evS G s sl M)
  | .skip, sts, h => by
    unfold chkSs at h
    rw [emp h]
    exact sss_nil
  | .seq a b, sts, h => by
    unfold chkSs at h
    split at h
    · obtain ⟨h1, h2⟩ := and2 h
      exact sss_cons (chkS_ok ok a h1) (chkSs_ok ok b h2)
    · cases h
  | .expr _, sts, h | .asg _ _, sts, h | .asgT _ _, sts, h | .par _ _, sts, h | .store _ _ _, sts, h | .app _ _, sts, h | .ext _ _, sts, h | .ret _, sts, h | .retN, sts, h | .raise _ _, sts, h | .ite _ _ _, sts, h | .for_ _ _ _ _ _, sts, h | .while_ _ _ _, sts, h | .brk, sts, h | .cont, sts, h => by
    unfold chkSs at h
    cases h
end
end
end Ev

set_option maxRecDepth 100000
set_option maxHeartbeats 2000000
namespace Ev
open PySem PySem.Spec PyProof.Rows L2

/-! ### binding of plain parameters -/
theorem look_zip {x : Str} : ∀ {ps : List Str} {us : List Value}, us.length = ps.length → x ∈ ps → ∃ v, (ps.zip us).lookup x = some v
  | [], _, _, h => nomatch h
  | p :: ps, [], hl, _ => by simp at hl
  | p :: ps, u :: us, hl, h => by
    rw [List.zip_cons_cons, List.lookup_cons]
    cases e : x == p with
    | true => exact ⟨u, rfl⟩
    | false =>
      refine look_zip (by simpa using hl) ?_
      rcases List.mem_cons.mp h with h | h
      · rw [h] at e
        simp at e
      · exact h
theorem fm_congr {α β : Type} {f g : α → Option β} : ∀ {l : List α}, (∀ a ∈ l, f a = g a) → l.filterMap f = l.filterMap g
  | [], _ => rfl
  | a :: l, h => by
    rw [List.filterMap_cons, List.filterMap_cons, h a List.mem_cons_self, fm_congr fun b hb => h b (List.mem_cons_of_mem _ hb)]
theorem fm_zip : ∀ {ps : List Str} {us : List Value}, ps.Nodup → us.length = ps.length → ps.filterMap (fun n => ((ps.zip us).lookup n).map fun v => (n, v)) = ps.zip us
  | [], _, _, _ => rfl
  | p :: ps, [], _, hl => by simp at hl
  | p :: ps, u :: us, nd, hl => by
    have nd2 := List.nodup_cons.mp nd
    rw [List.zip_cons_cons, List.filterMap_cons]
    have e : ((p, u) :: ps.zip us).lookup p = some u := by
      rw [List.lookup_cons]
      simp
    rw [e]
    show (p, u) :: _ = _
    congr 1
    refine Eq.trans (fm_congr fun n hn => ?_) (fm_zip nd2.2 (by simpa using hl))
    have : (n == p) = false := by
      cases z : n == p with
      | false => rfl
      | true =>
        have : n = p := by simpa using z
        exact absurd (by rw [← this]; exact hn) nd2.1
    rw [List.lookup_cons, this]
theorem fl_zip {ps : List Str} {us : List Value} (hl : us.length = ps.length) : (ps.filter fun n => ((ps.zip us).lookup n).isNone) = [] := by
  rw [List.filter_eq_nil_iff]
  intro n hn
  obtain ⟨v, e⟩ := look_zip hl hn
  rw [e]
  simp
theorem bind_plain {x qual : Str} {as : List Arg} {body : List Stmt} {scope : Scope} {kV doc pm cdv ct : Value} {an : Option Addr} {us : List Value} (nd : (as.map (·.arg)).Nodup) (hl : us.length = (as.map (·.arg)).length) :
    bindArgs (PySem.W.fnOf x qual ⟨[], as, none, [], [], none, []⟩ body scope .none kV doc pm an cdv ct) ⟨us, []⟩ = pure ((as.map (·.arg)).zip us) := by
  unfold bindArgs PySem.W.fnOf
  simp only [List.map_nil, List.nil_append, List.append_nil]
  generalize as.map (·.arg) = ps at nd hl ⊢
  have h1 := fl_zip hl
  have h2 := fm_zip nd hl
  have h3 : ps.take ps.length = ps := List.take_length
  have h4 : notAStandIn Value.none = pure () := rfl
  simp [seqItems?, hl, h1, h2, h3, h4]

/-! ### a def by its body, the guards told -/
section
variable {P : Program} {w : World} {K : PySem.W.Frag} {mg : Str → Option Value} {base : Heap} {k : Nat} {f : Addr} {fd : FuncData} {x qual : Str} {params : Arguments} {body : List Stmt} {scope : Scope} {dvs : List V} {kws : List (Str × V)}
theorem fn_ofG {N ps : List Str} {sp : Sp} (F : FunD K x qual params body scope dvs kws f fd) (S : FnScope N ps scope) (len : ∀ vs H Q E, sp vs H Q E → vs.length = ps.length)
    (hbody : ∀ (cdv : Value) (A : Around) (outer : List Env) (s : Shared) (H : Hp) (vs : List V) (Q : VK) (E : XK), Room k (A.deeper (envOfC qual scope s.heap.objs.size f cdv)) → A.guards = some [] → sp vs H Q E →
      ∃ t, PSs (cxOf (L2.CX P w) P w K mg base N qual scope f cdv A outer s H E) body t ∧ t { nx := fun _ H' => Q .non H', rt := Q } (start N vs) H) : FnG P w K mg base (k + 1) f fd ps sp := by
  obtain ⟨oc, od, dV, kV, doc, pm, an, cdv, ct, osl, rfl, lk, hcd, _, _⟩ := F.ex
  refine ⟨len, fun A outer s H args us vs Q E hr hg e0 hb r hsp => ?_⟩
  have KX : K.In s.heap := e0.mod.kin.keeps fun b o e => (e0.bs b o e).1
  have lim : s.heap.NoLimit := e0.mod.nolimit.keeps fun b o e => (e0.bs b o e).1
  refine codeAny_call_function hr.depth (KX _ _ lk) rfl S.co S.gen rfl (PySem.W.codeRec_of KX hcd) (hb _ _ _ _ ?_)
  refine wpAny_newFunctionEnv_cells S.kind (fun ⟨n, v⟩ hy => (S.par n (List.of_mem_zip hy).1).imp id fun q => ⟨q, PySem.W.cellsFrom_some _ _ _ (.inl q)⟩) fun env he s1 x => ?_
  subst he
  refine ⟨lim.keeps x.toInCall.keep, codeAny_func ?_⟩
  obtain ⟨t, ht, hq⟩ := hbody cdv A outer s H vs Q E (hr.deeper _) hg hsp
  have I := inv_start (CX := L2.CX P w) (E := E) S hr.hd e0 (len _ _ _ _ hsp) r x
  refine wpAny_mono (ht.run [] s1 (start N vs) H _ I hq) (fun fl s' hs => ?_) fun e s' hs => hs
  cases fl with
  | ret u =>
    obtain ⟨v, σ', H', J, rv, q⟩ := hs
    exact ⟨v, H', J.os, J.bare, J.base, J.hok, rv, q⟩
  | next =>
    obtain ⟨σ', H', J, q⟩ := hs
    exact ⟨.non, H', J.os, J.bare, J.base, J.hok, rfl, q⟩
  | brk =>
    obtain ⟨_, _, _, q⟩ := hs
    exact False.elim q
  | cont =>
    obtain ⟨_, _, _, q⟩ := hs
    exact False.elim q
end

/-! ### the facts of the program's object -/
def allBi : List Bi := [.len, .int, .abs, .max, .min, .sum, .all, .any, .tuple, .list, .sorted, .str, .repr, .lset, .dict]
theorem allBi_mem (b : Bi) : b ∈ allBi := by cases b <;> simp [allBi]
def gNames (c : List (Str × PyData)) : List Str := c.map (·.1)
def glFa (q : Str × PyData) : He.Fa := match q.2 with
  | .int i => .int q.1 i
  | .str z => .str q.1 z
  | _ => .free q.1
def glGood (q : Str × PyData) : Bool := match q.2 with
  | .int _ => true
  | .str _ => true
  | _ => false
abbrev Prog := List (He.DefD × List Str × Def)
def fnsOf (p : Prog) : List Str := p.map fun q => q.1.name
def faOf (p : Prog) (gls : List (Str × PyData)) (exs : List Str) : List He.Fa :=
  (fnsOf p).map .glo ++ (allBi.map fun b => .free (biName b)) ++ [.free "range", .free "enumerate", .free "zip"] ++ gls.map glFa ++ exs.map .glo ++ exs.map .exc
def prOf (p : Prog) (gls : List (Str × PyData)) : Pr := ⟨fun f => List.lookup f (p.map fun q => (q.1.name, q.2.2)), fun x => List.lookup x gls⟩
structure KOk (K : PySem.W.Frag) (mg : Str → Option Value) (gls : List (Str × PyData)) (exs : List Str) : Prop where
  bis : ∀ b, mg (biName b) = none
  rng : mg "range" = none
  enu : mg "enumerate" = none
  zip : mg "zip" = none
  gls : ∀ q ∈ gls, ∃ u v, mg q.1 = some u ∧ RelV v u ∧ ∀ Z H, Rp K Z H v q.2
  exs : ∀ x ∈ exs, ClsOk K mg x
theorem str_ok {K : PySem.W.Frag} {h : Heap} {mg : Str → Option Value} (X : K.In h) (G : h.Ns mainGlobals mg) {x z : Str} (c : (He.Fa.str x z).ok K = true) : ∃ t, mg x = some (.str z t) := by
  have c2 : (match PySem.W.nsIn K mainGlobals x with
    | some (some (.str y _)) => decide (y = z)
    | _ => false) = true := c
  cases e : PySem.W.nsIn K mainGlobals x with
  | none =>
    rw [e] at c2
    cases c2
  | some o =>
    rw [e] at c2
    cases o with
    | none => cases c2
    | some v =>
      cases v with
      | str j t =>
        have ej : j = z := of_decide_eq_true c2
        subst ej
        exact ⟨t, PySem.W.mg_of X G e⟩
      | _ => cases c2
theorem kOk_of {K : PySem.W.Frag} {h : Heap} {mg : Str → Option Value} {p : Prog} {gls : List (Str × PyData)} {exs : List Str} {fn : List He.DefD} (X : K.In h) (G : h.Ns mainGlobals mg) (c : He.SaysD (faOf p gls exs) fn K) (hg : gls.all glGood = true) : KOk K mg gls exs where
  bis := fun b => He.free_ok X G (c.facts (by unfold faOf; simp only [List.mem_append, List.mem_map]; exact .inl (.inl (.inl (.inl (.inr ⟨b, allBi_mem b, rfl⟩))))))
  rng := He.free_ok X G (c.facts (by unfold faOf; simp))
  enu := He.free_ok X G (c.facts (by unfold faOf; simp))
  zip := He.free_ok X G (c.facts (by unfold faOf; simp))
  gls := fun q hq => by
    have h1 := List.all_eq_true.mp hg q hq
    have h2 := c.facts (f := glFa q) (by unfold faOf; simp only [List.mem_append, List.mem_map]; exact .inl (.inl (.inr ⟨q, hq, rfl⟩)))
    obtain ⟨x, d⟩ := q
    cases d with
    | int i =>
      obtain ⟨t, e⟩ := He.int_ok X G (x := x) (i := i) h2
      exact ⟨_, .int i, e, ⟨t, rfl⟩, fun _ _ => .int i⟩
    | str z =>
      obtain ⟨t, e⟩ := str_ok X G (x := x) (z := z) h2
      exact ⟨_, .str z, e, ⟨t, rfl⟩, fun _ _ => .str z⟩
    | _ => cases h1
  exs := fun x hx => by
    have h1 := He.glo_ok X G (c.facts (f := .glo x) (by unfold faOf; simp [hx]))
    obtain ⟨h2, h3, h4, h5⟩ := He.exc_ok (c.facts (f := .exc x) (by unfold faOf; simp [hx]))
    exact ⟨_, _, _, _, _, PySem.F.excBase_ValueError, h2, h1, h3, h4, h5⟩

/-! ### the check of a def -/
def plainArgs : Arguments → Option (List Arg)
  | ⟨[], as, none, [], [], none, []⟩ => some as
  | _ => none
def scopeOk (N ps : List Str) (sc : Scope) : Bool :=
  (match sc.kind with | .function => true | _ => false) && !sc.isCoroutine && !sc.isGenerator && decide (N.Nodup) && decide (N.take ps.length = ps) &&
    (ps.all fun x => match sc.names.lookup x with | some .local => true | some .cell => true | _ => false) && (sc.names.all fun y => match y.2 with | .free => false | _ => true)
theorem scopeOk_ok {N ps : List Str} {sc : Scope} (h : scopeOk N ps sc = true) : FnScope N ps sc := by
  unfold scopeOk at h
  obtain ⟨h1, h2, h3, h4, h5, h6, h7⟩ := and7 h
  refine ⟨?_, not_eq h2, not_eq h3, dec h4, dec h5, fun x hx => ?_, fun y hy e => ?_⟩
  · split at h1
    · assumption
    · cases h1
  · have := List.all_eq_true.mp h6 x hx
    split at this
    · exact .inl (by assumption)
    · exact .inr (by assumption)
    · cases this
  · have := List.all_eq_true.mp h7 y hy
    rw [e] at this
    cases this
def chkDef (fns gls exs : List Str) (q : He.DefD × List Str × Def) : Bool :=
  (match plainArgs q.1.params with
    | some as => scopeOk q.2.1 (as.map (·.arg)) q.1.scope && decide (q.2.2.ps = as.length)
    | none => false) && decide (q.2.2.n = q.2.1.length) && chkSs ⟨q.2.1, q.1.scope, fns, gls, exs, true⟩ q.2.2.body q.1.body && decide (q.1.at_ = (q.1.name, none)) && q.1.dfl.isEmpty && q.1.kwd.isEmpty

/-! ### a def's end -/
section
variable {K : PySem.W.Frag} {Z : Addr → Prop} {mu : List Addr} {M : Store} {H : Hp} {mg : Str → Option Value}
theorem leave_ok {n : Nat} {o : Out Ev.D} {M1 M' : Store} {r : Out Ev.D} (h : leave n o M1 = some (r, M')) {Z1 Z' : Addr → Prop} {mu1 mu' : List Addr} {M0 : Store} {H1 H' : Hp} (hn : mu1.length = n) (S : StOk K Z' mu' H' M1) (T : Stp Z1 mu1 M0 H1 Z' mu' M1 H') :
    r = o ∧ ∃ mu2, StOk K Z' mu2 H' M' ∧ Stp Z1 mu1 M0 H1 Z' mu2 M' H' ∧ ∀ d v, o = .ok d → RD K Z' mu' H' v d → RD K Z' mu2 H' v d := by
  unfold leave at h
  split at h
  · rename_i hc
    obtain ⟨h1, h2⟩ := and2 hc
    cases h
    refine ⟨rfl, mu'.take n, S.cut h2, T.cut (Nat.le_of_eq hn), fun d v e R => R.cut fun q hq => ?_⟩
    rw [e] at h1
    have := List.all_eq_true.mp (show (refsD d).all (· < n) = true from h1) q hq
    simpa using this
  · cases h
    exact ⟨rfl, mu', S, T, fun d v e R => R⟩
theorem start_ok {N : List Str} {vs : List V} {ds : List Ev.D} {n ps : Nat} (R : RDs K Z mu H vs ds) (hl : ds.length = ps) (hN : n = N.length) (hps : ps ≤ N.length) : SlOk K Z mu H (start N vs) (ds.map some ++ List.replicate (n - ps) none) := by
  have lv := R.length
  refine ⟨?_, fun i d e => ?_⟩
  · unfold L2.start
    simp only [List.length_append, List.length_map, List.length_replicate]
    omega
  · by_cases hi : i < ds.length
    · rw [List.getElem?_append_left (by rw [List.length_map]; exact hi), List.getElem?_map] at e
      obtain ⟨d', e1, e2⟩ := Option.map_eq_some_iff.mp e
      cases e2
      obtain ⟨v, e3, q⟩ := R.get e1
      refine ⟨v, ?_, q⟩
      unfold L2.start
      rw [List.getElem?_append_left (by rw [List.length_map, lv]; exact hi), List.getElem?_map, e3]
      rfl
    · rw [List.getElem?_append_right (by rw [List.length_map]; omega), List.getElem?_replicate] at e
      split at e <;> cases e
end
theorem def_ok {P : Program} {w : World} {K : PySem.W.Frag} {mg : Str → Option Value} {base : Heap} {k : Nat} {f : Addr} {fd : FuncData} {d : He.DefD} {N fns : List Str} {e : Def} {gls : List (Str × PyData)} {exs : List Str} {as : List Arg} {G : Sig}
    (F : FunD K d.name d.qual d.params d.body d.scope [] [] f fd) (h1 : scopeOk N (as.map (·.arg)) d.scope = true) (h2 : e.ps = as.length) (h3 : e.n = N.length) (h4 : chkSs ⟨N, d.scope, fns, gNames gls, exs, true⟩ e.body d.body = true) (ko : KOk K mg gls exs)
    (hc : Calls P w K mg base k (fun f => decide (f ∈ fns)) G.call) (hg : ∀ x p, G.glob x = some p → (x, p) ∈ gls) (hl : LoopOk G.loop) : FnG P w K mg base (k + 1) f fd (as.map (·.arg)) (spC K mg (fun ds M => runDef G e ds M)) := by
  have S := scopeOk_ok h1
  have hlen : ∀ vs H Q E, spC K mg (fun ds M => runDef G e ds M) vs H Q E → vs.length = (as.map (·.arg)).length := by
    rintro vs H Q E ⟨ds, M, r, M', Z, mu, hr, _, R, _⟩
    unfold runDef at hr
    dsimp only at hr
    split at hr
    · rename_i hd
      rw [R.length, hd, h2, List.length_map]
    · cases hr
  refine fn_ofG F S hlen fun cdv A outer s H vs Q E hr hgd hsp => ?_
  obtain ⟨ds, M, r, M', Z, mu, hrun, SO, R, kok, kex⟩ := hsp
  generalize hX : cxOf (L2.CX P w) P w K mg base N d.qual d.scope f cdv A outer s H E = X
  have tk : Takes X (fun cls d _ H => E cls d H) := by
    subst hX
    exact takes_of rfl rfl rfl rfl
  have own : PassesOwn (model X.prog X.w) X.A X.env X.xe := by
    subst hX
    exact passes_of rfl
  have c0 : Ctx0 X k := by
    subst hX
    exact ⟨rfl, hr, hgd, S.nd⟩
  have ok : BOk ⟨N, d.scope, fns, gNames gls, exs, true⟩ X G k := by
    refine ⟨⟨c0, by subst hX; rfl, by subst hX; rfl, by subst hX; exact hc, by subst hX; exact ko.bis, by subst hX; exact ko.rng, by subst hX; exact ko.enu, by subst hX; exact ko.zip, fun x _ p hp => ?_, by subst hX; exact ko.exs, fun _ x => by subst hX; rfl⟩, ⟨c0, own⟩, by subst hX; exact S.kind, hl⟩
    obtain ⟨u, v, g1, g2, g3⟩ := ko.gls _ (hg x p hp)
    subst hX
    exact ⟨u, v, g1, g2, g3⟩
  have body := chkSs_ok ok e.body h4
  refine ⟨wSs X d.body, pss_w X d.body, ?_⟩
  unfold runDef at hrun
  dsimp only at hrun
  split at hrun
  · rename_i hd
    have hps : e.ps ≤ N.length := by
      have := congrArg List.length S.pre
      rw [List.length_take, List.length_map] at this
      rw [h2]
      omega
    have L0 : SlOk K Z mu H (start N vs) (ds.map some ++ List.replicate (e.n - e.ps) none) := start_ok R hd h3 hps
    have eK : X.K = K := by subst hX; rfl
    have eM : X.mg = mg := by subst hX; rfl
    have SO' : StOk X.K Z mu H M := by rw [eK]; exact SO
    have L0' : SlOk X.K Z mu H (start N vs) (ds.map some ++ List.replicate (e.n - e.ps) none) := by rw [eK]; exact L0
    cases hev : evS G e.body (ds.map some ++ List.replicate (e.n - e.ps) none) M with
    | none =>
      rw [hev] at hrun
      cases hrun
    | some q =>
      obtain ⟨fl, sl', M1⟩ := q
      rw [hev] at hrun
      refine body _ M fl sl' M1 hev (start N vs) H Z mu SO' L0' _ ?_
      cases fl with
      | ret x =>
        have hrun : leave M.length (.ok x) M1 = some (r, M') := hrun
        intro v Z' mu' H' S' T' R'
        rw [eK] at S' R'
        obtain ⟨rfl, mu2, S2, T2, hR⟩ := leave_ok hrun SO.len S' T'
        exact kok x v Z' mu2 H' rfl S2 T2 (hR x v rfl R')
      | nx =>
        have hrun : leave M.length (.ok (.v .none)) M1 = some (r, M') := hrun
        intro sv' Z' mu' H' S' T' L'
        rw [eK] at S'
        obtain ⟨rfl, mu2, S2, T2, hR⟩ := leave_ok hrun SO.len S' T'
        exact kok _ .non Z' mu2 H' rfl S2 T2 (.v .non)
      | ex er =>
        have hrun : leave M.length (.ex er) M1 = some (r, M') := hrun
        refine ⟨_, tk, fun sv' cls dx Z' mu' H' S' T' L' ee => ?_⟩
        rw [eK] at S'
        rw [eM] at ee
        obtain ⟨rfl, mu2, S2, T2, hR⟩ := leave_ok hrun SO.len S' T'
        exact kex er cls dx Z' mu2 H' rfl S2 T2 ee
      | brk => cases hrun
      | cont => cases hrun
  · cases hrun
theorem binds_of {K : PySem.W.Frag} {x qual : Str} {params : Arguments} {body : List Stmt} {scope : Scope} {f : Addr} {fd : FuncData} {as : List Arg} (F : FunD K x qual params body scope [] [] f fd) (hp : plainArgs params = some as) (nd : (as.map (·.arg)).Nodup) : Binds K fd (as.map (·.arg)) [] := by
  have e : params = ⟨[], as, none, [], [], none, []⟩ := by
    unfold plainArgs at hp
    split at hp
    · cases hp
      rfl
    · cases hp
  subst e
  exact F.bindsN fun kV doc pm an cdv ct us hl => bind_plain nd hl
theorem lookup_mem' {α : Type} {x : Str} {v : α} : ∀ {l : List (Str × α)}, List.lookup x l = some v → (x, v) ∈ l := fun h => PySem.mem_of_lookup h
/-- every def of the program keeps the evaluator's promise -/
theorem prog_ok {P : Program} {w : World} {K : PySem.W.Frag} {h : Heap} {mg : Str → Option Value} {base : Heap} {p : Prog} {gls : List (Str × PyData)} {exs : List Str} {W : Loop} (X : K.In h) (Gn : h.Ns mainGlobals mg) (c : He.SaysD (faOf p gls exs) (p.map (·.1)) K) (hg : gls.all glGood = true)
    (hchk : p.all (chkDef (fnsOf p) (gNames gls) exs) = true) (hW : LoopOk W) : ∀ k, Calls P w K mg base k (fun f => decide (f ∈ fnsOf p)) (callK (prOf p gls) W k) := by
  have ko := kOk_of X Gn c hg
  have key : ∀ f ∈ fnsOf p, ∃ q ∈ p, q.1.name = f := fun f hf => by
    unfold fnsOf at hf
    obtain ⟨q, h1, h2⟩ := List.mem_map.mp hf
    exact ⟨q, h1, h2⟩
  have look : ∀ f ∈ fnsOf p, ∃ q ∈ p, q.1.name = f ∧ (prOf p gls).defs f = some q.2.2 := fun f hf => by
    obtain ⟨q0, h1, h2⟩ := key f hf
    have : ∃ d, List.lookup f (p.map fun q => (q.1.name, q.2.2)) = some d := by
      refine mem_lookup (c := q0.2.2) ?_
      exact List.mem_map.mpr ⟨q0, h1, by rw [h2]⟩
    obtain ⟨d, hd⟩ := this
    obtain ⟨q, h3, h4⟩ := List.mem_map.mp (lookup_mem' hd)
    cases h4
    exact ⟨q, h3, rfl, hd⟩
  intro k
  induction k with
  | zero =>
    intro f hf
    obtain ⟨q, hq, rfl, hd⟩ := look f (dec hf)
    have hc := List.all_eq_true.mp hchk q hq
    unfold chkDef at hc
    obtain ⟨h1, h2, h3, h4, h5, h6⟩ := and6 hc
    split at h1
    · rename_i as hp
      obtain ⟨g1, g2⟩ := and2 h1
      obtain ⟨fd, F⟩ := c.defs (d := q.1) (List.mem_map.mpr ⟨q, hq, rfl⟩)
      have e1 := emp h5
      have e2 := emp h6
      unfold He.DefD.dvs He.DefD.kws at F
      rw [e1, e2] at F
      have e3 : He.fAd K q.1.at_ = He.ga K q.1.name := by rw [dec h4]; rfl
      refine ⟨He.fAd K q.1.at_, fd, as.map (·.arg), ?_, F.kp, binds_of F hp ?_, ⟨fun vs H Q E z => ?_, fun A outer s H args us vs Q E _ _ _ _ _ z => ?_⟩⟩
      · rw [e3]
        exact He.glo_ok X Gn (c.facts (f := .glo q.1.name) (by unfold faOf fnsOf; simp only [List.mem_append, List.mem_map]; exact .inl (.inl (.inl (.inl (.inl ⟨_, ⟨q, hq, rfl⟩, rfl⟩))))))
      · have := (scopeOk_ok g1)
        rw [← this.pre]
        exact this.nd.sublist (List.take_sublist _ _)
      · obtain ⟨ds, M, r, M', _, _, z, _⟩ := z
        cases z
      · obtain ⟨ds, M, r, M', _, _, z, _⟩ := z
        cases z
    · cases h1
  | succ k ih =>
    intro f hf
    obtain ⟨q, hq, rfl, hd⟩ := look f (dec hf)
    have hc := List.all_eq_true.mp hchk q hq
    unfold chkDef at hc
    obtain ⟨h1, h2, h3, h4, h5, h6⟩ := and6 hc
    split at h1
    · rename_i as hp
      obtain ⟨g1, g2⟩ := and2 h1
      obtain ⟨fd, F⟩ := c.defs (d := q.1) (List.mem_map.mpr ⟨q, hq, rfl⟩)
      have e1 := emp h5
      have e2 := emp h6
      unfold He.DefD.dvs He.DefD.kws at F
      rw [e1, e2] at F
      have e3 : He.fAd K q.1.at_ = He.ga K q.1.name := by rw [dec h4]; rfl
      refine ⟨He.fAd K q.1.at_, fd, as.map (·.arg), ?_, F.kp, binds_of F hp ?_, ?_⟩
      · rw [e3]
        exact He.glo_ok X Gn (c.facts (f := .glo q.1.name) (by unfold faOf fnsOf; simp only [List.mem_append, List.mem_map]; exact .inl (.inl (.inl (.inl (.inl ⟨_, ⟨q, hq, rfl⟩, rfl⟩))))))
      · have := (scopeOk_ok g1)
        rw [← this.pre]
        exact this.nd.sublist (List.take_sublist _ _)
      · have eC : callK (prOf p gls) W (k + 1) q.1.name = fun ds M => runDef ⟨callK (prOf p gls) W k, (prOf p gls).glob, W⟩ q.2.2 ds M := by
          funext ds M
          show (match (prOf p gls).defs q.1.name with
            | none => none
            | some d => runDef ⟨callK (prOf p gls) W k, (prOf p gls).glob, W⟩ d ds M) = _
          rw [hd]
        rw [eC]
        exact def_ok F g1 (dec g2) (dec h2) h3 ko ih (fun x p hp => lookup_mem' hp) hW
    · cases h1
end Ev

set_option maxRecDepth 100000
set_option maxHeartbeats 2000000
namespace Ev
open PySem PySem.Spec PyProof.Rows L2

/-- the law's run, the guards told: from nothing tracked but the script -/
theorem law_callG {P : Program} {w : World} {K : PySem.W.Frag} {mg mb : Str → Option Value} {k : Nat} {fa a : Addr} {fd : FuncData} {x : Str} {sp : Sp} {s₁ : Shared} {vs : List Value} {ns : List Int}
    (KX : K.In s₁.heap) (hns : s₁.heap.Ns mainGlobals mg) (hb : s₁.heap.Ns builtinsNs mb) (hbb : ∀ x : Str, x ≠ "__name__" → mb x = bootBuiltins x) (hlim : s₁.heap.NoLimit) (hg : s₁.gens = #[])
    (ha : s₁.heap.get? a = some { cls := .type "list", data := .seq vs.toArray }) (hi : IntsAre vs ns) (hl : ns.length ≤ sizeLine) (hr : Room k callerA)
    (F : ∀ base : Heap, K.In base → base.Ns mainGlobals mg → FnG P w K mg base k fa fd [x] sp) (hbind : ∀ (s : Shared) (u : Value), BindsTo s fd ⟨[u], []⟩ [(x, u)])
    (hsp : ∀ H : Hp, ScrAt K H a (ns.map V.int) → sp [.ref a] H (fun v _ => v = .bl true) fun _ _ _ => False) :
    codeAny (model P w) callerA (.call (.ref fa) ⟨[.ref a], []⟩) (fun r s' => r = .ok (.ret (.bool true)) ∧ OldK s₁.heap s'.heap ∧ s'.os = s₁.os ∧ AllBare s'.gens) s₁ := by
  have lenV := hi.length
  have core : ∀ H : Hp, Only H → ScrAt K H a (ns.map V.int) → HOk P w H s₁.heap → (∀ b, H b ≠ none → b = a) → (H a ≠ none → K.lookup a = none) →
      codeAny (model P w) callerA (.call (.ref fa) ⟨[.ref a], []⟩) (fun r s' => r = .ok (.ret (.bool true)) ∧ OldK s₁.heap s'.heap ∧ s'.os = s₁.os ∧ AllBare s'.gens) s₁ := by
    intro H hO hS hok hA hK
    have only : ∀ {b : Addr}, (b = a → False) → H b = none := fun {b} n => Classical.byContradiction fun z => n (hA b z)
    have nsK : ∀ {b : Addr} {m : Str → Option Value}, s₁.heap.Ns b m → (hidT s₁.heap H).Ns b m := fun {b m} ⟨o, es, ep, e, d, r⟩ => ⟨o, es, ep, hidT_get e (only fun z => by
      rw [z, ha] at e
      cases e
      cases d), d, r⟩
    have hKb : K.In (hidT s₁.heap H) := fun b o e => hidT_get (KX b o e) (Classical.byContradiction fun z => by
      have e' := hA b z
      subst e'
      rw [hK z] at e
      cases e)
    have hM : Mod K mg (hidT s₁.heap H) := ⟨hKb, nsK hns, ⟨mb, nsK hb, hbb⟩, let ⟨mc, h1, h2⟩ := hlim; ⟨mc, nsK h1, h2⟩⟩
    have e0 : Env0 P w K mg (hidT s₁.heap H) callerA [] s₁ H := ⟨rfl, hM, fun b o e => of_hidT e, Nat.le_of_eq (hidT_size _ _), trivial, fun b hb => absurd (show b ∈ ([] : List Addr) from hb) (by simp), hok, .of_eq hg⟩
    refine codeAny_mono ((F _ hKb (nsK hns)).run callerA [] s₁ H ⟨[.ref a], []⟩ [.ref a] [.ref a] _ _ hr rfl e0 (hbind s₁ (.ref a)) (.cons rfl .nil) (hsp H hS)) fun r s' h => ?_
    cases r with
    | error e =>
      obtain ⟨_, _, _, _, _, _, _, _, _, _, _, _, z⟩ := h
      exact z.elim
    | ok fl =>
      cases fl with
      | next => exact False.elim h
      | brk => exact False.elim h
      | cont => exact False.elim h
      | ret u =>
        obtain ⟨v, H', os, bare, un, hok', r', q⟩ := h
        cases q
        obtain rfl : u = Value.bool true := r'
        refine ⟨rfl, OldK.of_keep fun b o e => ?_, os, bare⟩
        rcases hO b with q | ⟨ob, xs, z⟩
        · exact un.keep b o e q (fun z => absurd (show b ∈ ([] : List Addr) from z) (by simp)) (by simp)
        · obtain ⟨e1, _⟩ := hok b _ z
          obtain ⟨e2, _⟩ := hok' b _ (un.frzs b ob _ z)
          rw [e] at e1
          cases e1
          exact e2
  cases hk : K.lookup a with
  | some o =>
    have e := KX a o hk
    rw [ha] at e
    cases e
    exact core (fun _ => none) (fun _ => .inl rfl) (.inr ⟨_, vs.toArray, _, hk, rfl, rfl, rfl, by rw [List.size_toArray, lenV]; exact hl, by simpa using vals_ints hi⟩) (fun b u z => nomatch z) (fun b z => absurd rfl z) fun z => absurd rfl z
  | none =>
    have at_ : ∀ {b : Addr} {u : HO}, (if b = a then some (HO.frz { cls := .type "list", data := .seq vs.toArray } (.lst (ns.map V.int))) else none) = some u → b = a ∧ HO.frz { cls := .type "list", data := .seq vs.toArray } (.lst (ns.map V.int)) = u := fun {b u} z => by
      split at z
      · rename_i e
        exact ⟨e, Option.some.inj z⟩
      · cases z
    refine core (fun b => if b = a then some (.frz { cls := .type "list", data := .seq vs.toArray } (.lst (ns.map V.int))) else none) (fun b => ?_) (.inl ⟨_, if_pos rfl⟩) (fun b u z => ?_) (fun b z => Classical.byContradiction fun hb => z (if_neg hb)) fun _ => hk
    · by_cases hb : b = a
      · exact .inr ⟨_, _, if_pos hb⟩
      · exact .inl (if_neg hb)
    · obtain ⟨rfl, rfl⟩ := at_ z
      exact ⟨ha, by rw [List.length_map]; exact hl, vs, _, vals_ints hi, ha⟩
theorem walk_ofG {l : PySem.W.OpenLaw} {n k : Nat} {q : Program} {loose : List Str} {XP : (Str → Option Value) → Heap → Prop} {YP : World → Heap → Prop} {d : DefRec} {x : Str}
    (hn : l.most = some n) (hn2 : n ≤ sizeLine) (hdf : d.params.defaults = []) (hr : Room k callerA)
    (F : ∀ (w : World) (mg : Str → Option Value) (fa : Addr) (h : Heap), YP w h → h.Ns mainGlobals mg → mg d.name = some (.ref fa) →
      ∃ (K : PySem.W.Frag) (fd : FuncData) (sp : Sp), K.In h ∧ (∀ (s : Shared) (u : Value), BindsTo s fd ⟨[u], []⟩ [(x, u)]) ∧
        (∀ (H : Hp) (a : Addr) (ns : List Int), ns.length ≤ n → ScrAt K H a (ns.map V.int) → sp [.ref a] H (fun v _ => v = .bl true) fun _ _ _ => False) ∧
        ∀ base : Heap, K.In base → base.Ns mainGlobals mg → FnG l.prog w K mg base k fa fd [x] sp) :
    PySem.W.WalkO q loose XP YP l.row.toRowW d [] (fun f vs => PySem.call f vs) := by
  refine Att.attach_call hn hdf fun w s₀ s₁ mg mb fa o pm cd doc a vs ns G Y ho hd hcd hmg hobj hints hlen hg => ?_
  obtain ⟨K, fd, sp, KX, hb, hsp, hF⟩ := F w mg fa _ Y G.T.g hmg
  exact law_callG KX G.T.g G.T.b G.T.builtins G.T.nolimit hg hobj hints (Nat.le_trans hlen hn2) hr hF hb fun H hS => hsp H a ns hlen hS
/-- the law, by the evaluator -/
theorem law_of {l : PySem.W.OpenLaw} {n k : Nat} {q : Program} {loose : List Str} {XP : (Str → Option Value) → Heap → Prop} {d : DefRec} {x : Str} {p : Prog} {gls : List (Str × PyData)} {exs : List Str} {W : Loop} {ts : List He.Tab} {tf : List He.Defn} {ex : PySem.W.Frag → Bool}
    (hn : l.most = some n) (hn2 : n ≤ sizeLine) (hdf : d.params.defaults = []) (hr : Room (k + 1) callerA) (hd : d.name = ("law" : Str)) (hW : LoopOk W) (hg : gls.all glGood = true) (hchk : p.all (chkDef (fnsOf p) (gNames gls) exs) = true)
    (hl : ∃ dl ∈ p, dl.1.name = ("law" : Str) ∧ (plainArgs dl.1.params).map (fun as => as.map (·.arg)) = some [x] ∧ (prOf p gls).defs ("law" : Str) = some dl.2.2)
    (hrun : ∀ ns : List Int, ns.length ≤ n → ∃ M', callK (prOf p gls) W (k + 1) "law" [.scr ns] [] = some (.ok (.v (.bool true)), M')) :
    PySem.W.WalkO q loose XP (fun w h => (He.hookX 4 (faOf p gls exs) (p.map (·.1)) ts tf ex).says w h) l.row.toRowW d [] (fun f vs => PySem.call f vs) := by
  obtain ⟨dl, hdl, hname, hpx, hdef⟩ := hl
  obtain ⟨ar, har, hpl⟩ : ∃ ar : Arg, ar.arg = x ∧ plainArgs dl.1.params = some [ar] := by
    obtain ⟨as, e1, e2⟩ := Option.map_eq_some_iff.mp hpx
    cases as with
    | nil => cases e2
    | cons a r =>
      cases r with
      | nil =>
        injection e2 with e3
        exact ⟨a, e3, e1⟩
      | cons _ _ =>
        injection e2 with _ e3
        cases e3
  refine walk_ofG (k := k + 1) (x := x) hn hn2 hdf hr fun w mg fa h Y G hmg => ?_
  obtain ⟨K, KX, c⟩ := Y
  have cd := c.t.d
  have hlaw : ("law" : Str) ∈ fnsOf p := by
    rw [← hname]
    exact List.mem_map.mpr ⟨dl, hdl, rfl⟩
  rw [hd] at hmg
  have hga := He.glo_ok KX G (cd.facts (f := .glo ("law" : Str)) (by unfold faOf; simp only [List.mem_append, List.mem_map]; exact .inl (.inl (.inl (.inl (.inl ⟨_, hlaw, rfl⟩))))))
  have efa : fa = He.ga K ("law" : Str) := by
    rw [hmg] at hga
    cases hga
    rfl
  -- the law's own function object
  obtain ⟨fd, F⟩ := cd.defs (d := dl.1) (List.mem_map.mpr ⟨dl, hdl, rfl⟩)
  have hc := List.all_eq_true.mp hchk dl hdl
  unfold chkDef at hc
  obtain ⟨h1, h2, h3, h4, h5, h6⟩ := and6 hc
  have e1 := emp h5
  have e2 := emp h6
  unfold He.DefD.dvs He.DefD.kws at F
  rw [e1, e2] at F
  have e3 : He.fAd K dl.1.at_ = He.ga K ("law" : Str) := by rw [dec h4, ← hname]; rfl
  rw [e3] at F
  rw [hpl] at h1
  have hB : ∀ (s : Shared) (u : Value), BindsTo s fd ⟨[u], []⟩ [(x, u)] := by
    have e : dl.1.params = ⟨[], [ar], none, [], [], none, []⟩ := by
      unfold plainArgs at hpl
      split at hpl
      · rename_i z
        cases hpl
        exact z
      · cases hpl
    rw [e] at F
    intro s u
    rw [← har]
    exact F.bindsA (ps := [ar.arg]) (fun kV doc pm an cdv ct us hl => bind_plain (as := [ar]) (by simp) hl) s [u] rfl
  refine ⟨K, fd, spC K mg (callK (prOf p gls) W (k + 1) "law"), KX, hB, fun H a ns hns hS => ?_, fun base hb1 hb2 => ?_⟩
  · obtain ⟨M', hr2⟩ := hrun ns hns
    refine ⟨[.scr ns], [], _, M', fun _ => False, [], hr2, ⟨rfl, fun r c e => by simp at e, fun r s c c' a e => by simp at e, fun a l => by obtain ⟨r, c, e, _⟩ := l; simp at e, fun a z => z.elim⟩, .cons (.scr hS) .nil, fun d v Z' mu' H' e S T R => ?_, fun e cls dx Z' mu' H' z => nomatch z⟩
    cases e
    exact R.bl
  · have cs := prog_ok (P := l.prog) (w := w) (base := base) hb1 hb2 cd hg hchk hW k
    have ko := kOk_of hb1 hb2 cd hg
    obtain ⟨g1, g2⟩ := and2 h1
    have eC : callK (prOf p gls) W (k + 1) "law" = fun ds M => runDef ⟨callK (prOf p gls) W k, (prOf p gls).glob, W⟩ dl.2.2 ds M := by
      funext ds M
      show (match (prOf p gls).defs ("law" : Str) with
        | none => none
        | some d => runDef ⟨callK (prOf p gls) W k, (prOf p gls).glob, W⟩ d ds M) = _
      rw [hdef]
    rw [eC, efa, ← har]
    exact def_ok F g1 (dec g2) (dec h2) h3 ko cs (fun x p hp => lookup_mem' hp) hW
end Ev

set_option maxRecDepth 100000
set_option maxHeartbeats 1000000
namespace Ev
open PySem

/-! ### while -/
theorem tidy_mono {live : List Bool} {n : Nat} {σ : Slots} {M : Store} {f g : Slots → Store → RS} (h : ∀ σ M r, f σ M = some r → g σ M = some r) {r : Flow × Slots × Store} : tidy live n σ M f = some r → tidy live n σ M g = some r := h _ _ _
theorem whileN_mono {live : List Bool} {n0 : Nat} {c : Slots → Store → R D} {b : Slots → Store → RS} : ∀ {n : Nat} {σ : Slots} {M : Store} {r : Flow × Slots × Store}, whileN live n0 c b n σ M = some r → whileN live n0 c b (n + 1) σ M = some r
  | 0, _, _, _, h => by cases h
  | n + 1, σ, M, r, h => by
    unfold whileN at h ⊢
    cases hc : c σ M with
    | none =>
      rw [hc] at h
      cases h
    | some p =>
      obtain ⟨o, M1⟩ := p
      rw [hc] at h
      cases o with
      | ex e => exact h
      | ok d =>
        replace h : (need (boolD d) fun t => if t = true then
          match b σ M1 with
          | some (.nx, σ, M) => tidy live n0 σ M (whileN live n0 c b n)
          | some (.cont, σ, M) => tidy live n0 σ M (whileN live n0 c b n)
          | some (.brk, σ, M) => some (.nx, σ, M)
          | some (.ret d, σ, M) => some (.ret d, σ, M)
          | some (.ex e, σ, M) => some (.ex e, σ, M)
          | none => none
        else some (.nx, σ, M1)) = some r := h
        show (need (boolD d) fun t => if t = true then
          match b σ M1 with
          | some (.nx, σ, M) => tidy live n0 σ M (whileN live n0 c b (n + 1))
          | some (.cont, σ, M) => tidy live n0 σ M (whileN live n0 c b (n + 1))
          | some (.brk, σ, M) => some (.nx, σ, M)
          | some (.ret d, σ, M) => some (.ret d, σ, M)
          | some (.ex e, σ, M) => some (.ex e, σ, M)
          | none => none
        else some (.nx, σ, M1)) = some r
        cases hb : boolD d with
        | none =>
          rw [hb] at h
          cases h
        | some t =>
          rw [hb] at h
          cases t with
          | false => exact h
          | true =>
            rw [need_some, if_pos rfl] at h ⊢
            cases hbb : b σ M1 with
            | none =>
              rw [hbb] at h
              cases h
            | some q =>
              obtain ⟨fl, σ2, M2⟩ := q
              rw [hbb] at h
              cases fl with
              | nx => exact tidy_mono (fun σ M r => whileN_mono) h
              | cont => exact tidy_mono (fun σ M r => whileN_mono) h
              | brk => exact h
              | ret d => exact h
              | ex e => exact h
theorem whileN_le {live : List Bool} {n0 : Nat} {c : Slots → Store → R D} {b : Slots → Store → RS} {n m : Nat} (h : n ≤ m) {σ : Slots} {M : Store} {r : Flow × Slots × Store} (e : whileN live n0 c b n σ M = some r) : whileN live n0 c b m σ M = some r := by
  induction h with
  | refl => exact e
  | step _ ih => exact whileN_mono ih
theorem loopAny_of {live : List Bool} {c : Slots → Store → R D} {b : Slots → Store → RS} {n : Nat} {σ : Slots} {M : Store} {r : Flow × Slots × Store} (e : whileN live M.length c b n σ M = some r) : loopAny live c b σ M = some r := by
  unfold loopAny
  have h : ∃ n r, loopN n live c b σ M = some r := ⟨n, r, e⟩
  rw [dif_pos h]
  have h1 := h.choose_spec.choose_spec
  have h2 : whileN live M.length c b h.choose σ M = some h.choose_spec.choose := h1
  have h3 := whileN_le (Nat.le_max_left h.choose n) h2
  have h4 := whileN_le (Nat.le_max_right h.choose n) e
  rw [h3] at h4
  exact h4
/-- a loop ends so -/
def Runs (live : List Bool) (n0 : Nat) (c : Slots → Store → R D) (b : Slots → Store → RS) (σ : Slots) (M : Store) (r : Flow × Slots × Store) : Prop := ∃ n, whileN live n0 c b n σ M = some r
theorem Runs.loop {live : List Bool} {c : Slots → Store → R D} {b : Slots → Store → RS} {σ : Slots} {M : Store} {r : Flow × Slots × Store} (h : Runs live M.length c b σ M r) : loopAny live c b σ M = some r := loopAny_of h.choose_spec
theorem Runs.stop {live : List Bool} {n0 : Nat} {c : Slots → Store → R D} {b : Slots → Store → RS} {σ : Slots} {M M1 : Store} (h : c σ M = some (.ok (.v (.bool false)), M1)) : Runs live n0 c b σ M (.nx, σ, M1) := by
  refine ⟨1, ?_⟩
  unfold whileN
  rw [h]
  rfl
theorem Runs.turn {live : List Bool} {n0 : Nat} {c : Slots → Store → R D} {b : Slots → Store → RS} {σ σ2 : Slots} {M M1 M2 : Store} {r : Flow × Slots × Store} (h : c σ M = some (.ok (.v (.bool true)), M1)) (h2 : b σ M1 = some (.nx, σ2, M2)) (e : Runs live n0 c b (keepS live σ2) (if (refsS (keepS live σ2)).all (· < n0) && cellsBelow n0 (M2.take n0) then M2.take n0 else M2) r) : Runs live n0 c b σ M r := by
  obtain ⟨n, e⟩ := e
  refine ⟨n + 1, ?_⟩
  unfold whileN
  rw [h]
  show (match b σ M1 with
          | some (.nx, σ, M) => tidy live n0 σ M (whileN live n0 c b n)
          | some (.cont, σ, M) => tidy live n0 σ M (whileN live n0 c b n)
          | some (.brk, σ, M) => some (.nx, σ, M)
          | some (.ret d, σ, M) => some (.ret d, σ, M)
          | some (.ex e, σ, M) => some (.ex e, σ, M)
          | none => none) = _
  rw [h2]
  exact e

/-! ### calls -/
theorem close_nil (M : Store) (acc : List Nat) : close M 1000 [] acc = some acc := rfl
theorem mapD_pure {f : Nat → Nat} : ∀ {ds : List D}, refsDs ds = [] → ds.map (mapD f) = ds
  | [], _ => rfl
  | .v p :: r, h => by
    have h2 : refsDs r = [] := by
      simpa [refsDs, refsD] using h
    rw [List.map_cons, mapD_pure h2]
    rfl
  | .scr _ :: r, h => by
    have h2 : refsDs r = [] := by
      simpa [refsDs, refsD] using h
    rw [List.map_cons, mapD_pure h2]
    rfl
  | .ref _ :: r, h => by simp [refsDs, refsD] at h
theorem callX_v {f : List D → Store → R D} {ds : List D} {p : PyData} (hd : refsDs ds = []) (h : f ds [] = some (.ok (.v p), [])) (M : Store) : callX f ds M = some (.ok (.v p), M) := by
  unfold callX
  rw [hd, close_nil, need_some, mapD_pure hd]
  show (match f ds [] with
    | none => none
    | some (o, M1) => _) = _
  rw [h]
  unfold putAll mapO mapD
  simp
theorem callX_e {f : List D → Store → R D} {ds : List D} {e : Err} (hd : refsDs ds = []) (h : f ds [] = some (.ex e, [])) (M : Store) : callX f ds M = some (.ex e, M) := by
  unfold callX
  rw [hd, close_nil, need_some, mapD_pure hd]
  show (match f ds [] with
    | none => none
    | some (o, M1) => _) = _
  rw [h]
  unfold putAll mapO
  simp
theorem idx_one (r : Nat) : [r].idxOf r = 0 := by simp
theorem mapD_clean {f : Nat → Nat} {xs : List D} (h : refsDs xs = []) : mapC f (.lst xs) = .lst xs := by
  show Cell.lst (xs.map (mapD f)) = _
  rw [mapD_pure h]
theorem callX_1 {f : List D → Store → R D} {ds ds' xs xs' : List D} {r : Nat} {M : Store} {p : PyData} (hd : refsDs ds = [r]) (hM : M[r]? = some (some (.lst xs))) (hx : refsDs xs = []) (hds : ds.map (mapD [r].idxOf) = ds') (h : f ds' [some (.lst xs)] = some (.ok (.v p), [some (.lst xs')])) (hx' : refsDs xs' = []) :
    callX f ds M = some (.ok (.v p), M.set r (some (.lst xs'))) := by
  unfold callX
  have hc : close M 1000 [r] [] = some [r] := by
    unfold close
    rw [if_neg (by simp), hM]
    show close M 999 (refsC (.lst xs) ++ []) [r] = _
    rw [show refsC (.lst xs) = [] from hx]
    rfl
  rw [hd, hc, need_some, hds]
  have hM0 : ([r].map fun r => ((M[r]?).getD none).map (mapC [r].idxOf)) = [some (.lst xs)] := by
    simp only [List.map_cons, List.map_nil, hM, Option.getD_some, Option.map_some]
    rw [mapD_clean hx]
  erw [hM0, h]
  dsimp only
  simp only [List.length_cons, List.length_nil, Nat.zero_add, List.take_succ_cons, List.take_zero, List.map_cons, List.map_nil, Option.map_some, List.drop_succ_cons, List.drop_nil, List.append_nil, mapO, mapD]
  rw [mapD_clean hx']
  unfold putAll
  unfold putAll
  rfl
end Ev

set_option maxRecDepth 100000
set_option maxHeartbeats 1000000
namespace Ev
open PySem
section
variable {G : Sig} {σ : Slots} {M M1 M2 : Store}
@[simp] theorem ret_some {α : Type} (a : α) (M : Store) : retR a M = some (.ok a, M) := rfl
def two (x : R D) (f : Store → R D) (g : D → D → Store → R D) : R D := x.bind fun x M => (f M).bind fun y M => g x y M
def two' (x : D) (r : R D) (g : D → D → Store → R D) : R D := r.bind fun y M => g x y M
@[simp] theorem two_ok {x : D} {f : Store → R D} {g : D → D → Store → R D} : two (some (.ok x, M)) f g = two' x (f M) g := rfl
@[simp] theorem two_ex {e : Err} {f : Store → R D} {g : D → D → Store → R D} : two (some (.ex e, M)) f g = some (.ex e, M) := rfl
@[simp] theorem two'_ok {x y : D} {g : D → D → Store → R D} : two' x (some (.ok y, M)) g = g x y M := rfl
@[simp] theorem two'_ex {x : D} {e : Err} {g : D → D → Store → R D} : two' x (some (.ex e, M)) g = some (.ex e, M) := rfl
@[simp] theorem view_v {p : PyData} : view M (.v p) = some p := rfl
@[simp] theorem boolD_b {b : Bool} : boolD (.v (.bool b)) = some b := rfl
def binG (o : Operator) (x y : D) (M : Store) : R D := need (view M x) fun p => need (view M y) fun q => need (binP o p q) fun r => retR (.v r) M
@[simp] theorem binG_v {o : Operator} {p q : PyData} : binG o (.v p) (.v q) M = need (binP o p q) fun r => some (.ok (.v r), M) := rfl
def cmpG (o : CmpOp) (x y : D) (M : Store) : R D := need (view M x) fun p => need (view M y) fun q => need (cmpB o p q) fun r => retR (.v (.bool r)) M
@[simp] theorem cmpG_v {o : CmpOp} {p q : PyData} : cmpG o (.v p) (.v q) M = need (cmpB o p q) fun r => some (.ok (.v (.bool r)), M) := rfl
@[simp] theorem ev_v {i : Nat} : evE G (.v i) σ M = (match σ[i]? with
    | some (some d) => some (.ok d, M)
    | _ => none) := by
  rw [evE]
  rfl
@[simp] theorem ev_k {p : PyData} : evE G (.k p) σ M = some (.ok (.v p), M) := by rw [evE]; rfl
@[simp] theorem ev_g {x : Str} : evE G (.g x) σ M = need (G.glob x) fun p => some (.ok (.v p), M) := by rw [evE]; rfl
@[simp] theorem ev_bin {o : Operator} {a b : E} : evE G (.bin o a b) σ M = two (evE G a σ M) (evE G b σ) (binG o) := by rw [evE]; rfl
@[simp] theorem ev_cmp {o : CmpOp} {a b : E} : evE G (.cmp o a b) σ M = two (evE G a σ M) (evE G b σ) (cmpG o) := by rw [evE]; rfl
def subG (x y : D) (M : Store) : R D := need (ixD M x y) fun d => retR d M
@[simp] theorem ev_sub {a b : E} : evE G (.sub a b) σ M = two (evE G a σ M) (evE G b σ) subG := by rw [evE]; rfl
@[simp] theorem subG_l {ps : List PyData} {i : Int} : subG (.v (.list ps)) (.v (.int i)) M = need (L2.atI ps i) fun p => some (.ok (.v p), M) := by
  show need ((L2.atI ps i).map D.v) _ = _
  cases L2.atI ps i <;> rfl
@[simp] theorem subG_t {ps : List PyData} {i : Int} : subG (.v (.tuple ps)) (.v (.int i)) M = need (L2.atI ps i) fun p => some (.ok (.v p), M) := by
  show need ((L2.atI ps i).map D.v) _ = _
  cases L2.atI ps i <;> rfl
theorem subG_c {r : Nat} {xs : List D} {i : Int} (h : M[r]? = some (some (.lst xs))) : subG (.ref r) (.v (.int i)) M = need (L2.atI xs i) fun d => some (.ok d, M) := by
  have e : ixD M (.ref r) (.v (.int i)) = L2.atI xs i := by
    show (match M[r]? with
      | some (some (.lst xs)) => L2.atI xs i
      | _ => none) = _
    rw [h]
  unfold subG
  rw [e]
  rfl
def negG (x : D) (M : Store) : R D := match x with
  | .v (.int i) => retR (.v (.int (-i))) M
  | _ => none
@[simp] theorem ev_neg {a : E} : evE G (.neg a) σ M = (evE G a σ M).bind negG := by rw [evE]; rfl
@[simp] theorem negG_v {i : Int} : negG (.v (.int i)) M = some (.ok (.v (.int (-i))), M) := rfl
def notG (x : D) (M : Store) : R D := need (boolD x) fun b => retR (.v (.bool (!b))) M
@[simp] theorem ev_not {a : E} : evE G (.not a) σ M = (evE G a σ M).bind notG := by rw [evE]; rfl
@[simp] theorem notG_v {b : Bool} : notG (.v (.bool b)) M = some (.ok (.v (.bool !b)), M) := rfl
def bvG (b : Bool) (M : Store) : R D := retR (.v (.bool b)) M
@[simp] theorem bvG_v {b : Bool} : bvG b M = some (.ok (.v (.bool b)), M) := rfl
@[simp] theorem ev_and {es : E} : evE G (.and es) σ M = (evAnd G es σ M).bind bvG := by rw [evE]; rfl
@[simp] theorem ev_or {es : E} : evE G (.or es) σ M = (evOr G es σ M).bind bvG := by rw [evE]; rfl
def andK (x : R D) (f : Store → R Bool) : R Bool := x.bind fun x M => need (boolD x) fun b => if b = true then f M else retR false M
@[simp] theorem andK_ok {b : Bool} {f : Store → R Bool} : andK (some (.ok (.v (.bool b)), M)) f = if b = true then f M else some (.ok false, M) := rfl
@[simp] theorem andK_ex {e : Err} {f : Store → R Bool} : andK (some (.ex e, M)) f = some (.ex e, M) := rfl
def orK (x : R D) (f : Store → R Bool) : R Bool := x.bind fun x M => need (boolD x) fun b => if b = true then retR true M else f M
@[simp] theorem orK_ok {b : Bool} {f : Store → R Bool} : orK (some (.ok (.v (.bool b)), M)) f = if b = true then some (.ok true, M) else f M := rfl
@[simp] theorem orK_ex {e : Err} {f : Store → R Bool} : orK (some (.ex e, M)) f = some (.ex e, M) := rfl
@[simp] theorem and_nil : evAnd G .nil σ M = some (.ok true, M) := by rw [evAnd]; rfl
@[simp] theorem and_cons {e es : E} : evAnd G (.cons e es) σ M = andK (evE G e σ M) (evAnd G es σ) := by rw [evAnd]; rfl
@[simp] theorem or_nil : evOr G .nil σ M = some (.ok false, M) := by rw [evOr]; rfl
@[simp] theorem or_cons {e es : E} : evOr G (.cons e es) σ M = orK (evE G e σ M) (evOr G es σ) := by rw [evOr]; rfl
def ifK (x : R D) (f g : Store → R D) : R D := x.bind fun x M => need (boolD x) fun t => if t = true then f M else g M
@[simp] theorem ifK_ok {b : Bool} {f g : Store → R D} : ifK (some (.ok (.v (.bool b)), M)) f g = if b = true then f M else g M := rfl
@[simp] theorem ev_ifx {c a b : E} : evE G (.ifx c a b) σ M = ifK (evE G c σ M) (evE G a σ) (evE G b σ) := by rw [evE]; rfl
def consK (x : R D) (f : Store → R (List D)) : R (List D) := x.bind fun x M => (f M).bind fun xs M => retR (x :: xs) M
def consK' (x : D) (r : R (List D)) : R (List D) := r.bind fun xs M => retR (x :: xs) M
@[simp] theorem consK_ok {x : D} {f : Store → R (List D)} : consK (some (.ok x, M)) f = consK' x (f M) := rfl
@[simp] theorem consK_ex {e : Err} {f : Store → R (List D)} : consK (some (.ex e, M)) f = some (.ex e, M) := rfl
@[simp] theorem consK'_ok {x : D} {xs : List D} : consK' x (some (.ok xs, M)) = some (.ok (x :: xs), M) := rfl
@[simp] theorem consK'_ex {x : D} {e : Err} : consK' x (some (.ex e, M)) = some (.ex e, M) := rfl
@[simp] theorem es_nil : evEs G .nil σ M = some (.ok [], M) := by rw [evEs]; rfl
@[simp] theorem es_cons {e es : E} : evEs G (.cons e es) σ M = consK (evE G e σ M) (evEs G es σ) := by rw [evEs]; rfl
def tupG (ds : List D) (M : Store) : R D := need (pures ds) fun ps => if ps.length ≤ LIM then retR (.v (.tuple ps)) M else none
@[simp] theorem ev_tup {es : E} : evE G (.tup es) σ M = (evEs G es σ M).bind tupG := by rw [evE]; rfl
@[simp] theorem pures_nil : pures [] = some [] := rfl
@[simp] theorem pures_cons {p : PyData} {r : List D} : pures (.v p :: r) = (pures r).map (p :: ·) := rfl
@[simp] theorem tupG_d {ds : List D} : tupG ds M = need (pures ds) fun ps => if ps.length ≤ LIM then some (.ok (.v (.tuple ps)), M) else none := rfl
def lstG (al : Bool) (ds : List D) (M : Store) : R D := if ds.length ≤ LIM then mkL al ds M else none
@[simp] theorem ev_lst {al : Bool} {es : E} : evE G (.lst al es) σ M = (evEs G es σ M).bind (lstG al) := by rw [evE]; rfl
@[simp] theorem lstG_f {ds : List D} : lstG false ds M = if ds.length ≤ LIM then need (pures ds) fun ps => some (.ok (.v (.list ps)), M) else none := rfl
@[simp] theorem lstG_t {ds : List D} : lstG true ds M = if ds.length ≤ LIM then some (.ok (.ref M.length), M ++ [some (.lst ds)]) else none := rfl
@[simp] theorem ev_call {f : Str} {es : E} : evE G (.call f es) σ M = (evEs G es σ M).bind (callX (G.call f)) := by rw [evE]
def biG (b : Bi) (ds : List D) (M : Store) : R D := need (ds.mapM (view M)) fun ps => need (biP b ps) fun r => retR (.v r) M
@[simp] theorem ev_bi {b : Bi} {es : E} : evE G (.bi b es) σ M = (evEs G es σ M).bind (biG b) := by rw [evE]; rfl
@[simp] theorem biG_1 {b : Bi} {p : PyData} : biG b [.v p] M = need (biP b [p]) fun r => some (.ok (.v r), M) := rfl
@[simp] theorem biG_2 {b : Bi} {p q : PyData} : biG b [.v p, .v q] M = need (biP b [p, q]) fun r => some (.ok (.v r), M) := rfl
theorem biG_c {b : Bi} {r : Nat} {p : PyData} (h : view M (.ref r) = some p) : biG b [.ref r] M = need (biP b [p]) fun r => some (.ok (.v r), M) := by
  unfold biG
  rw [List.mapM_cons, h]
  rfl
def fmtG (x : D) (M : Store) : R D := match x with
    | .v (.int i) => if okInt i = true then retR (.v (.str (toString i))) M else none
    | .v (.str z) => if z.length ≤ LIM then retR (.v (.str z)) M else none
    | _ => none
@[simp] theorem ev_fmt {a : E} : evE G (.fmt a) σ M = (evE G a σ M).bind fmtG := by rw [evE]; rfl
@[simp] theorem fmtG_i {i : Int} : fmtG (.v (.int i)) M = if okInt i = true then some (.ok (.v (.str (toString i))), M) else none := rfl
def strG (z : Str) (M : Store) : R D := retR (.v (.str z)) M
@[simp] theorem strG_v {z : Str} : strG z M = some (.ok (.v (.str z)), M) := rfl
@[simp] theorem ev_fst {es : E} : evE G (.fst es) σ M = (evF G es ⟨#[]⟩ σ M).bind strG := by rw [evE]; rfl
def fK (acc : Str) (x : R D) (f : Str → Store → R Str) : R Str := x.bind fun x M => match x with
    | .v (.str y) => if (acc ++ y).length ≤ LIM then f (acc ++ y) M else none
    | _ => none
@[simp] theorem fK_ok {acc y : Str} {f : Str → Store → R Str} : fK acc (some (.ok (.v (.str y)), M)) f = if (acc ++ y).length ≤ LIM then f (acc ++ y) M else none := rfl
@[simp] theorem evF_nil {acc : Str} : evF G .nil acc σ M = some (.ok acc, M) := by rw [evF]; rfl
@[simp] theorem evF_cons {acc : Str} {e es : E} : evF G (.cons e es) acc σ M = fK acc (evE G e σ M) (fun acc => evF G es acc σ) := by rw [evF]; rfl
def slK (x : R D) (f g : Store → R (Option Int)) : R D := x.bind fun x M => (f M).bind fun l M => (g M).bind fun h M => need (slD M x l h) fun q => retR (.v q) M
def slK1 (x : D) (y : R (Option Int)) (g : Store → R (Option Int)) : R D := y.bind fun l M => (g M).bind fun h M => need (slD M x l h) fun q => retR (.v q) M
def slK2 (x : D) (l : Option Int) (y : R (Option Int)) : R D := y.bind fun h M => need (slD M x l h) fun q => retR (.v q) M
@[simp] theorem ev_sl {a lo hi : E} : evE G (.sl a lo hi) σ M = slK (evE G a σ M) (evO G lo σ) (evO G hi σ) := by rw [evE]; rfl
@[simp] theorem slK_ok {x : D} {f g : Store → R (Option Int)} : slK (some (.ok x, M)) f g = slK1 x (f M) g := rfl
@[simp] theorem slK1_ok {x : D} {l : Option Int} {g : Store → R (Option Int)} : slK1 x (some (.ok l, M)) g = slK2 x l (g M) := rfl
@[simp] theorem slK2_ok {x : D} {l h : Option Int} : slK2 x l (some (.ok h, M)) = need (slD M x l h) fun q => some (.ok (.v q), M) := rfl
def intG (x : D) (M : Store) : R (Option Int) := match x with
    | .v (.int i) => retR (some i) M
    | _ => none
@[simp] theorem intG_v {i : Int} : intG (.v (.int i)) M = some (.ok (some i), M) := rfl
@[simp] theorem evO_nil : evO G .nil σ M = some (.ok none, M) := by rw [evO]; rfl
@[simp] theorem evO_cons {e : E} : evO G (.cons e .nil) σ M = (evE G e σ M).bind intG := by rw [evO]; rfl
@[simp] theorem frz_v {e : E} : evE G (.frz e) σ M = (evE G e σ M).bind fun x M => match x with
    | .ref r => need (view M x) fun p => retR (.v p) (M.set r none)
    | .v p => retR (.v p) M
    | .scr _ => none := by
  first
    | (rw [evE]; done)
    | (rw [evE]; rfl)
@[simp] theorem ev_comp {al : Bool} {elt ifs its : E} {tg : Tg} {kd : ItK} : evE G (.comp al elt tg kd its ifs) σ M = (evI G kd its σ M).bind fun it M => (compL (compStep G elt tg ifs σ) (stays it.2 M) it.1 M).bind (mkL al) := by
  rw [evE_comp]
/-! ### statements -/
@[simp] theorem s_skip : evS G .skip σ M = some (.nx, σ, M) := by rw [evS]
@[simp] theorem s_seq {a b : S} : evS G (.seq a b) σ M = thenS (evS G a σ M) (evS G b) := by rw [evS]
def asgG (i : Nat) (σ : Slots) (x : D) (M : Store) : RS := if i < σ.length then some (.nx, σ.set i (some x), M) else none
@[simp] theorem s_asg {i : Nat} {e : E} : evS G (.asg i e) σ M = (evE G e σ M).go σ (asgG i σ) := by rw [evS]; rfl
@[simp] theorem asgG_v {i : Nat} {x : D} : asgG i σ x M = if i < σ.length then some (.nx, σ.set i (some x), M) else none := rfl
def asgTG (g : Tg) (σ : Slots) (x : D) (M : Store) : RS := need (setT (.tup g) x σ) fun σ' => some (.nx, σ', M)
@[simp] theorem s_asgT {g : Tg} {e : E} : evS G (.asgT g e) σ M = (evE G e σ M).go σ (asgTG g σ) := by rw [evS]; rfl
@[simp] theorem asgTG_v {g : Tg} {x : D} : asgTG g σ x M = need (setT (.tup g) x σ) fun σ' => some (.nx, σ', M) := rfl
def parG (g : Tg) (σ : Slots) (xs : List D) (M : Store) : RS := need (setTs g xs σ) fun σ' => some (.nx, σ', M)
@[simp] theorem s_par {g : Tg} {es : E} : evS G (.par g es) σ M = (evEs G es σ M).go σ (parG g σ) := by rw [evS]; rfl
@[simp] theorem parG_v {g : Tg} {xs : List D} : parG g σ xs M = need (setTs g xs σ) fun σ' => some (.nx, σ', M) := rfl
def exprG (σ : Slots) (_ : D) (M : Store) : RS := some (.nx, σ, M)
@[simp] theorem s_expr {e : E} : evS G (.expr e) σ M = (evE G e σ M).go σ (exprG σ) := by rw [evS]; rfl
@[simp] theorem exprG_v {x : D} : exprG σ x M = some (.nx, σ, M) := rfl
def retG (σ : Slots) (x : D) (M : Store) : RS := some (.ret x, σ, M)
@[simp] theorem s_ret {e : E} : evS G (.ret e) σ M = (evE G e σ M).go σ (retG σ) := by rw [evS]; rfl
@[simp] theorem retG_v {x : D} : retG σ x M = some (.ret x, σ, M) := rfl
@[simp] theorem s_retN : evS G .retN σ M = some (.ret (.v .none), σ, M) := by rw [evS]
@[simp] theorem s_raise {c z : Str} : evS G (.raise c (.k (.str z))) σ M = some (.ex ⟨c, none⟩, σ, M) := by
  rw [evS, ev_k]
  rfl
def iteK (x : R D) (σ : Slots) (f g : Slots → Store → RS) : RS := x.go σ fun x M => need (boolD x) fun t => if t = true then f σ M else g σ M
@[simp] theorem s_ite {c : E} {a b : S} : evS G (.ite c a b) σ M = iteK (evE G c σ M) σ (evS G a) (evS G b) := by rw [evS]; rfl
@[simp] theorem iteK_ok {b : Bool} {f g : Slots → Store → RS} : iteK (some (.ok (.v (.bool b)), M)) σ f g = if b = true then f σ M else g σ M := rfl
@[simp] theorem s_while {live : List Bool} {c : E} {b : S} : evS G (.while_ live c b) σ M = G.loop live (evE G c) (evS G b) σ M := by rw [evS]
def forStep (G : Sig) (tg : Tg) (b : S) (d : D) (σ : Slots) (M : Store) : RS := need (setT tg d σ) fun σ' => evS G b σ' M
def forK (live : List Bool) (f : D → Slots → Store → RS) (σ : Slots) (it : List D × List Nat) (M : Store) : RS := forL live M.length f (stays it.2 M) it.1 σ M
@[simp] theorem s_for {live : List Bool} {tg : Tg} {k : ItK} {its : E} {b : S} : evS G (.for_ live tg k its b) σ M = (evI G k its σ M).go σ (forK live (forStep G tg b) σ) := by
  rw [← evI_go]
  rw [evS]
  rfl
@[simp] theorem evI_d {k : ItK} {its : E} : evI G k its σ M = (evEs G its σ M).bind fun ds M => need (itemsOf k ds M) fun it => some (.ok it, M) := rfl
@[simp] theorem s_brk : evS G .brk σ M = some (.brk, σ, M) := by rw [evS]
@[simp] theorem s_cont : evS G .cont σ M = some (.cont, σ, M) := by rw [evS]
def appK (x : R D) (σ : Slots) (f : Store → R D) : RS := x.go σ fun x M => if isL M x = true then (f M).go σ fun d M => need (appC M x d) fun M => some (.nx, σ, M) else none
def appK' (x : D) (σ : Slots) (r : R D) : RS := r.go σ fun d M => need (appC M x d) fun M => some (.nx, σ, M)
@[simp] theorem s_app {x e : E} : evS G (.app x e) σ M = appK (evE G x σ M) σ (evE G e σ) := by rw [evS]; rfl
@[simp] theorem appK_ok {x : D} {f : Store → R D} : appK (some (.ok x, M)) σ f = if isL M x = true then appK' x σ (f M) else none := rfl
@[simp] theorem appK'_ok {x d : D} : appK' x σ (some (.ok d, M)) = need (appC M x d) fun M => some (.nx, σ, M) := rfl
def stK (d : R D) (σ : Slots) (f g : Store → R D) : RS := d.go σ fun d M => (f M).go σ fun x M => (g M).go σ fun y M => need (putIx M x y d) fun M => some (.nx, σ, M)
def stK1 (d : D) (σ : Slots) (x : R D) (g : Store → R D) : RS := x.go σ fun x M => (g M).go σ fun y M => need (putIx M x y d) fun M => some (.nx, σ, M)
def stK2 (d x : D) (σ : Slots) (y : R D) : RS := y.go σ fun y M => need (putIx M x y d) fun M => some (.nx, σ, M)
@[simp] theorem s_store {a i e : E} : evS G (.store a i e) σ M = stK (evE G e σ M) σ (evE G a σ) (evE G i σ) := by rw [evS]; rfl
@[simp] theorem stK_ok {d : D} {f g : Store → R D} : stK (some (.ok d, M)) σ f g = stK1 d σ (f M) g := rfl
@[simp] theorem stK1_ok {d x : D} {g : Store → R D} : stK1 d σ (some (.ok x, M)) g = stK2 d x σ (g M) := rfl
@[simp] theorem stK2_ok {d x y : D} : stK2 d x σ (some (.ok y, M)) = need (putIx M x y d) fun M => some (.nx, σ, M) := rfl
/-! ### targets -/
@[simp] theorem setT_s {i : Nat} {d : D} : setT (.s i) d σ = if i < σ.length then some (σ.set i (some d)) else none := by rw [setT]
@[simp] theorem setT_t {g : Tg} {ps : List PyData} : setT (.tup g) (.v (.tuple ps)) σ = setTs g (ps.map .v) σ := by rw [setT]
@[simp] theorem setT_l {g : Tg} {ps : List PyData} : setT (.tup g) (.v (.list ps)) σ = setTs g (ps.map .v) σ := by rw [setT]
@[simp] theorem setTs_nil : setTs .nil [] σ = some σ := by rw [setTs]
@[simp] theorem setTs_cons {g gs : Tg} {d : D} {r : List D} : setTs (.cons g gs) (d :: r) σ = need (setT g d σ) (setTs gs r) := by rw [setTs]
end
end Ev

set_option maxRecDepth 100000
set_option maxHeartbeats 1000000
namespace Ev
open PySem StrLaws
mutual
def wt : PyData → Nat
  | .none => 4
  | .bool _ => 5
  | .int _ => 1921
  | .str x => 10 * x.length + 2
  | .list xs => 2 + wts xs
  | .tuple xs => 3 + wts xs
  | .dict _ => 0
def wts : List PyData → Nat
  | [] => 0
  | x :: r => wt x + 2 + wts r
end
mutual
/-- may be shown: no dict, small ints, plain signs -/
def fine : PyData → Bool
  | .none => true
  | .bool _ => true
  | .int i => decide (i.natAbs.log2 < 1920)
  | .str x => PyData.strOk x
  | .list xs => fines xs
  | .tuple xs => fines xs
  | .dict _ => false
def fines : List PyData → Bool
  | [] => true
  | x :: r => fine x && fines r
end
mutual
theorem fine_show : ∀ p : PyData, fine p = true → p.showable = true ∧ p.canLay0 = true
  | .none, _ => ⟨rfl, rfl⟩
  | .bool _, _ => ⟨rfl, rfl⟩
  | .int i, h => by
    unfold fine at h
    exact ⟨by unfold PyData.showable; exact h, rfl⟩
  | .str x, h => by
    unfold fine at h
    exact ⟨rfl, by unfold PyData.canLay0; exact h⟩
  | .list xs, h => by
    unfold fine at h
    obtain ⟨h1, h2⟩ := fines_show xs h
    exact ⟨by unfold PyData.showable; exact h1, by unfold PyData.canLay0; exact h2⟩
  | .tuple xs, h => by
    unfold fine at h
    obtain ⟨h1, h2⟩ := fines_show xs h
    exact ⟨by unfold PyData.showable; exact h1, by unfold PyData.canLay0; exact h2⟩
  | .dict _, h => by
    unfold fine at h
    cases h
theorem fines_show : ∀ xs : List PyData, fines xs = true → PyData.showableAll xs = true ∧ PyData.canLayAll0 xs = true
  | [], _ => ⟨rfl, rfl⟩
  | x :: r, h => by
    unfold fines at h
    obtain ⟨h1, h2⟩ := and2 h
    obtain ⟨h3, h4⟩ := fine_show x h1
    obtain ⟨h5, h6⟩ := fines_show r h2
    exact ⟨by unfold PyData.showableAll; rw [h3, h5]; rfl, by unfold PyData.canLayAll0; rw [h4, h6]; rfl⟩
end
theorem textFrom_le : ∀ (ts : List Str) (k : Nat) (acc : Str), (textFrom k acc ts).length ≤ acc.length + (ts.map fun t => t.length + 2).sum
  | [], k, acc => by
    show acc.length ≤ _
    simp
  | t :: r, k, acc => by
    have ih := textFrom_le r (k + 1) (acc ++ (if k > 0 then ", " else "" : String) ++ t)
    have e : (acc ++ (if k > 0 then ", " else "" : String) ++ t).length ≤ acc.length + 2 + t.length := by
      rw [strLen_append, strLen_append]
      split
      · have : (((", " : String) : Str)).length = 2 := rfl
        omega
      · have : ((("" : String) : Str)).length = 0 := rfl
        omega
    show (textFrom (k + 1) _ r).length ≤ _
    rw [List.map_cons, List.sum_cons]
    omega
theorem listText_le (ts : List Str) : (listText ts).length ≤ 2 + (ts.map fun t => t.length + 2).sum := by
  unfold listText
  rw [strLen_append]
  have h := textFrom_le ts 0 "["
  have e1 : ((("[" : String) : Str)).length = 1 := rfl
  have e2 : ((("]" : String) : Str)).length = 1 := rfl
  omega
theorem tupleText_le (ts : List Str) : (tupleText ts).length ≤ 3 + (ts.map fun t => t.length + 2).sum := by
  unfold tupleText
  rw [strLen_append, strLen_append]
  have e1 : ((("(" : String) : Str)).length = 1 := rfl
  have e3 : (((if ts.length == 1 then ",)" else ")" : String) : Str)).length ≤ 2 := by split <;> decide
  by_cases h : ts = []
  · subst h
    have : (Str.join ", " []).length = 0 := rfl
    omega
  · have := join_length_add ts h
    unfold piled at this
    omega
mutual
theorem shown_le : ∀ p : PyData, fine p = true → p.shown.length ≤ wt p
  | .none, _ => by
    unfold PyData.shown wt
    decide
  | .bool b, _ => by
    unfold PyData.shown wt
    cases b <;> decide
  | .int i, h => by
    unfold fine at h
    unfold PyData.shown wt
    have e := int_text_length_le (k := 1920) (by decide) (dec h)
    rw [ofString_length]
    exact e
  | .str x, h => by
    unfold fine at h
    unfold PyData.shown wt
    refine reprText_len x fun c hc => ?_
    unfold PyData.strOk at h
    rw [← Array.all_toList] at h
    have := dec (List.all_eq_true.mp h c hc)
    omega
  | .list xs, h => by
    unfold fine at h
    unfold PyData.shown wt
    have h1 := showns_le xs h
    have h2 := listText_le (PyData.shownAll xs)
    omega
  | .tuple xs, h => by
    unfold fine at h
    unfold PyData.shown wt
    have h1 := showns_le xs h
    have h2 := tupleText_le (PyData.shownAll xs)
    omega
  | .dict _, h => by
    unfold fine at h
    cases h
theorem showns_le : ∀ xs : List PyData, fines xs = true → ((PyData.shownAll xs).map fun t => t.length + 2).sum ≤ wts xs
  | [], _ => Nat.le_refl _
  | x :: r, h => by
    unfold fines at h
    obtain ⟨h1, h2⟩ := and2 h
    have h3 := shown_le x h1
    have h4 := showns_le r h2
    unfold PyData.shownAll wts
    rw [List.map_cons, List.sum_cons]
    omega
end
/-- what is compared by repr -/
def Fine (p : PyData) : Prop := fine p = true ∧ p.depth ≤ 62 ∧ wt p ≤ 16000000
theorem repr_biP {p : PyData} (h : Fine p) : biP .repr [.list [p]] = some (.str (PyData.list [p]).shown) := by
  obtain ⟨h1, h2, h3⟩ := h
  have hf : fine (.list [p]) = true := by
    unfold fine fines fines
    rw [h1]
    rfl
  obtain ⟨h4, h5⟩ := fine_show _ hf
  have h6 := shown_le _ hf
  have h7 : wt (.list [p]) ≤ 16000010 := by
    unfold wt wts wts
    omega
  have h8 : (PyData.list [p]).depth ≤ 64 := by
    simp only [PyData.depth, PyData.depthAll]
    omega
  show guardO _ _ = _
  unfold guardO
  rw [h4, h5]
  rw [if_pos]
  have h9 : (PyData.list [p]).shown.length ≤ LIM := by
    have : LIM = 16777216 := rfl
    omega
  simp [h8, h9]
def d_same : Def := ⟨2, 2, (.seq (.ret (.cmp .Eq (.bi .repr (.cons (.lst false (.cons (.v 0) .nil)) .nil)) (.bi .repr (.cons (.lst false (.cons (.v 1) .nil)) .nil))))
 .skip)⟩
theorem same_spec {P : Pr} {W : Loop} {k : Nat} (hP : P.defs "_law_same" = some d_same) {p : PyData} (h : Fine p) : callK P W (k + 1) "_law_same" [.v p, .v p] [] = some (.ok (.v (.bool true)), []) := by
  have e := repr_biP h
  unfold callK
  rw [hP]
  unfold d_same runDef
  simp [LIM, e, cmpB, leave, below, cellsBelow, refsD]
theorem strOk_of (s : String) : PyData.strOk (Str.ofString s) = true := by
  unfold PyData.strOk
  rw [Str.ofString_eq_toList]
  show ((s.toList.map Char.toNat).toArray).all _ = true
  rw [← Array.all_toList, List.all_eq_true]
  intro x hx
  have hx : x ∈ s.toList.map Char.toNat := hx
  obtain ⟨c, _, rfl⟩ := List.mem_map.mp hx
  refine decide_eq_true ?_
  have h := c.valid
  show c.val.toNat < 0x110000
  rcases h with h | h
  · have : c.val.toNat < 0xd800 := h
    omega
  · exact h.2
theorem strOk_app {a b : Str} (h1 : PyData.strOk a = true) (h2 : PyData.strOk b = true) : PyData.strOk (a ++ b) = true := by
  unfold PyData.strOk at *
  show (a.cps ++ b.cps).all _ = true
  rw [Array.all_append, h1, h2]
  rfl
end Ev

set_option maxRecDepth 100000
set_option maxHeartbeats 1000000
namespace Ev
open PySem
abbrev iD (i : Int) : D := .v (.int i)
/-- one cell: a list of ints -/
def LI (ns : List Int) : Store := [some (.lst (ns.map iD))]
@[simp] theorem len_LI {ns : List Int} : List.length (LI ns) = 1 := rfl
theorem refs_iD : ∀ ns : List Int, refsDs (ns.map iD) = []
  | [] => rfl
  | i :: r => by
    have := refs_iD r
    simpa [refsDs, refsD] using this
@[simp] theorem isL_LI {ns : List Int} : isL (LI ns) (.ref 0) = true := rfl
@[simp] theorem app_LI {ns : List Int} {i : Int} : appC (LI ns) (.ref 0) (.v (.int i)) = guardO (decide (ns.length < LIM)) (LI (ns ++ [i])) := by
  show guardO (decide ((ns.map iD).length < LIM)) ((LI ns).set 0 (some (.lst (ns.map iD ++ [iD i])))) = _
  rw [List.length_map]
  congr 1
  unfold LI
  rw [List.map_append]
  rfl
theorem tidyS_LI {live : List Bool} {σ : Slots} {ns : List Int} (h : (refsS (keepS live σ)).all (· < 1) = true) : tidyS live 1 σ (LI ns) = LI ns := by
  unfold tidyS
  rw [h]
  split
  · rfl
  · rfl
theorem pure_LI {ns : List Int} : view (LI ns) (.ref 0) = some (.list (ns.map .int)) := by
  show (pures (ns.map iD)).map PyData.list = _
  have : ns.map iD = (ns.map PyData.int).map D.v := by rw [List.map_map]; rfl
  rw [this, pures_map]
  rfl
def Small (ns : List Int) : Prop := ∀ x ∈ ns, 0 ≤ x ∧ x < 1009
theorem Small.snoc {ns : List Int} (h : Small ns) {i : Int} (h0 : 0 ≤ i) (h1 : i < 1009) : Small (ns ++ [i]) := fun x hx => by
  rcases List.mem_append.mp hx with hx | hx
  · exact h x hx
  · have : x = i := by simpa using hx
    rw [this]
    exact ⟨h0, h1⟩
def b1 : S := (.seq (.app (.v 1) (.bin .Mod (.bi .int (.cons (.v 3) .nil)) (.k (.int 1009))))
 (.seq (.asg 3 (.bin .FloorDiv (.v 3) (.k (.int 1009))))
 (.seq (.ite (.cmp .Eq (.v 3) (.k (.int 0)))
 (.seq .brk
 .skip)
 .skip)
 .skip)))
def b2 : S := (.seq (.asg 5 (.bin .Mod (.bi .int (.cons (.bin .Add (.bin .Add (.bin .Mult (.v 5) (.k (.int 48271))) (.bin .Mult (.k (.int 7)) (.v 4))) (.k (.int 11))) .nil)) (.k (.int 2147483647))))
 (.seq (.app (.v 1) (.bin .Mod (.bin .Mod (.bi .int (.cons (.bin .Add (.bin .Mult (.v 5) (.k (.int 69621))) (.v 4)) .nil)) (.k (.int 2147483629))) (.k (.int 1009))))
 .skip))
def d_stream : Def := ⟨1, 6, (.seq (.asg 1 (.lst true .nil))
 (.seq (.for_ [false, true, false, false, false, false] (.s 2) .plain (.cons (.sl (.v 0) .nil (.cons (.k (.int 63)) .nil)) .nil)
 (.seq (.asg 3 (.bi .abs (.cons (.bi .int (.cons (.v 2) .nil)) .nil)))
 (.seq (.ite (.cmp .GtE (.v 3) (.bin .Pow (.k (.int 10)) (.k (.int 18))))
 (.seq (.for_ [false, true, false, true, false, false] (.s 4) .range (.cons (.k (.int 60)) .nil) b1)
 .skip)
 (.seq (.asg 5 (.bin .Mod (.bi .int (.cons (.v 3) .nil)) (.k (.int 2147483647))))
 (.seq (.for_ [false, true, false, false, false, true] (.s 4) .range (.cons (.k (.int 10)) .nil) b2)
 .skip)))
 .skip)))
 (.seq (.ite (.cmp .Eq (.bi .len (.cons (.v 1) .nil)) (.k (.int 0)))
 (.seq (.app (.v 1) (.k (.int 0)))
 .skip)
 .skip)
 (.seq (.ret (.frz (.v 1)))
 .skip))))⟩
def d_next : Def := ⟨2, 3, (.seq (.store (.v 0) (.k (.int 1)) (.bin .Add (.sub (.v 0) (.k (.int 1))) (.k (.int 1))))
 (.seq (.asg 2 (.bin .FloorDiv (.sub (.v 0) (.k (.int 1))) (.bi .len (.cons (.sub (.v 0) (.k (.int 0))) .nil))))
 (.seq (.ret (.bin .Mod (.bi .int (.cons (.bin .Add (.bin .Add (.sub (.sub (.v 0) (.k (.int 0))) (.bin .Mod (.sub (.v 0) (.k (.int 1))) (.bi .len (.cons (.sub (.v 0) (.k (.int 0))) .nil)))) (.bin .Mult (.v 2) (.k (.int 389)))) (.bin .Mult (.bin .Mult (.sub (.v 0) (.k (.int 1))) (.v 2)) (.k (.int 17)))) .nil)) (.v 1)))
 .skip)))⟩
variable {P : Pr} {k : Nat} {G : Sig}
theorem div_1009 : divOk 1009 = true := by decide +kernel
theorem turn1 {x0 x2 x5 : Option D} {x4 : D} {rest : Int} {ns : List Int} (h : ns.length < LIM) (hr : 0 ≤ rest) :
    evS G b1 [x0, some (.ref 0), x2, some (iD rest), some x4, x5] (LI ns) = some (if rest.fdiv 1009 = 0 then .brk else .nx, [x0, some (.ref 0), x2, some (iD (rest.fdiv 1009)), some x4, x5], LI (ns ++ [rest.fmod 1009])) := by
  unfold b1
  by_cases h0 : rest.fdiv 1009 = 0
  · simp [binP, biP, guardO, div_1009, cmpB, h, h0]
  · simp [binP, biP, guardO, div_1009, cmpB, h, h0]
theorem loop1 {ok : Store → Bool} (hok : ∀ N, ok N = true) : ∀ (items : List Int) {x0 x2 x4 x5 : Option D} {rest : Int} {ns : List Int}, ns.length + items.length ≤ 1000000 → 0 ≤ rest → Small ns →
    ∃ y0 y2 y3 y4 y5 ns', forL [false, true, false, true, false, false] 1 (forStep G (.s 4) b1) ok (items.map iD) [x0, some (.ref 0), x2, some (iD rest), x4, x5] (LI ns) = some (.nx, [y0, some (.ref 0), y2, y3, y4, y5], LI ns') ∧ ns'.length ≤ ns.length + items.length ∧ Small ns'
  | [], x0, x2, x4, x5, rest, ns, hl, hr, hs => ⟨x0, x2, _, x4, x5, ns, rfl, by simp, hs⟩
  | i :: items, x0, x2, x4, x5, rest, ns, hl, hr, hs => by
    have hlt : ns.length < LIM := by
      have : LIM = 16777216 := rfl
      omega
    have e := turn1 (G := G) (x0 := x0) (x2 := x2) (x5 := x5) (x4 := iD i) hlt hr
    have hm : rest.fmod 1009 = rest % 1009 := Int.fmod_eq_emod_of_nonneg _ (by decide)
    have hd : rest.fdiv 1009 = rest / 1009 := Int.fdiv_eq_ediv_of_nonneg _ (by decide)
    have hs2 : Small (ns ++ [rest.fmod 1009]) := hs.snoc (by omega) (by omega)
    have hl2 : (ns ++ [rest.fmod 1009]).length = ns.length + 1 := by simp
    have hl3 : (i :: items).length = items.length + 1 := rfl
    have st : forStep G (.s 4) b1 (iD i) [x0, some (.ref 0), x2, some (iD rest), x4, x5] (LI ns) = evS G b1 [x0, some (.ref 0), x2, some (iD rest), some (iD i), x5] (LI ns) := by
      simp [forStep]
    by_cases h0 : rest.fdiv 1009 = 0
    · rw [if_pos h0] at e
      refine ⟨x0, x2, some (iD (rest.fdiv 1009)), some (iD i), x5, ns ++ [rest.fmod 1009], ?_, by omega, hs2⟩
      rw [List.map_cons]
      unfold forL
      rw [st, e]
    · rw [if_neg h0] at e
      obtain ⟨y0, y2, y3, y4, y5, ns', e2, h2, h3⟩ := loop1 hok items (x0 := none) (x2 := none) (x4 := none) (x5 := none) (rest := rest.fdiv 1009) (ns := ns ++ [rest.fmod 1009]) (by omega) (by omega) hs2
      refine ⟨y0, y2, y3, y4, y5, ns', ?_, by omega, h3⟩
      rw [List.map_cons]
      unfold forL
      rw [st, e]
      show (if ok _ = true then tidy _ 1 _ _ _ else none) = _
      rw [if_pos (hok _), tidy_eq, tidyS_LI (by rfl)]
      exact e2
theorem mod_b {a m : Int} (h : 0 < m) : 0 ≤ a.fmod m ∧ a.fmod m < m := by
  rw [Int.fmod_eq_emod_of_nonneg _ (by omega)]
  exact ⟨Int.emod_nonneg _ (by omega), Int.emod_lt_of_pos _ h⟩
theorem mul_ok {i j : Int} (hi : i.natAbs < 2 ^ 64) (hj : j.natAbs < 2 ^ 64) : mulOk i j = true := by
  unfold mulOk
  have h : ∀ {n : Nat}, n < 2 ^ 64 → n.log2 < 64 := fun {n} h => by
    by_cases h0 : n = 0
    · subst h0
      decide
    · exact (Nat.log2_lt h0).mpr h
  have := h hi
  have := h hj
  exact decide_eq_true (by omega)
theorem turn2 {x0 x2 x3 : Option D} {j st : Int} {ns : List Int} (h : ns.length < LIM) (hs : 0 ≤ st ∧ st < 2147483647) (hj : 0 ≤ j ∧ j < 100) :
    ∃ s2 v, 0 ≤ s2 ∧ s2 < 2147483647 ∧ 0 ≤ v ∧ v < 1009 ∧ evS G b2 [x0, some (.ref 0), x2, x3, some (iD j), some (iD st)] (LI ns) = some (.nx, [x0, some (.ref 0), x2, x3, some (iD j), some (iD s2)], LI (ns ++ [v])) := by
  have m1 := mod_b (a := st * 48271 + 7 * j + 11) (m := 2147483647) (by decide)
  generalize hs2 : (st * 48271 + 7 * j + 11).fmod 2147483647 = s2 at m1
  have m2 := mod_b (a := (s2 * 69621 + j).fmod 2147483629) (m := 1009) (by decide)
  refine ⟨s2, ((s2 * 69621 + j).fmod 2147483629).fmod 1009, m1.1, m1.2, m2.1, m2.2, ?_⟩
  have g1 : mulOk st 48271 = true := mul_ok (by omega) (by decide)
  have g2 : mulOk 7 j = true := mul_ok (by decide) (by omega)
  have g3 : mulOk s2 69621 = true := mul_ok (by omega) (by decide)
  unfold b2
  simp [binP, biP, guardO, g1, g2, g3, hs2, h]
theorem loop2 {ok : Store → Bool} (hok : ∀ N, ok N = true) : ∀ (items : List Int) {x0 x2 x3 x4 : Option D} {st : Int} {ns : List Int}, ns.length + items.length ≤ 1000000 → (∀ j ∈ items, 0 ≤ j ∧ j < 100) → 0 ≤ st ∧ st < 2147483647 → Small ns →
    ∃ y0 y2 y3 y4 y5 ns', forL [false, true, false, false, false, true] 1 (forStep G (.s 4) b2) ok (items.map iD) [x0, some (.ref 0), x2, x3, x4, some (iD st)] (LI ns) = some (.nx, [y0, some (.ref 0), y2, y3, y4, y5], LI ns') ∧ ns'.length ≤ ns.length + items.length ∧ Small ns'
  | [], x0, x2, x3, x4, st, ns, hl, hj, hr, hs => ⟨x0, x2, x3, x4, _, ns, rfl, by simp, hs⟩
  | i :: items, x0, x2, x3, x4, st, ns, hl, hj, hr, hs => by
    have hlt : ns.length < LIM := by
      have : LIM = 16777216 := rfl
      omega
    obtain ⟨s2, v, h1, h2, h3, h4, e⟩ := turn2 (G := G) (x0 := x0) (x2 := x2) (x3 := x3) (j := i) hlt hr (hj i List.mem_cons_self)
    have hs2 : Small (ns ++ [v]) := hs.snoc h3 h4
    have hl2 : (ns ++ [v]).length = ns.length + 1 := by simp
    have hl3 : (i :: items).length = items.length + 1 := rfl
    have stt : forStep G (.s 4) b2 (iD i) [x0, some (.ref 0), x2, x3, x4, some (iD st)] (LI ns) = evS G b2 [x0, some (.ref 0), x2, x3, some (iD i), some (iD st)] (LI ns) := by
      simp [forStep]
    obtain ⟨y0, y2, y3, y4, y5, ns', e2, g2, g3⟩ := loop2 hok items (x0 := none) (x2 := none) (x3 := none) (x4 := none) (st := s2) (ns := ns ++ [v]) (by omega) (fun j hjm => hj j (List.mem_cons_of_mem _ hjm)) ⟨h1, h2⟩ hs2
    refine ⟨y0, y2, y3, y4, y5, ns', ?_, by omega, g3⟩
    rw [List.map_cons]
    unfold forL
    rw [stt, e]
    show (if ok _ = true then tidy _ 1 _ _ _ else none) = _
    rw [if_pos (hok _), tidy_eq, tidyS_LI (by rfl)]
    exact e2
theorem rangeL_map (n : Nat) : rangeL 0 n = ((List.range n).map fun (i : Nat) => (i : Int)).map iD := by
  unfold rangeL
  rw [List.map_map]
  congr 1
  funext i
  show D.v (.int (0 + (i : Int))) = D.v (.int (i : Int))
  rw [Int.zero_add]
def b3 : S := (.seq (.asg 3 (.bi .abs (.cons (.bi .int (.cons (.v 2) .nil)) .nil)))
 (.seq (.ite (.cmp .GtE (.v 3) (.bin .Pow (.k (.int 10)) (.k (.int 18))))
 (.seq (.for_ [false, true, false, true, false, false] (.s 4) .range (.cons (.k (.int 60)) .nil) b1)
 .skip)
 (.seq (.asg 5 (.bin .Mod (.bi .int (.cons (.v 3) .nil)) (.k (.int 2147483647))))
 (.seq (.for_ [false, true, false, false, false, true] (.s 4) .range (.cons (.k (.int 10)) .nil) b2)
 .skip)))
 .skip))
theorem turn3 {x0 x3 x4 x5 : Option D} {cell : Int} {ns : List Int} (h : ns.length ≤ 900000) (hs : Small ns) :
    ∃ y0 y2 y3 y4 y5 ns', evS G b3 [x0, some (.ref 0), some (iD cell), x3, x4, x5] (LI ns) = some (.nx, [y0, some (.ref 0), y2, y3, y4, y5], LI ns') ∧ ns'.length ≤ ns.length + 60 ∧ Small ns' := by
  have ha : (0 : Int) ≤ (if cell < 0 then -cell else cell) := by split <;> omega
  generalize hr : (if cell < 0 then -cell else cell) = rest at ha
  have hp : shOk 10 18 = true := by decide +kernel
  by_cases hb : (1000000000000000000 : Int) ≤ rest
  · obtain ⟨y0, y2, y3, y4, y5, ns', e, h1, h2⟩ := loop1 (G := G) (ok := stays [] (LI ns)) (fun _ => rfl) ((List.range 60).map fun (i : Nat) => (i : Int)) (x0 := x0) (x2 := some (iD cell)) (x4 := x4) (x5 := x5) (rest := rest) (ns := ns) (by simp; omega) ha hs
    refine ⟨y0, y2, y3, y4, y5, ns', ?_, by simpa using h1, h2⟩
    rw [← rangeL_map] at e
    have ei : itemsOf .range [iD 60] (LI ns) = some (rangeL 0 60, []) := by rfl
    unfold b3
    simp [biP, binP, cmpB, guardO, hr, hp, ei, hb, forK, e]
  · have m1 := mod_b (a := rest) (m := 2147483647) (by decide)
    obtain ⟨y0, y2, y3, y4, y5, ns', e, h1, h2⟩ := loop2 (G := G) (ok := stays [] (LI ns)) (fun _ => rfl) ((List.range 10).map fun (i : Nat) => (i : Int)) (x0 := x0) (x2 := some (iD cell)) (x3 := some (iD rest)) (x4 := x4) (st := rest.fmod 2147483647) (ns := ns) (by simp; omega) (fun j hj => by
      obtain ⟨i, hi, rfl⟩ := List.mem_map.mp hj
      have := List.mem_range.mp hi
      omega) m1 hs
    have h1 : ns'.length ≤ ns.length + 10 := by simpa using h1
    refine ⟨y0, y2, y3, y4, y5, ns', ?_, by omega, h2⟩
    rw [← rangeL_map] at e
    have ei : itemsOf .range [iD 10] (LI ns) = some (rangeL 0 10, []) := by rfl
    unfold b3
    simp [biP, binP, cmpB, guardO, hr, hp, ei, hb, forK, e]
theorem loop3 {ok : Store → Bool} (hok : ∀ N, ok N = true) : ∀ (items : List Int) {x0 x2 x3 x4 x5 : Option D} {ns : List Int}, ns.length + 60 * items.length ≤ 900000 → Small ns →
    ∃ y0 y2 y3 y4 y5 ns', forL [false, true, false, false, false, false] 1 (forStep G (.s 2) b3) ok (items.map iD) [x0, some (.ref 0), x2, x3, x4, x5] (LI ns) = some (.nx, [y0, some (.ref 0), y2, y3, y4, y5], LI ns') ∧ ns'.length ≤ ns.length + 60 * items.length ∧ Small ns'
  | [], x0, x2, x3, x4, x5, ns, hl, hs => ⟨x0, x2, x3, x4, x5, ns, rfl, by simp, hs⟩
  | i :: items, x0, x2, x3, x4, x5, ns, hl, hs => by
    have hl3 : (i :: items).length = items.length + 1 := rfl
    obtain ⟨z0, z2, z3, z4, z5, ns2, e, h1, h2⟩ := turn3 (G := G) (x0 := x0) (x3 := x3) (x4 := x4) (x5 := x5) (cell := i) (ns := ns) (by omega) hs
    have stt : forStep G (.s 2) b3 (iD i) [x0, some (.ref 0), x2, x3, x4, x5] (LI ns) = evS G b3 [x0, some (.ref 0), some (iD i), x3, x4, x5] (LI ns) := by
      simp [forStep]
    obtain ⟨y0, y2, y3, y4, y5, ns', e2, g2, g3⟩ := loop3 hok items (x0 := none) (x2 := none) (x3 := none) (x4 := none) (x5 := none) (ns := ns2) (by omega) h2
    refine ⟨y0, y2, y3, y4, y5, ns', ?_, by omega, g3⟩
    rw [List.map_cons]
    unfold forL
    rw [stt, e]
    show (if ok _ = true then tidy _ 1 _ _ _ else none) = _
    rw [if_pos (hok _), tidy_eq, tidyS_LI (by rfl)]
    exact e2
theorem d_stream_eq : d_stream = ⟨1, 6, (.seq (.asg 1 (.lst true .nil)) (.seq (.for_ [false, true, false, false, false, false] (.s 2) .plain (.cons (.sl (.v 0) .nil (.cons (.k (.int 63)) .nil)) .nil) b3)
 (.seq (.ite (.cmp .Eq (.bi .len (.cons (.v 1) .nil)) (.k (.int 0)))
 (.seq (.app (.v 1) (.k (.int 0)))
 .skip)
 .skip)
 (.seq (.ret (.frz (.v 1)))
 .skip))))⟩ := rfl
/-- what the stream is -/
structure Stream (nums : List Int) : Prop where
  ne : nums ≠ []
  small : Small nums
  len : nums.length ≤ 4000
theorem cut_len {α : Type} (xs : List α) (lo hi : Option Int) : (cut xs lo hi).length ≤ xs.length := by
  unfold cut
  rw [List.length_take, List.length_drop]
  omega
theorem stream_spec (hP : P.defs "_law_stream" = some d_stream) (is : List Int) (hl : is.length ≤ 63) : ∃ nums, Stream nums ∧ callK P loopAny (k + 1) "_law_stream" [.scr is] [] = some (.ok (.v (.list (nums.map .int))), []) := by
  have hc := cut_len is none (some 63)
  obtain ⟨y0, y2, y3, y4, y5, ns', e, h1, h2⟩ := loop3 (G := ⟨callK P loopAny k, P.glob, loopAny⟩) (ok := stays [] (LI [])) (fun _ => rfl) (cut is none (some 63)) (x0 := some (.scr is)) (x2 := none) (x3 := none) (x4 := none) (x5 := none) (ns := []) (by simp; omega) (fun x hx => nomatch hx)
  have h1 : ns'.length ≤ 60 * (cut is none (some 63)).length := by simpa using h1
  have e0 : (LI [] : Store) = [some (.lst [])] := rfl
  have ei : itemsOf .plain [D.v (.list ((cut is none (some 63)).map .int))] (LI []) = some ((cut is none (some 63)).map iD, []) := by
    show some (((cut is none (some 63)).map PyData.int).map D.v, []) = _
    rw [List.map_map]
    rfl
  by_cases hz : ns' = []
  · subst hz
    refine ⟨[0], ⟨by simp, fun x hx => by simp at hx; subst hx; decide, by simp⟩, ?_⟩
    have hv : view (LI [0]) (.ref 0) = some (.list [.int 0]) := pure_LI
    have hn : view (LI []) (.ref 0) = some (.list []) := pure_LI
    unfold callK
    rw [hP, d_stream_eq]
    unfold runDef
    simp [← e0, slD, ei, forK, e, biG_c hn, biP, cmpB, guardO, LIM, hv, leave, below, cellsBelow, refsD]
  · have hpos : 0 < ns'.length := List.length_pos_iff.mpr hz
    have hne : ¬ ((ns'.length : Int) = 0) := by omega
    refine ⟨ns', ⟨hz, h2, by omega⟩, ?_⟩
    have hv : view (LI ns') (.ref 0) = some (.list (ns'.map .int)) := pure_LI
    unfold callK
    rw [hP, d_stream_eq]
    unfold runDef
    simp [← e0, slD, ei, forK, e, biG_c hv, biP, cmpB, guardO, LIM, hv, hne, hz, leave, below, cellsBelow, refsD]
/-! ### draws -/
/-- the state: the stream and the turn -/
def SC (nums : List Int) (c : Int) : List D := [.v (.list (nums.map .int)), iD c]
theorem SC_refs (nums : List Int) (c : Int) : refsDs (SC nums c) = [] := rfl
theorem next_spec (hP : P.defs "_law_next" = some d_next) {nums : List Int} (hs : Stream nums) {c m : Int} (hc : 0 ≤ c) (hc2 : c < 1000000) (hm : 0 < m) : ∃ v, 0 ≤ v ∧ v < m ∧
    callK P loopAny (k + 1) "_law_next" [.ref 0, iD m] [some (.lst (SC nums c))] = some (.ok (iD v), [some (.lst (SC nums (c + 1)))]) := by
  have hlen : 0 < nums.length := List.length_pos_iff.mpr hs.ne
  have hl2 := hs.len
  have hl0 : ((nums.length : Nat) : Int) ≠ 0 := by omega
  have hd : divOk (nums.length : Int) = true := by
    unfold divOk
    have : nums.length.log2 < 12 := (Nat.log2_lt (by omega)).mpr (Nat.lt_of_le_of_lt hl2 (by decide))
    have h2 : nums.length.log2 < 9000 := by omega
    simp [hs.ne, h2]
  have hi := mod_b (a := c + 1) (m := (nums.length : Int)) (by omega)
  have ht : (c + 1).fdiv (nums.length : Int) = (c + 1) / (nums.length : Int) := Int.fdiv_eq_ediv_of_nonneg _ (by omega)
  have ht0 : 0 ≤ (c + 1) / (nums.length : Int) := Int.ediv_nonneg (by omega) (by omega)
  have ht1 : (c + 1) / (nums.length : Int) ≤ c + 1 := Int.ediv_le_self _ (by omega)
  obtain ⟨j, hj⟩ : ∃ j : Nat, (c + 1).fmod (nums.length : Int) = (j : Int) := ⟨((c + 1).fmod (nums.length : Int)).toNat, by omega⟩
  have hjl : j < nums.length := by omega
  have ha : L2.atI (nums.map PyData.int) ((c + 1).fmod (nums.length : Int)) = some (.int nums[j]) := by
    rw [hj]
    refine L2.atI_nat ?_
    rw [List.getElem?_map, List.getElem?_eq_getElem hjl]
    rfl
  generalize hT : (c + 1).fdiv (nums.length : Int) = T at ht
  have g1 : mulOk T 389 = true := mul_ok (by omega) (by decide)
  have g2 : mulOk (c + 1) T = true := mul_ok (by omega) (by omega)
  have hsq : ((c + 1) * T).natAbs < 2 ^ 64 := by
    rw [Int.natAbs_mul]
    have h1 : (c + 1).natAbs < 2 ^ 32 := by omega
    have h2 : T.natAbs < 2 ^ 32 := by omega
    exact Nat.lt_of_lt_of_le (Nat.mul_lt_mul'' h1 h2) (by decide)
  have g3 : mulOk ((c + 1) * T) 17 = true := mul_ok hsq (by decide)
  have hv := mod_b (a := nums[j] + T * 389 + (c + 1) * T * 17) (m := m) hm
  refine ⟨_, hv.1, hv.2, ?_⟩
  have s1 : ∀ (c : Int), subG (.ref 0) (.v (.int 1)) [some (.lst (SC nums c))] = some (.ok (iD c), [some (.lst (SC nums c))]) := fun c => by
    rw [subG_c (xs := SC nums c) rfl]
    rfl
  have s0 : ∀ (c : Int), subG (.ref 0) (.v (.int 0)) [some (.lst (SC nums c))] = some (.ok (.v (.list (nums.map .int))), [some (.lst (SC nums c))]) := fun c => by
    rw [subG_c (xs := SC nums c) rfl]
    rfl
  have w1 : putIx [some (.lst (SC nums c))] (.ref 0) (.v (.int 1)) (iD (c + 1)) = some [some (.lst (SC nums (c + 1)))] := rfl
  have hm0 : ¬ m = 0 := by omega
  have hlv : ∀ x : PyData, leave 1 (.ok (.v x)) [some (.lst (SC nums (c + 1)))] = some (.ok (.v x), [some (.lst (SC nums (c + 1)))]) := fun x => by
    unfold leave
    split <;> rfl
  unfold callK
  rw [hP]
  unfold d_next runDef
  simp [s1, s0, w1, binP, biP, guardO, hd, hT, ha, g1, g2, g3, hm0, hs.ne, hlv]
/-- the store of the law's frame: the state alone -/
def ST (nums : List Int) (c : Int) : Store := [some (.lst (SC nums c))]
@[simp] theorem len_ST {nums : List Int} {c : Int} : List.length (ST nums c) = 1 := rfl
@[simp] theorem leave_ST {nums : List Int} {c : Int} {x : PyData} : leave 1 (.ok (.v x)) (ST nums c) = some (.ok (.v x), ST nums c) := by
  unfold leave
  split <;> rfl
theorem tidyS_ST {live : List Bool} {σ : Slots} {nums : List Int} {c : Int} (h : (refsS (keepS live σ)).all (· < 1) = true) : tidyS live 1 σ (ST nums c) = ST nums c := by
  unfold tidyS
  rw [h]
  split
  · rfl
  · rfl
/-- a def that reads the state and moves it on -/
theorem callX_ST {f : List D → Store → R D} {nums : List Int} {c c' : Int} {ps : List PyData} {p : PyData} (h : f (.ref 0 :: ps.map .v) (ST nums c) = some (.ok (.v p), ST nums c')) : callX f (.ref 0 :: ps.map .v) (ST nums c) = some (.ok (.v p), ST nums c') := by
  have hr : ∀ ps : List PyData, refsDs (ps.map D.v) = [] := fun ps => by
    induction ps with
    | nil => rfl
    | cons a r ih => simpa [refsDs, refsD] using ih
  have hm : ∀ ps : List PyData, (ps.map D.v).map (mapD [0].idxOf) = ps.map D.v := fun ps => mapD_pure (hr ps)
  have := callX_1 (f := f) (ds := .ref 0 :: ps.map .v) (ds' := .ref 0 :: ps.map .v) (xs := SC nums c) (xs' := SC nums c') (r := 0) (M := ST nums c) (p := p) (by
    have := hr ps
    show [0] ++ refsDs (ps.map D.v) = _
    rw [this]
    rfl) rfl (SC_refs nums c) (by rw [List.map_cons, hm]; simp [mapD]) h (SC_refs nums c')
  exact this
theorem next_call (hP : P.defs "_law_next" = some d_next) {nums : List Int} (hs : Stream nums) {c m : Int} (hc : 0 ≤ c) (hc2 : c < 1000000) (hm : 0 < m) : ∃ v, 0 ≤ v ∧ v < m ∧
    callX (callK P loopAny (k + 1) "_law_next") [.ref 0, .v (.int m)] (ST nums c) = some (.ok (.v (.int v)), ST nums (c + 1)) := by
  obtain ⟨v, h1, h2, e⟩ := next_spec (k := k) hP hs hc hc2 hm
  exact ⟨v, h1, h2, callX_ST (ps := [.int m]) e⟩
theorem items_range_eq (x : D) (M : Store) : itemsOf .range [x] M = range1Of x := rfl
theorem range1_of {i : Int} (h1 : inR i = true) (h2 : i ≤ ((LIM : Nat) : Int)) : range1Of (.v (.int i)) = some (rangeL 0 i.toNat, []) := by
  unfold range1Of guardO
  simp only [h1, h2, decide_true, Bool.and_self, if_true]
theorem inR_of {i : Int} (h0 : -1000000000 ≤ i) (h : i ≤ 1000000000) : inR i = true := by
  unfold inR
  rw [decide_eq_true (show (-(2 ^ 62) : Int) ≤ i by omega), decide_eq_true (show i < 2 ^ 62 by omega)]
  rfl
theorem items_range {n : Nat} (h : n ≤ 1000000) (M : Store) : itemsOf .range [.v (.int (n : Int))] M = some (rangeL 0 n, []) := by
  rw [items_range_eq, range1_of (inR_of (by omega) (by omega)) (by
    have : LIM = 16777216 := rfl
    omega), Int.toNat_natCast]
end Ev

set_option maxRecDepth 100000
set_option maxHeartbeats 0
namespace K01
open PySem PySem.Spec PyProof.Rows L2 Ev
abbrev R : PySem.W.OpenRow := PySem.W.OpenLaw.row PySem.Challenge.rw_fewasked_k01_ratios
def d_L_stream : Def := ⟨1, 6, (.seq (.asg 1 (.lst true .nil))
 (.seq (.for_ [false, true, false, false, false, false] (.s 2) .plain (.cons (.sl (.v 0) .nil (.cons (.k (.int 63)) .nil)) .nil)
 (.seq (.asg 3 (.bi .abs (.cons (.bi .int (.cons (.v 2) .nil)) .nil)))
 (.seq (.ite (.cmp .GtE (.v 3) (.bin .Pow (.k (.int 10)) (.k (.int 18))))
 (.seq (.for_ [false, true, false, true, false, false] (.s 4) .range (.cons (.k (.int 60)) .nil)
 (.seq (.app (.v 1) (.bin .Mod (.bi .int (.cons (.v 3) .nil)) (.k (.int 1009))))
 (.seq (.asg 3 (.bin .FloorDiv (.v 3) (.k (.int 1009))))
 (.seq (.ite (.cmp .Eq (.v 3) (.k (.int 0)))
 (.seq .brk
 .skip)
 .skip)
 .skip))))
 .skip)
 (.seq (.asg 5 (.bin .Mod (.bi .int (.cons (.v 3) .nil)) (.k (.int 2147483647))))
 (.seq (.for_ [false, true, false, false, false, true] (.s 4) .range (.cons (.k (.int 10)) .nil)
 (.seq (.asg 5 (.bin .Mod (.bi .int (.cons (.bin .Add (.bin .Add (.bin .Mult (.v 5) (.k (.int 48271))) (.bin .Mult (.k (.int 7)) (.v 4))) (.k (.int 11))) .nil)) (.k (.int 2147483647))))
 (.seq (.app (.v 1) (.bin .Mod (.bin .Mod (.bi .int (.cons (.bin .Add (.bin .Mult (.v 5) (.k (.int 69621))) (.v 4)) .nil)) (.k (.int 2147483629))) (.k (.int 1009))))
 .skip)))
 .skip)))
 .skip)))
 (.seq (.ite (.cmp .Eq (.bi .len (.cons (.v 1) .nil)) (.k (.int 0)))
 (.seq (.app (.v 1) (.k (.int 0)))
 .skip)
 .skip)
 (.seq (.ret (.frz (.v 1)))
 .skip))))⟩
def n_L_stream : List PySem.Str := ["script", "numbers", "cell", "rest", "k", "stirred"]
def d_L_divisor : Def := ⟨2, 2, (.seq (.asg 0 (.bi .max (.cons (.v 0) (.cons (.bin .Sub (.k (.int 0)) (.v 0)) .nil))))
 (.seq (.asg 1 (.bi .max (.cons (.v 1) (.cons (.bin .Sub (.k (.int 0)) (.v 1)) .nil))))
 (.seq (.while_ [true, true] (.cmp .Gt (.v 1) (.k (.int 0)))
 (.seq (.par (.cons (.s 0) (.cons (.s 1) .nil)) (.cons (.v 1) (.cons (.bin .Mod (.bi .int (.cons (.v 0) .nil)) (.v 1)) .nil)))
 .skip))
 (.seq (.ret (.v 0))
 .skip))))⟩
def n_L_divisor : List PySem.Str := ["first", "second"]
def d_L_ratio : Def := ⟨2, 3, (.seq (.asg 2 (.call "_law_divisor" (.cons (.v 0) (.cons (.v 1) .nil))))
 (.seq (.ite (.cmp .Lt (.v 1) (.k (.int 0)))
 (.seq (.asg 2 (.bin .Sub (.k (.int 0)) (.v 2)))
 .skip)
 .skip)
 (.seq (.ret (.tup (.cons (.bin .FloorDiv (.v 0) (.v 2)) (.cons (.bin .FloorDiv (.v 1) (.v 2)) .nil))))
 .skip)))⟩
def n_L_ratio : List PySem.Str := ["top", "below", "common"]
def d_L_next : Def := ⟨2, 3, (.seq (.store (.v 0) (.k (.int 1)) (.bin .Add (.sub (.v 0) (.k (.int 1))) (.k (.int 1))))
 (.seq (.asg 2 (.bin .FloorDiv (.sub (.v 0) (.k (.int 1))) (.bi .len (.cons (.sub (.v 0) (.k (.int 0))) .nil))))
 (.seq (.ret (.bin .Mod (.bi .int (.cons (.bin .Add (.bin .Add (.sub (.sub (.v 0) (.k (.int 0))) (.bin .Mod (.sub (.v 0) (.k (.int 1))) (.bi .len (.cons (.sub (.v 0) (.k (.int 0))) .nil)))) (.bin .Mult (.v 2) (.k (.int 389)))) (.bin .Mult (.bin .Mult (.sub (.v 0) (.k (.int 1))) (.v 2)) (.k (.int 17)))) .nil)) (.v 1)))
 .skip)))⟩
def n_L_next : List PySem.Str := ["state", "many", "turn"]
def d_L_drawn : Def := ⟨1, 2, (.seq (.asg 1 (.bin .Sub (.call "_law_next" (.cons (.v 0) (.cons (.k (.int 400)) .nil))) (.k (.int 200))))
 (.seq (.ret (.call "_law_ratio" (.cons (.bin .Mult (.v 1) (.sub (.lst false (.cons (.k (.int 1)) (.cons (.bin .Pow (.k (.int 10)) (.k (.int 6))) .nil))) (.bi .int (.cons (.cmp .Eq (.call "_law_next" (.cons (.v 0) (.cons (.k (.int 5)) .nil))) (.k (.int 0))) .nil)))) (.cons (.bin .Add (.k (.int 1)) (.call "_law_next" (.cons (.v 0) (.cons (.k (.int 60)) .nil)))) .nil))))
 .skip))⟩
def n_L_drawn : List PySem.Str := ["state", "top"]
def d_L_same : Def := ⟨2, 2, (.seq (.ret (.cmp .Eq (.bi .repr (.cons (.lst false (.cons (.v 0) .nil)) .nil)) (.bi .repr (.cons (.lst false (.cons (.v 1) .nil)) .nil))))
 .skip)⟩
def n_L_same : List PySem.Str := ["told", "due"]
def d_L_plus : Def := ⟨2, 2, (.seq (.ret (.call "_law_ratio" (.cons (.bin .Add (.bin .Mult (.sub (.v 0) (.k (.int 0))) (.sub (.v 1) (.k (.int 1)))) (.bin .Mult (.sub (.v 1) (.k (.int 0))) (.sub (.v 0) (.k (.int 1))))) (.cons (.bin .Mult (.sub (.v 0) (.k (.int 1))) (.sub (.v 1) (.k (.int 1)))) .nil))))
 .skip)⟩
def n_L_plus : List PySem.Str := ["first", "second"]
def d_L_less : Def := ⟨2, 2, (.seq (.ret (.cmp .Lt (.bin .Mult (.sub (.v 0) (.k (.int 0))) (.sub (.v 1) (.k (.int 1)))) (.bin .Mult (.sub (.v 1) (.k (.int 0))) (.sub (.v 0) (.k (.int 1))))))
 .skip)⟩
def n_L_less : List PySem.Str := ["first", "second"]
def d_ratio_text : Def := ⟨1, 1, (.seq (.ret (.ifx (.cmp .Eq (.sub (.v 0) (.k (.int 1))) (.k (.int 1))) (.bi .str (.cons (.sub (.v 0) (.k (.int 0))) .nil)) (.fst (.cons (.fmt (.sub (.v 0) (.k (.int 0)))) (.cons (.k (.str "/")) (.cons (.fmt (.sub (.v 0) (.k (.int 1)))) .nil))))))
 .skip)⟩
def n_ratio_text : List PySem.Str := ["value"]
def d_divisor : Def := ⟨2, 2, (.seq (.par (.cons (.s 0) (.cons (.s 1) .nil)) (.cons (.bi .abs (.cons (.v 0) .nil)) (.cons (.bi .abs (.cons (.v 1) .nil)) .nil)))
 (.seq (.while_ [true, true] (.cmp .Gt (.v 1) (.k (.int 0)))
 (.seq (.par (.cons (.s 0) (.cons (.s 1) .nil)) (.cons (.v 1) (.cons (.bin .Mod (.v 0) (.v 1)) .nil)))
 .skip))
 (.seq (.ret (.v 0))
 .skip)))⟩
def n_divisor : List PySem.Str := ["first", "second"]
def d_ratio : Def := ⟨2, 3, (.seq (.ite (.cmp .Eq (.v 1) (.k (.int 0)))
 (.seq (.raise "NotAllowed" (.k (.str "there is a division by zero")))
 .skip)
 .skip)
 (.seq (.asg 2 (.call "divisor" (.cons (.v 0) (.cons (.v 1) .nil))))
 (.seq (.ite (.cmp .Lt (.v 1) (.k (.int 0)))
 (.seq (.asg 2 (.neg (.v 2)))
 .skip)
 .skip)
 (.seq (.ret (.tup (.cons (.bin .FloorDiv (.v 0) (.v 2)) (.cons (.bin .FloorDiv (.v 1) (.v 2)) .nil))))
 .skip))))⟩
def n_ratio : List PySem.Str := ["top", "below", "common"]
def d_is_ratio : Def := ⟨1, 1, (.seq (.ret (.and (.cons (.cmp .Eq (.bi .len (.cons (.v 0) .nil)) (.k (.int 2))) (.cons (.cmp .GtE (.sub (.v 0) (.k (.int 1))) (.k (.int 1))) (.cons (.cmp .Eq (.call "divisor" (.cons (.sub (.v 0) (.k (.int 0))) (.cons (.sub (.v 0) (.k (.int 1))) .nil))) (.k (.int 1))) .nil)))))
 .skip)⟩
def n_is_ratio : List PySem.Str := ["value"]
def d_added : Def := ⟨2, 2, (.seq (.ret (.call "ratio" (.cons (.bin .Add (.bin .Mult (.sub (.v 0) (.k (.int 0))) (.sub (.v 1) (.k (.int 1)))) (.bin .Mult (.sub (.v 1) (.k (.int 0))) (.sub (.v 0) (.k (.int 1))))) (.cons (.bin .Mult (.sub (.v 0) (.k (.int 1))) (.sub (.v 1) (.k (.int 1)))) .nil))))
 .skip)⟩
def n_added : List PySem.Str := ["first", "second"]
def d_negative : Def := ⟨1, 1, (.seq (.ret (.tup (.cons (.neg (.sub (.v 0) (.k (.int 0)))) (.cons (.sub (.v 0) (.k (.int 1))) .nil))))
 .skip)⟩
def n_negative : List PySem.Str := ["value"]
def d_times : Def := ⟨2, 2, (.seq (.ret (.call "ratio" (.cons (.bin .Mult (.sub (.v 0) (.k (.int 0))) (.sub (.v 1) (.k (.int 0)))) (.cons (.bin .Mult (.sub (.v 0) (.k (.int 1))) (.sub (.v 1) (.k (.int 1)))) .nil))))
 .skip)⟩
def n_times : List PySem.Str := ["first", "second"]
def d_less : Def := ⟨2, 2, (.seq (.ret (.cmp .Lt (.bin .Mult (.sub (.v 0) (.k (.int 0))) (.sub (.v 1) (.k (.int 1)))) (.bin .Mult (.sub (.v 1) (.k (.int 0))) (.sub (.v 0) (.k (.int 1))))))
 .skip)⟩
def n_less : List PySem.Str := ["first", "second"]
def d_over : Def := ⟨2, 2, (.seq (.ret (.call "ratio" (.cons (.bin .Mult (.sub (.v 0) (.k (.int 0))) (.sub (.v 1) (.k (.int 1)))) (.cons (.bin .Mult (.sub (.v 0) (.k (.int 1))) (.sub (.v 1) (.k (.int 0)))) .nil))))
 .skip)⟩
def n_over : List PySem.Str := ["first", "second"]
def d_greatest : Def := ⟨1, 3, (.seq (.asg 1 (.sub (.v 0) (.k (.int 0))))
 (.seq (.for_ [false, true, false] (.s 2) .plain (.cons (.sl (.v 0) (.cons (.k (.int 1)) .nil) .nil) .nil)
 (.seq (.asg 1 (.ifx (.call "less" (.cons (.v 1) (.cons (.v 2) .nil))) (.v 2) (.v 1)))
 .skip))
 (.seq (.ret (.v 1))
 .skip)))⟩
def n_greatest : List PySem.Str := ["values", "best", "value"]
def d_summed : Def := ⟨1, 3, (.seq (.asg 1 (.tup (.cons (.k (.int 0)) (.cons (.k (.int 1)) .nil))))
 (.seq (.for_ [false, true, false] (.s 2) .plain (.cons (.v 0) .nil)
 (.seq (.asg 1 (.call "added" (.cons (.v 1) (.cons (.v 2) .nil))))
 .skip))
 (.seq (.ret (.v 1))
 .skip)))⟩
def n_summed : List PySem.Str := ["values", "total", "value"]
def d_weighed : Def := ⟨2, 4, (.seq (.ret (.call "summed" (.cons (.comp false (.call "times" (.cons (.v 2) (.cons (.v 3) .nil))) (.tup (.cons (.s 2) (.cons (.s 3) .nil))) .zip (.cons (.v 0) (.cons (.v 1) .nil)) .nil) .nil)))
 .skip)⟩
def n_weighed : List PySem.Str := ["values", "others", "value", "other"]
def d_L_sum : Def := ⟨1, 3, (.seq (.asg 1 (.tup (.cons (.k (.int 0)) (.cons (.k (.int 1)) .nil))))
 (.seq (.for_ [false, true, false] (.s 2) .plain (.cons (.v 0) .nil)
 (.seq (.asg 1 (.call "_law_plus" (.cons (.v 1) (.cons (.v 2) .nil))))
 .skip))
 (.seq (.ret (.v 1))
 .skip)))⟩
def n_L_sum : List PySem.Str := ["values", "total", "value"]
def d_law : Def := ⟨1, 15, (.seq (.asg 1 (.lst true (.cons (.call "_law_stream" (.cons (.v 0) .nil)) (.cons (.k (.int 0)) .nil))))
 (.seq (.for_ [false, true, false, false, false, false, false, false, false, false, false, false, false, false, false] (.s 2) .range (.cons (.k (.int 12)) .nil)
 (.seq (.asg 3 (.bin .Sub (.call "_law_next" (.cons (.v 1) (.cons (.k (.int 900)) .nil))) (.k (.int 450))))
 (.seq (.asg 4 (.sub (.lst false (.cons (.bin .Add (.k (.int 1)) (.call "_law_next" (.cons (.v 1) (.cons (.k (.int 80)) .nil)))) (.cons (.bin .Sub (.bin .Sub (.k (.int 0)) (.k (.int 1))) (.call "_law_next" (.cons (.v 1) (.cons (.k (.int 80)) .nil)))) .nil))) (.call "_law_next" (.cons (.v 1) (.cons (.k (.int 2)) .nil)))))
 (.seq (.asg 5 (.call "_law_drawn" (.cons (.v 1) .nil)))
 (.seq (.asg 6 (.call "_law_drawn" (.cons (.v 1) .nil)))
 (.seq (.asg 7 (.comp false (.call "_law_drawn" (.cons (.v 1) .nil)) (.s 12) .range (.cons (.bin .Add (.k (.int 1)) (.call "_law_next" (.cons (.v 1) (.cons (.k (.int 5)) .nil)))) .nil) .nil))
 (.seq (.asg 8 (.comp false (.call "_law_drawn" (.cons (.v 1) .nil)) (.s 14) .plain (.cons (.v 7) .nil) .nil))
 (.seq (.ite (.not (.call "_law_same" (.cons (.lst false (.cons (.call "ratio" (.cons (.v 3) (.cons (.v 4) .nil))) (.cons (.call "is_ratio" (.cons (.v 5) .nil)) (.cons (.call "is_ratio" (.cons (.tup (.cons (.bin .Mult (.k (.int 2)) (.sub (.v 5) (.k (.int 0)))) (.cons (.bin .Mult (.k (.int 2)) (.sub (.v 5) (.k (.int 1)))) .nil))) .nil)) (.cons (.call "is_ratio" (.cons (.tup (.cons (.k (.int 1)) (.cons (.k (.int 0)) .nil))) .nil)) (.cons (.call "is_ratio" (.cons (.tup (.cons (.k (.int 3)) (.cons (.neg (.k (.int 1))) .nil))) .nil)) .nil)))))) (.cons (.lst false (.cons (.call "_law_ratio" (.cons (.v 3) (.cons (.v 4) .nil))) (.cons (.k (.bool true)) (.cons (.k (.bool false)) (.cons (.k (.bool false)) (.cons (.k (.bool false)) .nil)))))) .nil))))
 (.seq (.ret (.k (.bool false)))
 .skip)
 .skip)
 (.seq (.asg 9 (.lst false (.cons (.call "_law_plus" (.cons (.v 5) (.cons (.v 6) .nil))) (.cons (.tup (.cons (.bin .Sub (.k (.int 0)) (.sub (.v 5) (.k (.int 0)))) (.cons (.sub (.v 5) (.k (.int 1))) .nil))) (.cons (.call "_law_ratio" (.cons (.bin .Mult (.sub (.v 5) (.k (.int 0))) (.sub (.v 6) (.k (.int 0)))) (.cons (.bin .Mult (.sub (.v 5) (.k (.int 1))) (.sub (.v 6) (.k (.int 1)))) .nil))) (.cons (.call "_law_less" (.cons (.v 5) (.cons (.v 6) .nil))) .nil))))))
 (.seq (.ite (.not (.call "_law_same" (.cons (.lst false (.cons (.call "added" (.cons (.v 5) (.cons (.v 6) .nil))) (.cons (.call "negative" (.cons (.v 5) .nil)) (.cons (.call "times" (.cons (.v 5) (.cons (.v 6) .nil))) (.cons (.call "less" (.cons (.v 5) (.cons (.v 6) .nil))) .nil))))) (.cons (.v 9) .nil))))
 (.seq (.ret (.k (.bool false)))
 .skip)
 .skip)
 (.seq (.ite (.and (.cons (.cmp .NotEq (.sub (.v 6) (.k (.int 0))) (.k (.int 0))) (.cons (.not (.call "_law_same" (.cons (.call "over" (.cons (.v 5) (.cons (.v 6) .nil))) (.cons (.call "_law_ratio" (.cons (.bin .Mult (.sub (.v 5) (.k (.int 0))) (.sub (.v 6) (.k (.int 1)))) (.cons (.bin .Mult (.sub (.v 5) (.k (.int 1))) (.sub (.v 6) (.k (.int 0)))) .nil))) .nil)))) .nil)))
 (.seq (.ret (.k (.bool false)))
 .skip)
 .skip)
 (.seq (.asg 10 (.sub (.v 7) (.k (.int 0))))
 (.seq (.asg 11 (.tup (.cons (.k (.int 0)) (.cons (.k (.int 1)) .nil))))
 (.seq (.for_ [false, true, false, false, false, true, false, true, true, false, true, true, false, false, false] (.s 12) .range (.cons (.bi .len (.cons (.v 7) .nil)) .nil)
 (.seq (.asg 10 (.sub (.lst false (.cons (.v 10) (.cons (.sub (.v 7) (.v 12)) .nil))) (.bi .int (.cons (.call "_law_less" (.cons (.v 10) (.cons (.sub (.v 7) (.v 12)) .nil))) .nil))))
 (.seq (.asg 11 (.call "_law_plus" (.cons (.v 11) (.cons (.call "_law_ratio" (.cons (.bin .Mult (.sub (.sub (.v 7) (.v 12)) (.k (.int 0))) (.sub (.sub (.v 8) (.v 12)) (.k (.int 0)))) (.cons (.bin .Mult (.sub (.sub (.v 7) (.v 12)) (.k (.int 1))) (.sub (.sub (.v 8) (.v 12)) (.k (.int 1)))) .nil))) .nil))))
 .skip)))
 (.seq (.ite (.not (.call "_law_same" (.cons (.lst false (.cons (.call "greatest" (.cons (.v 7) .nil)) (.cons (.call "summed" (.cons (.v 7) .nil)) (.cons (.call "weighed" (.cons (.v 7) (.cons (.v 8) .nil))) .nil)))) (.cons (.lst false (.cons (.v 10) (.cons (.call "_law_sum" (.cons (.v 7) .nil)) (.cons (.v 11) .nil)))) .nil))))
 (.seq (.ret (.k (.bool false)))
 .skip)
 .skip)
 (.seq (.asg 13 (.bi .str (.cons (.sub (.v 5) (.k (.int 0))) .nil)))
 (.seq (.ite (.cmp .NotEq (.sub (.v 5) (.k (.int 1))) (.k (.int 1)))
 (.seq (.asg 13 (.bin .Add (.bin .Add (.v 13) (.k (.str "/"))) (.bi .str (.cons (.sub (.v 5) (.k (.int 1))) .nil))))
 .skip)
 .skip)
 (.seq (.ite (.not (.call "_law_same" (.cons (.call "ratio_text" (.cons (.v 5) .nil)) (.cons (.v 13) .nil))))
 (.seq (.ret (.k (.bool false)))
 .skip)
 .skip)
 .skip))))))))))))))))))
 (.seq (.ret (.k (.bool true)))
 .skip)))⟩
def n_law : List PySem.Str := ["script", "state", "turn", "top", "below", "one", "other", "rows", "more", "due", "best", "total", "k", "text", "row"]
abbrev top (i : Nat) : Stmt := R.prog.main.body.getD i (.Pass ⟨0, 0, 0, 0⟩)
def dd (x : PySem.Str) (i : Nat) : He.DefD := ⟨(x, none), x, x, defArgs (top i), defBody (top i), defScope (top i), [], []⟩
def prog : Prog := [(dd "_law_stream" 22, n_L_stream, d_L_stream),
  (dd "_law_divisor" 25, n_L_divisor, d_L_divisor),
  (dd "_law_ratio" 26, n_L_ratio, d_L_ratio),
  (dd "_law_next" 23, n_L_next, d_L_next),
  (dd "_law_drawn" 31, n_L_drawn, d_L_drawn),
  (dd "_law_same" 21, n_L_same, d_L_same),
  (dd "_law_plus" 27, n_L_plus, d_L_plus),
  (dd "_law_less" 29, n_L_less, d_L_less),
  (dd "ratio_text" 19, n_ratio_text, d_ratio_text),
  (dd "divisor" 8, n_divisor, d_divisor),
  (dd "ratio" 9, n_ratio, d_ratio),
  (dd "is_ratio" 10, n_is_ratio, d_is_ratio),
  (dd "added" 11, n_added, d_added),
  (dd "negative" 12, n_negative, d_negative),
  (dd "times" 13, n_times, d_times),
  (dd "less" 15, n_less, d_less),
  (dd "over" 14, n_over, d_over),
  (dd "greatest" 16, n_greatest, d_greatest),
  (dd "summed" 17, n_summed, d_summed),
  (dd "weighed" 18, n_weighed, d_weighed),
  (dd "_law_sum" 28, n_L_sum, d_L_sum),
  (dd "law" 32, n_law, d_law)]
def gls : List (PySem.Str × PyData) := []
def exs : List PySem.Str := ["NotAllowed"]
def loose : List PySem.Str := ["AskError", "NotAllowed", "TooLarge", "Missing", "BadForm", "Broken", "divisor", "ratio", "is_ratio", "added", "negative", "times", "over", "less", "greatest", "summed", "weighed", "ratio_text", "_law_same", "_law_stream", "_law_next", "_law_told", "_law_divisor", "_law_ratio", "_law_plus", "_law_sum", "_law_less", "_law_is_ratio", "_law_drawn"]
-- law index 32
end K01

set_option maxRecDepth 100000
namespace K01
open PySem Ev
variable {P : Pr} {k : Nat}
/-! ### guards -/
theorem log2_lt {n k : Nat} (h : n < 2 ^ k) (hk : 0 < k) : n.log2 < k := by
  by_cases h0 : n = 0
  · subst h0
    simpa using hk
  · exact (Nat.log2_lt h0).mpr h
theorem mulOk_of {i j : Int} {n m : Nat} (hi : i.natAbs < 2 ^ n) (hj : j.natAbs < 2 ^ m) (hn : 0 < n) (hm : 0 < m) (h : n + m ≤ 900000) : mulOk i j = true := by
  unfold mulOk
  have := log2_lt hi hn
  have := log2_lt hj hm
  exact decide_eq_true (by omega)
theorem divOk_of {j : Int} {n : Nat} (h0 : j ≠ 0) (hj : j.natAbs < 2 ^ n) (hn : 0 < n) (h : n ≤ 9000) : divOk j = true := by
  unfold divOk
  have := log2_lt hj hn
  simp [h0]
  omega
/-! ### ratios -/
abbrev Q := Int × Int
def rt (q : Q) : PyData := .tuple [.int q.1, .int q.2]
def red (t b : Int) : Q := (t.fdiv (if b < 0 then -(Nat.gcd t.natAbs b.natAbs : Int) else (Nat.gcd t.natAbs b.natAbs : Int)), b.fdiv (if b < 0 then -(Nat.gcd t.natAbs b.natAbs : Int) else (Nat.gcd t.natAbs b.natAbs : Int)))
theorem gcd_pos {t b : Int} (h : b ≠ 0) : 0 < Nat.gcd t.natAbs b.natAbs := Nat.gcd_pos_of_pos_right _ (by omega)
theorem fmod_nat {a m : Nat} : (a : Int).fmod (m : Int) = ((a % m : Nat) : Int) := by
  rw [Int.fmod_eq_emod_of_nonneg _ (by omega)]
  rfl
theorem gcd_runs : ∀ (n : Nat) (a m : Nat), m ≤ n → ∀ G, Runs [true, true] 0 (evE G (.cmp .Gt (.v 1) (.k (.int 0)))) (evS G (.seq (.par (.cons (.s 0) (.cons (.s 1) .nil)) (.cons (.v 1) (.cons (.bin .Mod (.v 0) (.v 1)) .nil))) .skip)) [some (.v (.int a)), some (.v (.int m))] [] (.nx, [some (.v (.int (Nat.gcd a m))), some (.v (.int 0))], []) := by
  intro n
  induction n with
  | zero =>
    intro a m h G
    have : m = 0 := by omega
    subst this
    rw [Nat.gcd_zero_right]
    exact Runs.stop (by simp [cmpB])
  | succ n ih =>
    intro a m h G
    by_cases hm : m = 0
    · subst hm
      rw [Nat.gcd_zero_right]
      exact Runs.stop (by simp [cmpB])
    · have hlt := Nat.mod_lt a (Nat.pos_of_ne_zero hm)
      refine Runs.turn (σ2 := [some (.v (.int (m : Int))), some (.v (.int ((a % m : Nat) : Int)))]) (M1 := []) (M2 := []) ?_ ?_ ?_
      · simp [cmpB]
        omega
      · have h0 : (m : Int) ≠ 0 := by omega
        simp [binP, guardO, fmod_nat, hm]
      · have := ih m (a % m) (by omega) G
        rw [Nat.gcd_comm a m, Nat.gcd_rec m a, Nat.gcd_comm (a % m) m]
        exact this
theorem gcd_runsL : ∀ (n : Nat) (a m : Nat), m ≤ n → ∀ G, Runs [true, true] 0 (evE G (.cmp .Gt (.v 1) (.k (.int 0)))) (evS G (.seq (.par (.cons (.s 0) (.cons (.s 1) .nil)) (.cons (.v 1) (.cons (.bin .Mod (.bi .int (.cons (.v 0) .nil)) (.v 1)) .nil))) .skip)) [some (.v (.int a)), some (.v (.int m))] [] (.nx, [some (.v (.int (Nat.gcd a m))), some (.v (.int 0))], []) := by
  intro n
  induction n with
  | zero =>
    intro a m h G
    have : m = 0 := by omega
    subst this
    rw [Nat.gcd_zero_right]
    exact Runs.stop (by simp [cmpB])
  | succ n ih =>
    intro a m h G
    by_cases hm : m = 0
    · subst hm
      rw [Nat.gcd_zero_right]
      exact Runs.stop (by simp [cmpB])
    · have hlt := Nat.mod_lt a (Nat.pos_of_ne_zero hm)
      refine Runs.turn (σ2 := [some (.v (.int (m : Int))), some (.v (.int ((a % m : Nat) : Int)))]) (M1 := []) (M2 := []) ?_ ?_ ?_
      · simp [cmpB]
        omega
      · have h0 : (m : Int) ≠ 0 := by omega
        simp [binP, biP, guardO, fmod_nat, hm]
      · have := ih m (a % m) (by omega) G
        rw [Nat.gcd_comm a m, Nat.gcd_rec m a, Nat.gcd_comm (a % m) m]
        exact this
theorem divisor_spec (hP : P.defs "divisor" = some d_divisor) (a b : Int) : callK P loopAny (k + 1) "divisor" [.v (.int a), .v (.int b)] [] = some (.ok (.v (.int (Nat.gcd a.natAbs b.natAbs))), []) := by
  have h := Runs.loop (M := []) (gcd_runs b.natAbs a.natAbs b.natAbs (Nat.le_refl _) ⟨callK P loopAny k, P.glob, loopAny⟩)
  have ha : (if a < 0 then -a else a) = (a.natAbs : Int) := by omega
  have hb : (if b < 0 then -b else b) = (b.natAbs : Int) := by omega
  unfold callK
  rw [hP]
  unfold d_divisor runDef
  simp [biP, ha, hb, h, leave, below, cellsBelow, refsD]
theorem Ldivisor_spec (hP : P.defs "_law_divisor" = some d_L_divisor) (a b : Int) : callK P loopAny (k + 1) "_law_divisor" [.v (.int a), .v (.int b)] [] = some (.ok (.v (.int (Nat.gcd a.natAbs b.natAbs))), []) := by
  have h := Runs.loop (M := []) (gcd_runsL b.natAbs a.natAbs b.natAbs (Nat.le_refl _) ⟨callK P loopAny k, P.glob, loopAny⟩)
  have ha : (if 0 - a > a then 0 - a else a) = (a.natAbs : Int) := by omega
  have hb : (if 0 - b > b then 0 - b else b) = (b.natAbs : Int) := by omega
  unfold callK
  rw [hP]
  unfold d_L_divisor runDef
  simp only [gt_iff_lt] at ha hb
  simp [biP, binP, ha, hb, h, leave, below, cellsBelow, refsD, -Int.zero_sub]
theorem c_ok {t b : Int} {n : Nat} (h : b ≠ 0) (hb : b.natAbs < 2 ^ n) (hn : 0 < n) (h9 : n ≤ 9000) : divOk (if b < 0 then -(Nat.gcd t.natAbs b.natAbs : Int) else (Nat.gcd t.natAbs b.natAbs : Int)) = true := by
  have h1 := gcd_pos (t := t) h
  have h2 : Nat.gcd t.natAbs b.natAbs ≤ b.natAbs := Nat.gcd_le_right _ (by omega)
  refine divOk_of (n := n) ?_ ?_ hn h9
  · split <;> omega
  · split <;> omega
theorem ratio_spec (h1 : P.defs "divisor" = some d_divisor) (h2 : P.defs "ratio" = some d_ratio) {t b : Int} {n : Nat} (h : b ≠ 0) (hb : b.natAbs < 2 ^ n) (hn : 0 < n) (h9 : n ≤ 9000) : callK P loopAny (k + 2) "ratio" [.v (.int t), .v (.int b)] [] = some (.ok (.v (rt (red t b))), []) := by
  have e1 := fun M => callX_v (M := M) (by rfl) (divisor_spec (k := k) h1 t b)
  have e2 := c_ok (t := t) h hb hn h9
  unfold callK
  rw [h2]
  unfold d_ratio runDef
  have h3 : ¬ (b = 0) := h
  by_cases hlt : b < 0
  · rw [if_pos hlt] at e2
    simp [cmpB, eqOk, PyData.canLay0, PyData.depth, PyData.eqv, guardO, h3, e1, hlt, binP, e2, leave, below, cellsBelow, refsD, rt, red, LIM]
  · rw [if_neg hlt] at e2
    simp [cmpB, eqOk, PyData.canLay0, PyData.depth, PyData.eqv, guardO, h3, e1, hlt, binP, e2, leave, below, cellsBelow, refsD, rt, red, LIM]
theorem Lratio_spec (h1 : P.defs "_law_divisor" = some d_L_divisor) (h2 : P.defs "_law_ratio" = some d_L_ratio) {t b : Int} {n : Nat} (h : b ≠ 0) (hb : b.natAbs < 2 ^ n) (hn : 0 < n) (h9 : n ≤ 9000) : callK P loopAny (k + 2) "_law_ratio" [.v (.int t), .v (.int b)] [] = some (.ok (.v (rt (red t b))), []) := by
  have e1 := fun M => callX_v (M := M) (by rfl) (Ldivisor_spec (k := k) h1 t b)
  have e2 := c_ok (t := t) h hb hn h9
  unfold callK
  rw [h2]
  unfold d_L_ratio runDef
  by_cases hlt : b < 0
  · rw [if_pos hlt] at e2
    simp [cmpB, guardO, e1, hlt, binP, e2, leave, below, cellsBelow, refsD, rt, red, LIM]
  · rw [if_neg hlt] at e2
    simp [cmpB, guardO, e1, hlt, binP, e2, leave, below, cellsBelow, refsD, rt, red, LIM]

structure Sz (n : Nat) (q : Q) : Prop where
  t : q.1.natAbs < 2 ^ n
  p : 0 < q.2
  b : q.2.natAbs < 2 ^ n
theorem Sz.mono {n m : Nat} {q : Q} (h : Sz n q) (hm : n ≤ m) : Sz m q :=
  ⟨Nat.lt_of_lt_of_le h.t (Nat.pow_le_pow_right (by decide) hm), h.p, Nat.lt_of_lt_of_le h.b (Nat.pow_le_pow_right (by decide) hm)⟩
theorem sz_red {t b : Int} {n : Nat} (h : b ≠ 0) (ht : t.natAbs < 2 ^ n) (hb : b.natAbs < 2 ^ n) : Sz n (red t b) := by
  have hg := gcd_pos (t := t) h
  have d1 : (Nat.gcd t.natAbs b.natAbs : Int) ∣ t := Int.ofNat_dvd_left.mpr (Nat.gcd_dvd_left _ _)
  have d2 : (Nat.gcd t.natAbs b.natAbs : Int) ∣ b := Int.ofNat_dvd_left.mpr (Nat.gcd_dvd_right _ _)
  generalize hG : Nat.gcd t.natAbs b.natAbs = g at hg d1 d2
  obtain ⟨t', e1⟩ := d1
  obtain ⟨b', e2⟩ := d2
  have hg0 : (g : Int) ≠ 0 := by omega
  have le1 : t'.natAbs ≤ t.natAbs := by
    rw [e1, Int.natAbs_mul]
    exact Nat.le_mul_of_pos_left _ (by omega)
  have le2 : b'.natAbs ≤ b.natAbs := by
    rw [e2, Int.natAbs_mul]
    exact Nat.le_mul_of_pos_left _ (by omega)
  unfold red
  rw [hG]
  by_cases hlt : b < 0
  · rw [if_pos hlt]
    have f1 : t.fdiv (-(g : Int)) = -t' := by
      rw [e1, show (g : Int) * t' = (-(g : Int)) * (-t') by rw [Int.neg_mul_neg]]
      exact Int.mul_fdiv_cancel_left _ (by omega)
    have f2 : b.fdiv (-(g : Int)) = -b' := by
      rw [e2, show (g : Int) * b' = (-(g : Int)) * (-b') by rw [Int.neg_mul_neg]]
      exact Int.mul_fdiv_cancel_left _ (by omega)
    have hb' : b' < 0 := by
      rw [e2] at hlt
      by_cases z : b' < 0
      · exact z
      · have : 0 ≤ (g : Int) * b' := Int.mul_nonneg (by omega) (by omega)
        omega
    refine ⟨?_, ?_, ?_⟩
    · show (t.fdiv (-(g : Int))).natAbs < _
      rw [f1]
      omega
    · show 0 < b.fdiv (-(g : Int))
      rw [f2]
      omega
    · show (b.fdiv (-(g : Int))).natAbs < _
      rw [f2]
      omega
  · rw [if_neg hlt]
    have f1 : t.fdiv (g : Int) = t' := by
      rw [e1]
      exact Int.mul_fdiv_cancel_left _ (by omega)
    have f2 : b.fdiv (g : Int) = b' := by
      rw [e2]
      exact Int.mul_fdiv_cancel_left _ (by omega)
    have hb' : 0 < b' := by
      by_cases z : 0 < b'
      · exact z
      · have h1 : (g : Int) * b' ≤ (g : Int) * 0 := Int.mul_le_mul_of_nonneg_left (by omega) (by omega)
        rw [Int.mul_zero] at h1
        rw [e2] at hlt h
        omega
    refine ⟨?_, ?_, ?_⟩
    · show (t.fdiv (g : Int)).natAbs < _
      rw [f1]
      omega
    · show 0 < b.fdiv (g : Int)
      rw [f2]
      omega
    · show (b.fdiv (g : Int)).natAbs < _
      rw [f2]
      omega
theorem mul_lt {i j : Int} {n m : Nat} (hi : i.natAbs < 2 ^ n) (hj : j.natAbs < 2 ^ m) : (i * j).natAbs < 2 ^ (n + m) := by
  rw [Int.natAbs_mul, Nat.pow_add]
  exact Nat.mul_lt_mul'' hi hj
theorem add_lt {i j : Int} {n : Nat} (hi : i.natAbs < 2 ^ n) (hj : j.natAbs < 2 ^ n) : (i + j).natAbs < 2 ^ (n + 1) := by
  rw [Nat.pow_succ]
  omega
def plus (q r : Q) : Q := red (q.1 * r.2 + r.1 * q.2) (q.2 * r.2)
def mult (q r : Q) : Q := red (q.1 * r.1) (q.2 * r.2)
def lessB (q r : Q) : Bool := decide (q.1 * r.2 < r.1 * q.2)
theorem pos_ne {q r : Q} {n m : Nat} (hq : Sz n q) (hr : Sz m r) : q.2 * r.2 ≠ 0 := by
  have := Int.mul_pos hq.p hr.p
  omega
theorem Sz.plus {q r : Q} {n m : Nat} (hq : Sz n q) (hr : Sz m r) : Sz (n + m + 1) (plus q r) := by
  refine sz_red (pos_ne hq hr) ?_ ?_
  · refine add_lt (mul_lt hq.t hr.b) ?_
    rw [Nat.add_comm n m]
    exact mul_lt hr.t hq.b
  · exact Nat.lt_of_lt_of_le (mul_lt hq.b hr.b) (Nat.pow_le_pow_right (by decide) (by omega))
theorem Sz.mult {q r : Q} {n m : Nat} (hq : Sz n q) (hr : Sz m r) : Sz (n + m) (mult q r) := sz_red (pos_ne hq hr) (mul_lt hq.t hr.t) (mul_lt hq.b hr.b)
structure Has (P : Pr) : Prop where
  divisor : P.defs "divisor" = some d_divisor
  ratio : P.defs "ratio" = some d_ratio
  Ldivisor : P.defs "_law_divisor" = some d_L_divisor
  Lratio : P.defs "_law_ratio" = some d_L_ratio
  added : P.defs "added" = some d_added
  Lplus : P.defs "_law_plus" = some d_L_plus
  times : P.defs "times" = some d_times
  over : P.defs "over" = some d_over
  negative : P.defs "negative" = some d_negative
  less : P.defs "less" = some d_less
  Lless : P.defs "_law_less" = some d_L_less
  isr : P.defs "is_ratio" = some d_is_ratio
  text : P.defs "ratio_text" = some d_ratio_text
  greatest : P.defs "greatest" = some d_greatest
  summed : P.defs "summed" = some d_summed
  weighed : P.defs "weighed" = some d_weighed
  Lsum : P.defs "_law_sum" = some d_L_sum
  next : P.defs "_law_next" = some d_next
  stream : P.defs "_law_stream" = some d_stream
  drawn : P.defs "_law_drawn" = some d_L_drawn
  same : P.defs "_law_same" = some d_same
  law : P.defs "law" = some d_law
theorem at0 (a b : PyData) : L2.atI [a, b] 0 = some a := rfl
theorem at1 (a b : PyData) : L2.atI [a, b] 1 = some b := rfl
variable (h : Has P)
include h
theorem added_spec {q r : Q} {n m : Nat} (hq : Sz n q) (hr : Sz m r) (hn : 0 < n) (hm : 0 < m) (h9 : n + m ≤ 8000) : callK P loopAny (k + 3) "added" [.v (rt q), .v (rt r)] [] = some (.ok (.v (rt (plus q r))), []) := by
  have e1 := fun M => callX_v (M := M) (by rfl) (ratio_spec (k := k) h.divisor h.ratio (t := q.1 * r.2 + r.1 * q.2) (pos_ne hq hr) (mul_lt hq.b hr.b) (by omega) (by omega))
  have g1 := mulOk_of hq.t hr.b hn hm (by omega)
  have g2 := mulOk_of hr.t hq.b hm hn (by omega)
  have g3 := mulOk_of hq.b hr.b hn hm (by omega)
  unfold callK
  rw [h.added]
  unfold d_added runDef
  simp [rt] at e1
  simp [rt, at0, at1, binP, guardO, g1, g2, g3, e1, leave, below, cellsBelow, refsD, plus]
theorem Lplus_spec {q r : Q} {n m : Nat} (hq : Sz n q) (hr : Sz m r) (hn : 0 < n) (hm : 0 < m) (h9 : n + m ≤ 8000) : callK P loopAny (k + 3) "_law_plus" [.v (rt q), .v (rt r)] [] = some (.ok (.v (rt (plus q r))), []) := by
  have e1 := fun M => callX_v (M := M) (by rfl) (Lratio_spec (k := k) h.Ldivisor h.Lratio (t := q.1 * r.2 + r.1 * q.2) (pos_ne hq hr) (mul_lt hq.b hr.b) (by omega) (by omega))
  have g1 := mulOk_of hq.t hr.b hn hm (by omega)
  have g2 := mulOk_of hr.t hq.b hm hn (by omega)
  have g3 := mulOk_of hq.b hr.b hn hm (by omega)
  unfold callK
  rw [h.Lplus]
  unfold d_L_plus runDef
  simp [rt] at e1
  simp [rt, at0, at1, binP, guardO, g1, g2, g3, e1, leave, below, cellsBelow, refsD, plus]
theorem times_spec {q r : Q} {n m : Nat} (hq : Sz n q) (hr : Sz m r) (hn : 0 < n) (hm : 0 < m) (h9 : n + m ≤ 8000) : callK P loopAny (k + 3) "times" [.v (rt q), .v (rt r)] [] = some (.ok (.v (rt (mult q r))), []) := by
  have e1 := fun M => callX_v (M := M) (by rfl) (ratio_spec (k := k) h.divisor h.ratio (t := q.1 * r.1) (pos_ne hq hr) (mul_lt hq.b hr.b) (by omega) (by omega))
  have g1 := mulOk_of hq.t hr.t hn hm (by omega)
  have g3 := mulOk_of hq.b hr.b hn hm (by omega)
  unfold callK
  rw [h.times]
  unfold d_times runDef
  simp [rt] at e1
  simp [rt, at0, at1, binP, guardO, g1, g3, e1, leave, below, cellsBelow, refsD, mult]
theorem over_spec {q r : Q} {n m : Nat} (hq : Sz n q) (hr : Sz m r) (h0 : r.1 ≠ 0) (hn : 0 < n) (hm : 0 < m) (h9 : n + m ≤ 8000) : callK P loopAny (k + 3) "over" [.v (rt q), .v (rt r)] [] = some (.ok (.v (rt (red (q.1 * r.2) (q.2 * r.1)))), []) := by
  have hz : q.2 * r.1 ≠ 0 := by
    have := hq.p
    exact Int.mul_ne_zero (by omega) h0
  have e1 := fun M => callX_v (M := M) (by rfl) (ratio_spec (k := k) h.divisor h.ratio (t := q.1 * r.2) hz (mul_lt hq.b hr.t) (by omega) (by omega))
  have g1 := mulOk_of hq.t hr.b hn hm (by omega)
  have g3 := mulOk_of hq.b hr.t hn hm (by omega)
  unfold callK
  rw [h.over]
  unfold d_over runDef
  simp [rt] at e1
  simp [rt, at0, at1, binP, guardO, g1, g3, e1, leave, below, cellsBelow, refsD]
theorem negative_spec {q : Q} : callK P loopAny (k + 1) "negative" [.v (rt q)] [] = some (.ok (.v (rt (0 - q.1, q.2))), []) := by
  unfold callK
  rw [h.negative]
  unfold d_negative runDef
  simp [rt, at0, at1, LIM, leave, below, cellsBelow, refsD]
theorem less_spec {q r : Q} {n m : Nat} (hq : Sz n q) (hr : Sz m r) (hn : 0 < n) (hm : 0 < m) (h9 : n + m ≤ 8000) : callK P loopAny (k + 1) "less" [.v (rt q), .v (rt r)] [] = some (.ok (.v (.bool (lessB q r))), []) := by
  have g1 := mulOk_of hq.t hr.b hn hm (by omega)
  have g2 := mulOk_of hr.t hq.b hm hn (by omega)
  unfold callK
  rw [h.less]
  unfold d_less runDef
  simp [rt, at0, at1, binP, cmpB, guardO, g1, g2, leave, below, cellsBelow, refsD, lessB]
theorem Lless_spec {q r : Q} {n m : Nat} (hq : Sz n q) (hr : Sz m r) (hn : 0 < n) (hm : 0 < m) (h9 : n + m ≤ 8000) : callK P loopAny (k + 1) "_law_less" [.v (rt q), .v (rt r)] [] = some (.ok (.v (.bool (lessB q r))), []) := by
  have g1 := mulOk_of hq.t hr.b hn hm (by omega)
  have g2 := mulOk_of hr.t hq.b hm hn (by omega)
  unfold callK
  rw [h.Lless]
  unfold d_L_less runDef
  simp [rt, at0, at1, binP, cmpB, guardO, g1, g2, leave, below, cellsBelow, refsD, lessB]
theorem isr_spec {t b : Int} : callK P loopAny (k + 2) "is_ratio" [.v (.tuple [.int t, .int b])] [] = some (.ok (.v (.bool (decide (1 ≤ b) && decide (Nat.gcd t.natAbs b.natAbs = 1)))), []) := by
  have e1 := fun M => callX_v (M := M) (by rfl) (divisor_spec (k := k) h.divisor t b)
  unfold callK
  rw [h.isr]
  unfold d_is_ratio runDef
  by_cases hb : 1 ≤ b
  · by_cases hg : Nat.gcd t.natAbs b.natAbs = 1
    · simp [at0, at1, biP, cmpB, e1, leave, below, cellsBelow, refsD, hb, hg]
    · have hg2 : ¬ ((Nat.gcd t.natAbs b.natAbs : Int) = 1) := by omega
      simp [at0, at1, biP, cmpB, e1, leave, below, cellsBelow, refsD, hb, hg, hg2]
  · simp [at0, at1, biP, cmpB, e1, leave, below, cellsBelow, refsD, hb]
/-- the text of a ratio -/
def txt (q : Q) : Str := if q.2 = 1 then (toString q.1 : String) else ((toString q.1 : String) : Str) ++ "/" ++ ((toString q.2 : String) : Str)
omit h in
theorem okInt_of {i : Int} {n : Nat} (h : i.natAbs < 2 ^ n) (hn : 0 < n) (h9 : n ≤ 1900) : okInt i = true := by
  unfold okInt
  have := log2_lt h hn
  exact decide_eq_true (by omega)
omit h in
theorem int_len {i : Int} {n : Nat} (h : i.natAbs < 2 ^ n) (hn : 0 < n) : ((toString i : String) : Str).length ≤ n + 1 := by
  rw [ofString_length]
  exact int_text_length_le hn (log2_lt h hn)
omit h in
theorem empty_app (z : Str) : (⟨#[]⟩ : Str) ++ z = z := by
  show Str.mk (#[] ++ z.cps) = z
  simp
theorem text_spec {q : Q} {n : Nat} (hq : Sz n q) (hn : 0 < n) (h9 : n ≤ 1900) : callK P loopAny (k + 1) "ratio_text" [.v (rt q)] [] = some (.ok (.v (.str (txt q))), []) := by
  have g1 := okInt_of hq.t hn h9
  have g2 := okInt_of hq.b hn h9
  have l1 := int_len hq.t hn
  have l2 := int_len hq.b hn
  have l3 : (("/" : String) : Str).length = 1 := rfl
  unfold callK
  rw [h.text]
  unfold d_ratio_text runDef
  by_cases h1 : q.2 = 1
  · simp [rt, at0, at1, biP, cmpB, guardO, g1, h1, leave, below, cellsBelow, refsD, txt]
  · have a1 : ((toString q.1 : String) : Str).length ≤ LIM := by
      have : LIM = 16777216 := rfl
      omega
    have a2 : (((toString q.1 : String) : Str) ++ (("/" : String) : Str)).length ≤ LIM := by
      rw [strLen_append]
      have : LIM = 16777216 := rfl
      omega
    have a3 : (((toString q.1 : String) : Str) ++ (("/" : String) : Str) ++ ((toString q.2 : String) : Str)).length ≤ LIM := by
      rw [strLen_append, strLen_append]
      have : LIM = 16777216 := rfl
      omega
    replace a1 : (Str.ofString q.1.repr).length ≤ LIM := a1
    replace a2 : (Str.ofString q.1.repr ++ Str.ofString "/").length ≤ LIM := a2
    replace a3 : (Str.ofString q.1.repr ++ Str.ofString "/" ++ Str.ofString q.2.repr).length ≤ LIM := a3
    simp [rt, at0, at1, biP, cmpB, guardO, g1, g2, h1, empty_app, a1, a2, a3, leave, below, cellsBelow, refsD, txt]
/-! ### drawn ratios -/
structure Dr (q : Q) : Prop where
  sz : Sz 28 q
  co : Nat.gcd q.1.natAbs q.2.natAbs = 1
omit h in
theorem red_co {t b : Int} (h : 0 < b) : Nat.gcd (red t b).1.natAbs (red t b).2.natAbs = 1 := by
  have hg := gcd_pos (t := t) (b := b) (by omega)
  have e : red t b = (t.fdiv (Nat.gcd t.natAbs b.natAbs : Int), b.fdiv (Nat.gcd t.natAbs b.natAbs : Int)) := by
    unfold red
    rw [if_neg (by omega)]
  rw [e]
  have d1 : (Nat.gcd t.natAbs b.natAbs : Int) ∣ t := Int.ofNat_dvd_left.mpr (Nat.gcd_dvd_left _ _)
  have d2 : (Nat.gcd t.natAbs b.natAbs : Int) ∣ b := Int.ofNat_dvd_left.mpr (Nat.gcd_dvd_right _ _)
  have n1 : (t.fdiv (Nat.gcd t.natAbs b.natAbs : Int)).natAbs = t.natAbs / Nat.gcd t.natAbs b.natAbs := by
    obtain ⟨t', e1⟩ := d1
    have hg0 : (Nat.gcd t.natAbs b.natAbs : Int) ≠ 0 := by omega
    have f1 : t.fdiv (Nat.gcd t.natAbs b.natAbs : Int) = t' := by
      conv => lhs; arg 1; rw [e1]
      exact Int.mul_fdiv_cancel_left _ hg0
    rw [f1]
    have : t.natAbs = Nat.gcd t.natAbs b.natAbs * t'.natAbs := by
      conv => lhs; rw [e1]
      rw [Int.natAbs_mul]
      rfl
    exact (Nat.div_eq_of_eq_mul_right hg this).symm
  have n2 : (b.fdiv (Nat.gcd t.natAbs b.natAbs : Int)).natAbs = b.natAbs / Nat.gcd t.natAbs b.natAbs := by
    obtain ⟨t', e1⟩ := d2
    have hg0 : (Nat.gcd t.natAbs b.natAbs : Int) ≠ 0 := by omega
    have f1 : b.fdiv (Nat.gcd t.natAbs b.natAbs : Int) = t' := by
      conv => lhs; arg 1; rw [e1]
      exact Int.mul_fdiv_cancel_left _ hg0
    rw [f1]
    have : b.natAbs = Nat.gcd t.natAbs b.natAbs * t'.natAbs := by
      conv => lhs; rw [e1]
      rw [Int.natAbs_mul]
      rfl
    exact (Nat.div_eq_of_eq_mul_right hg this).symm
  show Nat.gcd (t.fdiv _).natAbs (b.fdiv _).natAbs = 1
  rw [n1, n2]
  exact Nat.coprime_div_gcd_div_gcd hg
theorem drawn_spec {nums : List Int} (hs : Stream nums) {c : Int} (hc : 0 ≤ c) (hc2 : c < 900000) : ∃ q, Dr q ∧ callK P loopAny (k + 3) "_law_drawn" [.ref 0] (ST nums c) = some (.ok (.v (rt q)), ST nums (c + 3)) := by
  obtain ⟨v1, a1, b1, e1⟩ := next_call (k := k + 1) h.next hs hc (by omega) (m := 400) (by decide)
  obtain ⟨v2, a2, b2, e2⟩ := next_call (k := k + 1) h.next hs (c := c + 1) (by omega) (by omega) (m := 5) (by decide)
  obtain ⟨v3, a3, b3, e3⟩ := next_call (k := k + 1) h.next hs (c := c + 1 + 1) (by omega) (by omega) (m := 60) (by decide)
  have hb0 : (1 + v3) ≠ 0 := by omega
  have hb : (1 + v3).natAbs < 2 ^ 28 := by omega
  have hp : shOk 10 6 = true := by decide +kernel
  have hc3 : c + 1 + 1 + 1 = c + 3 := by omega
  by_cases hz : v2 = 0
  · have ht : ((v1 - 200) * 1000000).natAbs < 2 ^ 28 := by omega
    have e4 := fun M => callX_v (M := M) (by rfl) (Lratio_spec (k := k) h.Ldivisor h.Lratio (t := (v1 - 200) * 1000000) hb0 hb (by decide) (by decide))
    have g1 : mulOk (v1 - 200) 1000000 = true := mul_ok (by omega) (by decide)
    refine ⟨red ((v1 - 200) * 1000000) (1 + v3), ⟨sz_red hb0 ht hb, red_co (by omega)⟩, ?_⟩
    have ix : L2.atI [PyData.int 1, PyData.int 1000000] 1 = some (.int 1000000) := rfl
    unfold callK
    rw [h.drawn]
    unfold d_L_drawn runDef
    simp [e1, e2, e3, binP, biP, cmpB, guardO, hp, hz, ix, g1, LIM, e4, hc3]
  · have ht : ((v1 - 200) * 1).natAbs < 2 ^ 28 := by omega
    have e4 := fun M => callX_v (M := M) (by rfl) (Lratio_spec (k := k) h.Ldivisor h.Lratio (t := (v1 - 200) * 1) hb0 hb (by decide) (by decide))
    have g1 : mulOk (v1 - 200) 1 = true := mul_ok (by omega) (by decide)
    refine ⟨red ((v1 - 200) * 1) (1 + v3), ⟨sz_red hb0 ht hb, red_co (by omega)⟩, ?_⟩
    have ix : L2.atI [PyData.int 1, PyData.int 1000000] 0 = some (.int 1) := rfl
    unfold callK
    rw [h.drawn]
    unfold d_L_drawn runDef
    simp at e4
    simp [e1, e2, e3, binP, biP, cmpB, guardO, hp, hz, ix, g1, LIM, e4, hc3]
abbrev rD (q : Q) : D := .v (rt q)
theorem draw_list {nums : List Int} (hs : Stream nums) {G : Sig} (hG : G.call = callK P loopAny (k + 3)) {ok : Store → Bool} (hok : ∀ N, ok N = true) {i : Nat} {σ : Slots} (h1 : σ[1]? = some (some (.ref 0))) (hi : i ≠ 1) (hl : i < σ.length) :
    ∀ (ds : List D) {c : Int}, 0 ≤ c → c + 3 * ds.length < 900000 → ∃ qs : List Q, qs.length = ds.length ∧ (∀ q ∈ qs, Dr q) ∧ compL (compStep G (.call "_law_drawn" (.cons (.v 1) .nil)) (.s i) .nil σ) ok ds (ST nums c) = some (.ok (qs.map rD), ST nums (c + 3 * ds.length))
  | [], c, hc, hc2 => ⟨[], rfl, fun q hq => (List.not_mem_nil hq).elim, by
      unfold compL
      simp⟩
  | d :: ds, c, hc, hc2 => by
    have hl2 : ((d :: ds).length : Int) = (ds.length : Int) + 1 := by simp
    obtain ⟨q, dq, e⟩ := drawn_spec (k := k) h hs hc (by omega)
    have e2 := callX_ST (ps := []) e
    obtain ⟨qs, g1, g2, g3⟩ := draw_list hs hG hok h1 hi hl ds (c := c + 3) (by omega) (by omega)
    refine ⟨q :: qs, by simp [g1], fun x hx => ?_, ?_⟩
    · rcases List.mem_cons.mp hx with hx | hx
      · rw [hx]
        exact dq
      · exact g2 x hx
    · have hv : (List.set σ i (some d))[1]? = some (some (.ref 0)) := by
        rw [List.getElem?_set_ne (by omega)]
        exact h1
      have hst : compStep G (.call "_law_drawn" (.cons (.v 1) .nil)) (.s i) .nil σ d (ST nums c) = some (.ok (some [rD q]), ST nums (c + 3)) := by
        unfold compStep
        rw [show wipeT (.s i) σ = σ.set i none by rw [wipeT]]
        simp only [setT_s, List.length_set, hl, if_true, need_some]
        have e3 : callX (callK P loopAny (k + 3) "_law_drawn") [.ref 0] (ST nums c) = some (.ok (.v (rt q)), ST nums (c + 3)) := e2
        simp [hv, hG, e3]
      unfold compL
      rw [hst]
      show (if ok _ = true then (compL _ ok ds (ST nums (c + 3))).bind _ else none) = _
      rw [if_pos (hok _), g3]
      have : c + 3 + 3 * (ds.length : Int) = c + 3 * ((d :: ds).length : Int) := by omega
      rw [this]
      simp
/-! ### sums, the greatest -/
def sumQ (qs : List Q) (a : Q) : Q := qs.foldl plus a
theorem sum_loop {G : Sig} {f : Str} (hG : ∀ {q r : Q} {n m : Nat}, Sz n q → Sz m r → 0 < n → 0 < m → n + m ≤ 8000 → G.call f [.v (rt q), .v (rt r)] [] = some (.ok (.v (rt (plus q r))), [])) {ok : Store → Bool} (hok : ∀ N, ok N = true) {w : Nat} (hw : 0 < w) :
    ∀ (qs : List Q) {x0 x2 : Option D} {a : Q} {n : Nat}, (∀ q ∈ qs, Sz w q) → Sz n a → 0 < n → n + (w + 1) * qs.length ≤ 7000 - w → ∃ y0 y2, forL [false, true, false] 0 (forStep G (.s 2) (.seq (.asg 1 (.call f (.cons (.v 1) (.cons (.v 2) .nil)))) .skip)) ok (qs.map rD) [x0, some (.v (rt a)), x2] [] = some (.nx, [y0, some (.v (rt (sumQ qs a))), y2], []) ∧ Sz (n + (w + 1) * qs.length) (sumQ qs a)
  | [], x0, x2, a, n, hq, ha, hn, hl => ⟨x0, x2, rfl, ha⟩
  | q :: qs, x0, x2, a, n, hq, ha, hn, hl => by
    have e1 := hq q List.mem_cons_self
    have hl2 : (w + 1) * (q :: qs).length = (w + 1) * qs.length + (w + 1) := by rw [List.length_cons, Nat.mul_succ]
    have e2 := callX_v (f := G.call f) (M := []) (by rfl) (hG ha e1 hn hw (by omega))
    obtain ⟨y0, y2, e3, e4⟩ := sum_loop hG hok hw qs (x0 := none) (x2 := none) (a := plus a q) (n := n + w + 1) (fun x hx => hq x (List.mem_cons_of_mem _ hx)) (ha.plus e1) (by omega) (by omega)
    refine ⟨y0, y2, ?_, by rw [hl2, show n + ((w + 1) * qs.length + (w + 1)) = n + w + 1 + (w + 1) * qs.length by omega]; exact e4⟩
    rw [List.map_cons]
    unfold forL
    have st : forStep G (.s 2) (.seq (.asg 1 (.call f (.cons (.v 1) (.cons (.v 2) .nil)))) .skip) (rD q) [x0, some (.v (rt a)), x2] [] = some (.nx, [x0, some (.v (rt (plus a q))), some (rD q)], []) := by
      simp [forStep, e2]
    rw [st]
    show (if ok _ = true then tidy _ 0 _ _ _ else none) = _
    rw [if_pos (hok _), tidy_eq]
    exact e3
omit h in
theorem one_sz : Sz 1 ((0, 1) : Q) := ⟨by decide, by decide, by decide⟩
omit h in
theorem map_rD (qs : List Q) : (qs.map rt).map D.v = qs.map rD := by
  rw [List.map_map]
  rfl
theorem summed_spec {qs : List Q} {w : Nat} (hw : 0 < w) (hq : ∀ q ∈ qs, Sz w q) (hl : 1 + (w + 1) * qs.length ≤ 7000 - w) : callK P loopAny (k + 4) "summed" [.v (.list (qs.map rt))] [] = some (.ok (.v (rt (sumQ qs (0, 1)))), []) ∧ Sz (1 + (w + 1) * qs.length) (sumQ qs (0, 1)) := by
  obtain ⟨y0, y2, e, hs⟩ := sum_loop h (G := ⟨callK P loopAny (k + 3), P.glob, loopAny⟩) (f := "added") (fun hq hr hn hm h9 => added_spec (k := k) h hq hr hn hm h9) (ok := stays [] []) (fun _ => rfl) hw qs (x0 := some (.v (.list (qs.map rt)))) (x2 := none) hq one_sz (by decide) hl
  refine ⟨?_, hs⟩
  have ei : itemsOf .plain [D.v (.list (qs.map rt))] [] = some (qs.map rD, []) := by
    show some ((qs.map rt).map D.v, []) = _
    rw [map_rD]
  have e0 : rt (0, 1) = .tuple [.int 0, .int 1] := rfl
  rw [e0] at e
  unfold callK
  rw [h.summed]
  unfold d_summed runDef
  simp [LIM, ei, forK, e, leave, below, cellsBelow, refsD]
theorem Lsum_spec {qs : List Q} {w : Nat} (hw : 0 < w) (hq : ∀ q ∈ qs, Sz w q) (hl : 1 + (w + 1) * qs.length ≤ 7000 - w) : callK P loopAny (k + 4) "_law_sum" [.v (.list (qs.map rt))] [] = some (.ok (.v (rt (sumQ qs (0, 1)))), []) := by
  obtain ⟨y0, y2, e, hs⟩ := sum_loop h (G := ⟨callK P loopAny (k + 3), P.glob, loopAny⟩) (f := "_law_plus") (fun hq hr hn hm h9 => Lplus_spec (k := k) h hq hr hn hm h9) (ok := stays [] []) (fun _ => rfl) hw qs (x0 := some (.v (.list (qs.map rt)))) (x2 := none) hq one_sz (by decide) hl
  have ei : itemsOf .plain [D.v (.list (qs.map rt))] [] = some (qs.map rD, []) := by
    show some ((qs.map rt).map D.v, []) = _
    rw [map_rD]
  have e0 : rt (0, 1) = .tuple [.int 0, .int 1] := rfl
  rw [e0] at e
  unfold callK
  rw [h.Lsum]
  unfold d_L_sum runDef
  simp [LIM, ei, forK, e, leave, below, cellsBelow, refsD]
def bestQ (qs : List Q) (b : Q) : Q := qs.foldl (fun b q => if lessB b q = true then q else b) b
theorem best_loop {ok : Store → Bool} (hok : ∀ N, ok N = true) : ∀ (qs : List Q) {x0 x2 : Option D} {b : Q}, (∀ q ∈ qs, Sz 28 q) → Sz 28 b →
    ∃ y0 y2, forL [false, true, false] 0 (forStep ⟨callK P loopAny (k + 1), P.glob, loopAny⟩ (.s 2) (.seq (.asg 1 (.ifx (.call "less" (.cons (.v 1) (.cons (.v 2) .nil))) (.v 2) (.v 1))) .skip)) ok (qs.map rD) [x0, some (.v (rt b)), x2] [] = some (.nx, [y0, some (.v (rt (bestQ qs b))), y2], []) ∧ Sz 28 (bestQ qs b)
  | [], x0, x2, b, hq, hb => ⟨x0, x2, rfl, hb⟩
  | q :: qs, x0, x2, b, hq, hb => by
    have e1 := hq q List.mem_cons_self
    have e2 := callX_v (M := []) (by rfl) (less_spec (k := k) h hb e1 (by decide) (by decide) (by decide))
    have hb2 : Sz 28 (if lessB b q = true then q else b) := by split <;> assumption
    obtain ⟨y0, y2, e3, e4⟩ := best_loop hok qs (x0 := none) (x2 := none) (b := if lessB b q = true then q else b) (fun x hx => hq x (List.mem_cons_of_mem _ hx)) hb2
    refine ⟨y0, y2, ?_, e4⟩
    rw [List.map_cons]
    unfold forL
    have st : forStep ⟨callK P loopAny (k + 1), P.glob, loopAny⟩ (.s 2) (.seq (.asg 1 (.ifx (.call "less" (.cons (.v 1) (.cons (.v 2) .nil))) (.v 2) (.v 1))) .skip) (rD q) [x0, some (.v (rt b)), x2] [] = some (.nx, [x0, some (.v (rt (if lessB b q = true then q else b))), some (rD q)], []) := by
      by_cases hl : lessB b q = true
      · simp [forStep, e2, hl]
      · simp [forStep, e2, hl]
    rw [st]
    show (if ok _ = true then tidy _ 0 _ _ _ else none) = _
    rw [if_pos (hok _), tidy_eq]
    exact e3
omit h in
theorem cut_tail {α : Type} (x : α) (xs : List α) : cut (x :: xs) (some 1) none = xs := by
  unfold cut
  have h1 : HT.sIx (x :: xs).length 0 (some 1) = 1 := by
    have := HT.sIx_nat (x :: xs).length 0 1
    rw [show ((1 : Nat) : Int) = 1 from rfl] at this
    rw [this, List.length_cons]
    omega
  rw [h1, HT.sIx_none]
  simp
theorem greatest_spec {q : Q} {qs : List Q} (hq : ∀ x ∈ q :: qs, Sz 28 x) : callK P loopAny (k + 2) "greatest" [.v (.list ((q :: qs).map rt))] [] = some (.ok (.v (rt (bestQ qs q))), []) := by
  obtain ⟨y0, y2, e, hs⟩ := best_loop (k := k) h (ok := stays [] []) (fun _ => rfl) qs (x0 := some (.v (.list ((q :: qs).map rt)))) (x2 := none) (fun x hx => hq x (List.mem_cons_of_mem _ hx)) (hq q List.mem_cons_self)
  have ei : itemsOf .plain [D.v (.list (qs.map rt))] [] = some (qs.map rD, []) := by
    show some ((qs.map rt).map D.v, []) = _
    rw [map_rD]
  have ea : L2.atI (rt q :: qs.map rt) 0 = some (rt q) := L2.atI_nat (j := 0) rfl
  have ec : slD [] (D.v (.list (rt q :: qs.map rt))) (some 1) none = some (.list (qs.map rt)) := by
    show some (PyData.list (cut (rt q :: qs.map rt) (some 1) none)) = _
    rw [cut_tail]
  rw [List.map_cons] at e
  rw [List.map_cons]
  unfold callK
  rw [h.greatest]
  unfold d_greatest runDef
  simp [ea, ec, ei, forK, e, leave, below, cellsBelow, refsD]
theorem zip_list {ok : Store → Bool} (hok : ∀ N, ok N = true) {x0 x1 x2 x3 : Option D} : ∀ (ps qs : List Q), (∀ q ∈ ps, Sz 28 q) → (∀ q ∈ qs, Sz 28 q) →
    compL (compStep ⟨callK P loopAny (k + 4), P.glob, loopAny⟩ (.call "times" (.cons (.v 2) (.cons (.v 3) .nil))) (.tup (.cons (.s 2) (.cons (.s 3) .nil))) .nil [x0, x1, x2, x3]) ok (zipL (ps.map rt) (qs.map rt)) [] = some (.ok ((List.zipWith mult ps qs).map rD), [])
  | [], qs, _, _ => by
    simp [zipL, compL]
  | p :: ps, [], _, _ => by
    simp [zipL, compL]
  | p :: ps, q :: qs, hp, hq => by
    have e2 := callX_v (M := []) (by rfl) (times_spec (k := k + 1) h (hp p List.mem_cons_self) (hq q List.mem_cons_self) (by decide) (by decide) (by decide))
    have e3 := zip_list hok (x0 := x0) (x1 := x1) (x2 := x2) (x3 := x3) ps qs (fun x hx => hp x (List.mem_cons_of_mem _ hx)) (fun x hx => hq x (List.mem_cons_of_mem _ hx))
    rw [List.map_cons, List.map_cons]
    unfold zipL compL
    have st : compStep ⟨callK P loopAny (k + 4), P.glob, loopAny⟩ (.call "times" (.cons (.v 2) (.cons (.v 3) .nil))) (.tup (.cons (.s 2) (.cons (.s 3) .nil))) .nil [x0, x1, x2, x3] (.v (.tuple [rt p, rt q])) [] = some (.ok (some [rD (mult p q)]), []) := by
      unfold compStep
      simp [wipeT, e2]
    rw [st]
    show (if ok _ = true then (compL _ ok _ []).bind _ else none) = _
    rw [if_pos (hok _), e3]
    rfl
theorem weighed_spec {ps qs : List Q} (hp : ∀ q ∈ ps, Sz 28 q) (hq : ∀ q ∈ qs, Sz 28 q) (hl : ps.length ≤ 100) : callK P loopAny (k + 5) "weighed" [.v (.list (ps.map rt)), .v (.list (qs.map rt))] [] = some (.ok (.v (rt (sumQ (List.zipWith mult ps qs) (0, 1)))), []) := by
  have hm : ∀ x ∈ List.zipWith mult ps qs, Sz 56 x := fun x hx => by
    obtain ⟨i, hi, rfl⟩ := List.mem_iff_getElem.mp hx
    rw [List.getElem_zipWith]
    exact (hp _ (List.getElem_mem _)).mult (hq _ (List.getElem_mem _))
  have hl2 : (List.zipWith mult ps qs).length ≤ 100 := by
    rw [List.length_zipWith]
    omega
  have e1 := fun M => callX_v (M := M) (by rfl) (summed_spec (k := k) h (w := 56) (by decide) hm (by omega)).1
  have e2 := zip_list (k := k) h (ok := stays [] []) (fun _ => rfl) (x0 := some (.v (.list (ps.map rt)))) (x1 := some (.v (.list (qs.map rt)))) (x2 := none) (x3 := none) ps qs hp hq
  have ss : ∀ qs : List Q, samePs (qs.map rt) (qs.map rt) = true := fun qs => by
    induction qs with
    | nil => rfl
    | cons q r ih =>
      rw [List.map_cons]
      unfold samePs
      rw [ih]
      simp [rt, sameP, samePs]
  have ei : itemsOf .zip [D.v (.list (ps.map rt)), D.v (.list (qs.map rt))] [] = some (zipL (ps.map rt) (qs.map rt), []) := by
    show guardO (samePs (ps.map rt) (ps.map rt) && samePs (qs.map rt) (qs.map rt)) _ = _
    unfold guardO
    rw [ss, ss]
    rfl
  have ep : pures ((List.zipWith mult ps qs).map rD) = some ((List.zipWith mult ps qs).map rt) := by
    rw [← map_rD, pures_map]
  generalize List.zipWith mult ps qs = zs at e1 e2 ep ⊢
  unfold callK
  rw [h.weighed]
  unfold d_weighed runDef
  simp [ei, e2, mkL, ep, e1, leave, below, cellsBelow, refsD]
end K01

set_option maxRecDepth 100000
namespace K01
open PySem Ev
variable {P : Pr} {k : Nat}
def bL : S := (.seq (.asg 10 (.sub (.lst false (.cons (.v 10) (.cons (.sub (.v 7) (.v 12)) .nil))) (.bi .int (.cons (.call "_law_less" (.cons (.v 10) (.cons (.sub (.v 7) (.v 12)) .nil))) .nil))))
 (.seq (.asg 11 (.call "_law_plus" (.cons (.v 11) (.cons (.call "_law_ratio" (.cons (.bin .Mult (.sub (.sub (.v 7) (.v 12)) (.k (.int 0))) (.sub (.sub (.v 8) (.v 12)) (.k (.int 0)))) (.cons (.bin .Mult (.sub (.sub (.v 7) (.v 12)) (.k (.int 1))) (.sub (.sub (.v 8) (.v 12)) (.k (.int 1)))) .nil))) .nil))))
 .skip))
def liveL : List Bool := [false, true, false, false, false, true, false, true, true, false, true, true, false, false, false]
theorem at_map {qs : List Q} {j : Nat} {q : Q} (h : qs[j]? = some q) : L2.atI (qs.map rt) (j : Int) = some (rt q) := L2.atI_nat (by rw [List.getElem?_map, h]; rfl)
variable (h : Has P)
include h
theorem turnL {x0 x2 x3 x4 x5 x6 x9 x12 x13 x14 : Option D} {rows more : List Q} {b t q r : Q} {j n : Nat} {nums : List Int} {c : Int} (h1 : rows[j]? = some q) (h2 : more[j]? = some r) (hq : Sz 28 q) (hr : Sz 28 r) (hb : Sz 28 b) (ht : Sz n t) (hn : 0 < n) (h9 : n ≤ 6000) :
    evS ⟨callK P loopAny (k + 8), P.glob, loopAny⟩ bL [x0, some (.ref 0), x2, x3, x4, x5, x6, some (.v (.list (rows.map rt))), some (.v (.list (more.map rt))), x9, some (.v (rt b)), some (.v (rt t)), some (iD j), x13, x14] (ST nums c) =
      some (.nx, [x0, some (.ref 0), x2, x3, x4, x5, x6, some (.v (.list (rows.map rt))), some (.v (.list (more.map rt))), x9, some (.v (rt (if lessB b q = true then q else b))), some (.v (rt (plus t (mult q r)))), some (iD j), x13, x14], ST nums c) := by
  have e1 : ∀ M, callX (callK P loopAny (k + 8) "_law_less") [.v (rt b), .v (rt q)] M = _ := fun M => callX_v (M := M) (by rfl) (Lless_spec (k := k + 7) h hb hq (by decide) (by decide) (by decide))
  have e2 : ∀ M, callX (callK P loopAny (k + 8) "_law_ratio") [.v (.int (q.1 * r.1)), .v (.int (q.2 * r.2))] M = _ := fun M => callX_v (M := M) (by rfl) (Lratio_spec (k := k + 6) h.Ldivisor h.Lratio (t := q.1 * r.1) (pos_ne hq hr) (mul_lt hq.b hr.b) (by decide) (by decide))
  have e3 : ∀ M, callX (callK P loopAny (k + 8) "_law_plus") [.v (rt t), .v (rt (mult q r))] M = _ := fun M => callX_v (M := M) (by rfl) (Lplus_spec (k := k + 5) h ht (hq.mult hr) hn (by decide) (by omega))
  have g1 := mulOk_of hq.t hr.t (by decide) (by decide) (by decide)
  have g2 := mulOk_of hq.b hr.b (by decide) (by decide) (by decide)
  have a1 := at_map h1
  have a2 := at_map h2
  have z0 : ∀ x : Q, L2.atI [PyData.int x.1, .int x.2] 0 = some (.int x.1) := fun x => rfl
  have z1 : ∀ x : Q, L2.atI [PyData.int x.1, .int x.2] 1 = some (.int x.2) := fun x => rfl
  have s0 : ∀ (x : Q) M, subG (.v (rt x)) (.v (.int 0)) M = some (.ok (.v (.int x.1)), M) := fun x M => rfl
  have s1 : ∀ (x : Q) M, subG (.v (rt x)) (.v (.int 1)) M = some (.ok (.v (.int x.2)), M) := fun x M => rfl
  have p0 : ∀ x y : PyData, L2.atI [x, y] 0 = some x := fun x y => rfl
  have p1 : ∀ x y : PyData, L2.atI [x, y] 1 = some y := fun x y => rfl
  have e4 : red (q.1 * r.1) (q.2 * r.2) = mult q r := rfl
  unfold bL
  by_cases hl : lessB b q = true
  · simp [a1, a2, e1, e2, e3, e4, g1, g2, s0, s1, p0, p1, hl, biP, binP, guardO, LIM]
  · simp [a1, a2, e1, e2, e3, e4, g1, g2, s0, s1, p0, p1, hl, biP, binP, guardO, LIM]
theorem loopL {ok : Store → Bool} (hok : ∀ N, ok N = true) {rows more : List Q} (hrows : ∀ q ∈ rows, Sz 28 q) (hmore : ∀ q ∈ more, Sz 28 q) {x5 : PyData} {nums : List Int} {c : Int} :
    ∀ (m j : Nat) {x0 x2 x3 x4 x6 x9 x12 x13 x14 : Option D} {b t : Q} {n : Nat}, j + m = rows.length → rows.length = more.length → Sz 28 b → Sz n t → 0 < n → n + 57 * m ≤ 6000 →
    ∃ y0 y2 y3 y4 y6 y9 y12 y13 y14 : Option D, forL liveL 1 (forStep ⟨callK P loopAny (k + 8), P.glob, loopAny⟩ (.s 12) bL) ok ((List.range' j m).map fun (i : Nat) => iD (i : Int)) [x0, some (.ref 0), x2, x3, x4, some (.v x5), x6, some (.v (.list (rows.map rt))), some (.v (.list (more.map rt))), x9, some (.v (rt b)), some (.v (rt t)), x12, x13, x14] (ST nums c) =
      some (.nx, [y0, some (.ref 0), y2, y3, y4, some (.v x5), y6, some (.v (.list (rows.map rt))), some (.v (.list (more.map rt))), y9, some (.v (rt (bestQ (rows.drop j) b))), some (.v (rt (sumQ (List.zipWith mult (rows.drop j) (more.drop j)) t))), y12, y13, y14], ST nums c)
      ∧ Sz 28 (bestQ (rows.drop j) b) ∧ Sz (n + 57 * m) (sumQ (List.zipWith mult (rows.drop j) (more.drop j)) t) := by
  intro m
  induction m with
  | zero =>
    intro j x0 x2 x3 x4 x6 x9 x12 x13 x14 b t n hj hl hb ht hn h9
    have : rows.drop j = [] := List.drop_eq_nil_of_le (by omega)
    rw [this]
    exact ⟨x0, x2, x3, x4, x6, x9, x12, x13, x14, rfl, hb, ht⟩
  | succ m ih =>
    intro j x0 x2 x3 x4 x6 x9 x12 x13 x14 b t n hj hl hb ht hn h9
    have l1 : j < rows.length := by omega
    have l2 : j < more.length := by omega
    have hq := hrows _ (List.getElem_mem l1)
    have hr := hmore _ (List.getElem_mem l2)
    have hb2 : Sz 28 (if lessB b rows[j] = true then rows[j] else b) := by split <;> assumption
    have e := turnL (k := k) h (x0 := x0) (x2 := x2) (x3 := x3) (x4 := x4) (x5 := some (.v x5)) (x6 := x6) (x9 := x9) (x12 := x12) (x13 := x13) (x14 := x14) (rows := rows) (more := more) (nums := nums) (c := c) (List.getElem?_eq_getElem l1) (List.getElem?_eq_getElem l2) hq hr hb ht hn (by omega)
    obtain ⟨y0, y2, y3, y4, y6, y9, y12, y13, y14, e2, e3, e4⟩ := ih (j + 1) (x0 := none) (x2 := none) (x3 := none) (x4 := none) (x6 := none) (x9 := none) (x12 := none) (x13 := none) (x14 := none) (n := n + 57) (by omega) hl hb2 ((ht.plus (hq.mult hr)).mono (by omega)) (by omega) (by omega)
    rw [List.drop_eq_getElem_cons l1, List.drop_eq_getElem_cons l2]
    refine ⟨y0, y2, y3, y4, y6, y9, y12, y13, y14, ?_, e3, by
      rw [show n + 57 * (m + 1) = n + 57 + 57 * m by omega]
      exact e4⟩
    rw [List.range'_succ, List.map_cons]
    unfold forL
    have st : forStep ⟨callK P loopAny (k + 8), P.glob, loopAny⟩ (.s 12) bL (iD j) [x0, some (.ref 0), x2, x3, x4, some (.v x5), x6, some (.v (.list (rows.map rt))), some (.v (.list (more.map rt))), x9, some (.v (rt b)), some (.v (rt t)), x12, x13, x14] (ST nums c) = evS ⟨callK P loopAny (k + 8), P.glob, loopAny⟩ bL [x0, some (.ref 0), x2, x3, x4, some (.v x5), x6, some (.v (.list (rows.map rt))), some (.v (.list (more.map rt))), x9, some (.v (rt b)), some (.v (rt t)), some (iD j), x13, x14] (ST nums c) := by
      simp [forStep]
    rw [st, e]
    show (if ok _ = true then tidy liveL 1 _ _ _ else none) = _
    rw [if_pos (hok _), tidy_eq]
    have hk : ∀ w10 w11 : D, keepS liveL [x0, some (.ref 0), x2, x3, x4, some (.v x5), x6, some (.v (.list (rows.map rt))), some (.v (.list (more.map rt))), x9, some w10, some w11, some (iD j), x13, x14] = [none, some (.ref 0), none, none, none, some (.v x5), none, some (.v (.list (rows.map rt))), some (.v (.list (more.map rt))), none, some w10, some w11, none, none, none] := fun _ _ => rfl
    rw [tidyS_ST (by rw [hk]; rfl), hk]
    exact e2
end K01

set_option maxRecDepth 100000
namespace K01
open PySem Ev
variable {P : Pr} {k : Nat}
def t1 : S := (.asg 3 (.bin .Sub (.call "_law_next" (.cons (.v 1) (.cons (.k (.int 900)) .nil))) (.k (.int 450))))
def t2 : S := (.asg 4 (.sub (.lst false (.cons (.bin .Add (.k (.int 1)) (.call "_law_next" (.cons (.v 1) (.cons (.k (.int 80)) .nil)))) (.cons (.bin .Sub (.bin .Sub (.k (.int 0)) (.k (.int 1))) (.call "_law_next" (.cons (.v 1) (.cons (.k (.int 80)) .nil)))) .nil))) (.call "_law_next" (.cons (.v 1) (.cons (.k (.int 2)) .nil)))))
def t3 : S := (.asg 5 (.call "_law_drawn" (.cons (.v 1) .nil)))
def t4 : S := (.asg 6 (.call "_law_drawn" (.cons (.v 1) .nil)))
def t5 : S := (.asg 7 (.comp false (.call "_law_drawn" (.cons (.v 1) .nil)) (.s 12) .range (.cons (.bin .Add (.k (.int 1)) (.call "_law_next" (.cons (.v 1) (.cons (.k (.int 5)) .nil)))) .nil) .nil))
def t6 : S := (.asg 8 (.comp false (.call "_law_drawn" (.cons (.v 1) .nil)) (.s 14) .plain (.cons (.v 7) .nil) .nil))
def t7 : S := (.ite (.not (.call "_law_same" (.cons (.lst false (.cons (.call "ratio" (.cons (.v 3) (.cons (.v 4) .nil))) (.cons (.call "is_ratio" (.cons (.v 5) .nil)) (.cons (.call "is_ratio" (.cons (.tup (.cons (.bin .Mult (.k (.int 2)) (.sub (.v 5) (.k (.int 0)))) (.cons (.bin .Mult (.k (.int 2)) (.sub (.v 5) (.k (.int 1)))) .nil))) .nil)) (.cons (.call "is_ratio" (.cons (.tup (.cons (.k (.int 1)) (.cons (.k (.int 0)) .nil))) .nil)) (.cons (.call "is_ratio" (.cons (.tup (.cons (.k (.int 3)) (.cons (.neg (.k (.int 1))) .nil))) .nil)) .nil)))))) (.cons (.lst false (.cons (.call "_law_ratio" (.cons (.v 3) (.cons (.v 4) .nil))) (.cons (.k (.bool true)) (.cons (.k (.bool false)) (.cons (.k (.bool false)) (.cons (.k (.bool false)) .nil)))))) .nil))))
 (.seq (.ret (.k (.bool false)))
 .skip)
 .skip)
def t8 : S := (.asg 9 (.lst false (.cons (.call "_law_plus" (.cons (.v 5) (.cons (.v 6) .nil))) (.cons (.tup (.cons (.bin .Sub (.k (.int 0)) (.sub (.v 5) (.k (.int 0)))) (.cons (.sub (.v 5) (.k (.int 1))) .nil))) (.cons (.call "_law_ratio" (.cons (.bin .Mult (.sub (.v 5) (.k (.int 0))) (.sub (.v 6) (.k (.int 0)))) (.cons (.bin .Mult (.sub (.v 5) (.k (.int 1))) (.sub (.v 6) (.k (.int 1)))) .nil))) (.cons (.call "_law_less" (.cons (.v 5) (.cons (.v 6) .nil))) .nil))))))
def t9 : S := (.ite (.not (.call "_law_same" (.cons (.lst false (.cons (.call "added" (.cons (.v 5) (.cons (.v 6) .nil))) (.cons (.call "negative" (.cons (.v 5) .nil)) (.cons (.call "times" (.cons (.v 5) (.cons (.v 6) .nil))) (.cons (.call "less" (.cons (.v 5) (.cons (.v 6) .nil))) .nil))))) (.cons (.v 9) .nil))))
 (.seq (.ret (.k (.bool false)))
 .skip)
 .skip)
def t10 : S := (.ite (.and (.cons (.cmp .NotEq (.sub (.v 6) (.k (.int 0))) (.k (.int 0))) (.cons (.not (.call "_law_same" (.cons (.call "over" (.cons (.v 5) (.cons (.v 6) .nil))) (.cons (.call "_law_ratio" (.cons (.bin .Mult (.sub (.v 5) (.k (.int 0))) (.sub (.v 6) (.k (.int 1)))) (.cons (.bin .Mult (.sub (.v 5) (.k (.int 1))) (.sub (.v 6) (.k (.int 0)))) .nil))) .nil)))) .nil)))
 (.seq (.ret (.k (.bool false)))
 .skip)
 .skip)
def t11 : S := (.asg 10 (.sub (.v 7) (.k (.int 0))))
def t12 : S := (.asg 11 (.tup (.cons (.k (.int 0)) (.cons (.k (.int 1)) .nil))))
def t13 : S := (.for_ [false, true, false, false, false, true, false, true, true, false, true, true, false, false, false] (.s 12) .range (.cons (.bi .len (.cons (.v 7) .nil)) .nil)
 (.seq (.asg 10 (.sub (.lst false (.cons (.v 10) (.cons (.sub (.v 7) (.v 12)) .nil))) (.bi .int (.cons (.call "_law_less" (.cons (.v 10) (.cons (.sub (.v 7) (.v 12)) .nil))) .nil))))
 (.seq (.asg 11 (.call "_law_plus" (.cons (.v 11) (.cons (.call "_law_ratio" (.cons (.bin .Mult (.sub (.sub (.v 7) (.v 12)) (.k (.int 0))) (.sub (.sub (.v 8) (.v 12)) (.k (.int 0)))) (.cons (.bin .Mult (.sub (.sub (.v 7) (.v 12)) (.k (.int 1))) (.sub (.sub (.v 8) (.v 12)) (.k (.int 1)))) .nil))) .nil))))
 .skip)))
def t14 : S := (.ite (.not (.call "_law_same" (.cons (.lst false (.cons (.call "greatest" (.cons (.v 7) .nil)) (.cons (.call "summed" (.cons (.v 7) .nil)) (.cons (.call "weighed" (.cons (.v 7) (.cons (.v 8) .nil))) .nil)))) (.cons (.lst false (.cons (.v 10) (.cons (.call "_law_sum" (.cons (.v 7) .nil)) (.cons (.v 11) .nil)))) .nil))))
 (.seq (.ret (.k (.bool false)))
 .skip)
 .skip)
def t15 : S := (.asg 13 (.bi .str (.cons (.sub (.v 5) (.k (.int 0))) .nil)))
def t16 : S := (.ite (.cmp .NotEq (.sub (.v 5) (.k (.int 1))) (.k (.int 1)))
 (.seq (.asg 13 (.bin .Add (.bin .Add (.v 13) (.k (.str "/"))) (.bi .str (.cons (.sub (.v 5) (.k (.int 1))) .nil))))
 .skip)
 .skip)
def t17 : S := (.ite (.not (.call "_law_same" (.cons (.call "ratio_text" (.cons (.v 5) .nil)) (.cons (.v 13) .nil))))
 (.seq (.ret (.k (.bool false)))
 .skip)
 .skip)
def bT : S := (.seq t1 (.seq t2 (.seq t3 (.seq t4 (.seq t5 (.seq t6 (.seq t7 (.seq t8 (.seq t9 (.seq t10 (.seq t11 (.seq t12 (.seq t13 (.seq t14 (.seq t15 (.seq t16 (.seq t17 .skip)))))))))))))))))
theorem fine_rt {q : Q} {n : Nat} (hq : Sz n q) (hn : 0 < n) (h9 : n ≤ 1900) : fine (rt q) = true := by
  have h1 := log2_lt hq.t hn
  have h2 := log2_lt hq.b hn
  have h3 : q.1.natAbs.log2 < 1920 := by omega
  have h4 : q.2.natAbs.log2 < 1920 := by omega
  simp [rt, fine, fines, h3, h4]
theorem depth_rt (q : Q) : (rt q).depth ≤ 3 := by simp [rt, PyData.depth, PyData.depthAll]
theorem wt_rt (q : Q) : wt (rt q) = 3849 := by simp [rt, wt, wts]
noncomputable abbrev GG (P : Pr) (k : Nat) : Sig := ⟨callK P loopAny (k + 8), P.glob, loopAny⟩
theorem sub0 (x : Q) (M : Store) : subG (.v (rt x)) (.v (.int 0)) M = some (.ok (.v (.int x.1)), M) := rfl
theorem sub1 (x : Q) (M : Store) : subG (.v (rt x)) (.v (.int 1)) M = some (.ok (.v (.int x.2)), M) := rfl
theorem pair0 (x y : PyData) : L2.atI [x, y] 0 = some x := rfl
theorem pair1 (x y : PyData) : L2.atI [x, y] 1 = some y := rfl
variable (h : Has P)
include h
theorem same_call {p : PyData} (hp : Fine p) (M : Store) : callX (callK P loopAny (k + 8) "_law_same") [.v p, .v p] M = some (.ok (.v (.bool true)), M) := callX_v (M := M) (by rfl) (same_spec (k := k + 7) h.same hp)
section
variable {nums : List Int} (hs : Ev.Stream nums) {c : Int} (hc : 0 ≤ c) (hc2 : c < 800000)
variable {x0 x2 x3 x4 x5 x6 x7 x8 x9 x10 x11 x12 x13 x14 : Option D}
include hs hc hc2
theorem r1 : ∃ top : Int, top.natAbs < 2 ^ 28 ∧ evS (GG P k) t1 [x0, some (.ref 0), x2, x3, x4, x5, x6, x7, x8, x9, x10, x11, x12, x13, x14] (ST nums c) = some (.nx, [x0, some (.ref 0), x2, some (iD top), x4, x5, x6, x7, x8, x9, x10, x11, x12, x13, x14], ST nums (c + 1)) := by
  obtain ⟨v1, a1, b1, e1⟩ := next_call (k := k + 7) h.next hs hc (by omega) (m := 900) (by decide)
  refine ⟨v1 - 450, by omega, ?_⟩
  unfold t1
  simp [e1, binP]
theorem r2 : ∃ below : Int, below ≠ 0 ∧ below.natAbs < 2 ^ 28 ∧ evS (GG P k) t2 [x0, some (.ref 0), x2, x3, x4, x5, x6, x7, x8, x9, x10, x11, x12, x13, x14] (ST nums c) = some (.nx, [x0, some (.ref 0), x2, x3, some (iD below), x5, x6, x7, x8, x9, x10, x11, x12, x13, x14], ST nums (c + 3)) := by
  obtain ⟨v1, a1, b1, e1⟩ := next_call (k := k + 7) h.next hs hc (by omega) (m := 80) (by decide)
  obtain ⟨v2, a2, b2, e2⟩ := next_call (k := k + 7) h.next hs (c := c + 1) (by omega) (by omega) (m := 80) (by decide)
  obtain ⟨v3, a3, b3, e3⟩ := next_call (k := k + 7) h.next hs (c := c + 1 + 1) (by omega) (by omega) (m := 2) (by decide)
  have hc3 : c + 1 + 1 + 1 = c + 3 := by omega
  have hv : v3 = 0 ∨ v3 = 1 := by omega
  rcases hv with hv | hv
  · subst hv
    refine ⟨1 + v1, by omega, by omega, ?_⟩
    unfold t2
    simp [e1, e2, e3, binP, LIM, pair0, hc3]
  · subst hv
    refine ⟨-1 - v2, by omega, by omega, ?_⟩
    unfold t2
    simp [e1, e2, e3, binP, LIM, pair1, hc3]
theorem r3 : ∃ q : Q, Dr q ∧ evS (GG P k) t3 [x0, some (.ref 0), x2, x3, x4, x5, x6, x7, x8, x9, x10, x11, x12, x13, x14] (ST nums c) = some (.nx, [x0, some (.ref 0), x2, x3, x4, some (rD q), x6, x7, x8, x9, x10, x11, x12, x13, x14], ST nums (c + 3)) := by
  obtain ⟨q, dq, e⟩ := drawn_spec (k := k + 5) h hs hc (by omega)
  have e2 : callX (callK P loopAny (k + 8) "_law_drawn") [.ref 0] (ST nums c) = some (.ok (.v (rt q)), ST nums (c + 3)) := callX_ST (ps := []) e
  refine ⟨q, dq, ?_⟩
  unfold t3
  simp [e2]
theorem r4 : ∃ q : Q, Dr q ∧ evS (GG P k) t4 [x0, some (.ref 0), x2, x3, x4, x5, x6, x7, x8, x9, x10, x11, x12, x13, x14] (ST nums c) = some (.nx, [x0, some (.ref 0), x2, x3, x4, x5, some (rD q), x7, x8, x9, x10, x11, x12, x13, x14], ST nums (c + 3)) := by
  obtain ⟨q, dq, e⟩ := drawn_spec (k := k + 5) h hs hc (by omega)
  have e2 : callX (callK P loopAny (k + 8) "_law_drawn") [.ref 0] (ST nums c) = some (.ok (.v (rt q)), ST nums (c + 3)) := callX_ST (ps := []) e
  refine ⟨q, dq, ?_⟩
  unfold t4
  simp [e2]
omit hs hc hc2 in
theorem r5a {v : Int} {items : List D} {zs : List Q} {c1 c2 : Int} (e1 : callX (callK P loopAny (k + 8) "_law_next") [.ref 0, .v (.int 5)] (ST nums c) = some (.ok (.v (.int v)), ST nums c1)) (ei : itemsOf .range [D.v (.int (1 + v))] (ST nums c1) = some (items, []))
    (g3 : compL (compStep (GG P k) (.call "_law_drawn" (.cons (.v 1) .nil)) (.s 12) .nil [x0, some (.ref 0), x2, x3, x4, x5, x6, x7, x8, x9, x10, x11, x12, x13, x14]) (stays [] (ST nums c1)) items (ST nums c1) = some (.ok (zs.map rD), ST nums c2)) (ep : pures (zs.map rD) = some (zs.map rt)) :
    evS (GG P k) t5 [x0, some (.ref 0), x2, x3, x4, x5, x6, x7, x8, x9, x10, x11, x12, x13, x14] (ST nums c) = some (.nx, [x0, some (.ref 0), x2, x3, x4, x5, x6, some (.v (.list (zs.map rt))), x8, x9, x10, x11, x12, x13, x14], ST nums c2) := by
  unfold t5
  simp [e1, binP, ei, g3, mkL, ep]
theorem r5 : ∃ (q : Q) (qs : List Q), qs.length ≤ 4 ∧ (∀ x ∈ q :: qs, Dr x) ∧ evS (GG P k) t5 [x0, some (.ref 0), x2, x3, x4, x5, x6, x7, x8, x9, x10, x11, x12, x13, x14] (ST nums c) = some (.nx, [x0, some (.ref 0), x2, x3, x4, x5, x6, some (.v (.list ((q :: qs).map rt))), x8, x9, x10, x11, x12, x13, x14], ST nums (c + 1 + 3 * ((q :: qs).length : Int))) := by
  obtain ⟨v1, a1, b1, e1⟩ := next_call (k := k + 7) h.next hs hc (by omega) (m := 5) (by decide)
  obtain ⟨n, rfl⟩ : ∃ n : Nat, v1 = (n : Int) := ⟨v1.toNat, by omega⟩
  have hn : n < 5 := by omega
  have ei : itemsOf .range [D.v (.int (1 + (n : Int)))] (ST nums (c + 1)) = some (rangeL 0 (n + 1), []) := by
    have := items_range (n := n + 1) (by omega) (ST nums (c + 1))
    rw [show ((n + 1 : Nat) : Int) = 1 + (n : Int) by omega] at this
    exact this
  have hl : (rangeL 0 (n + 1)).length = n + 1 := by simp [rangeL]
  obtain ⟨qs, g1, g2, g3⟩ := draw_list (k := k + 5) h hs (G := GG P k) rfl (ok := stays [] (ST nums (c + 1))) (fun _ => rfl) (i := 12) (σ := [x0, some (.ref 0), x2, x3, x4, x5, x6, x7, x8, x9, x10, x11, x12, x13, x14]) rfl (by decide) (by simp) (rangeL 0 (n + 1)) (c := c + 1) (by omega) (by rw [hl]; omega)
  cases qs with
  | nil =>
    rw [hl] at g1
    cases g1
  | cons q qs =>
    refine ⟨q, qs, by rw [hl] at g1; simp at g1; omega, g2, ?_⟩
    rw [← g1] at g3
    have ep : pures ((q :: qs).map rD) = some ((q :: qs).map rt) := by rw [← map_rD, pures_map]
    clear g1 g2 hn a1 b1 hl
    generalize rangeL 0 (n + 1) = items at ei g3
    generalize q :: qs = zs at g3 ep ⊢
    exact r5a h e1 ei g3 ep
theorem r6 {rows : List Q} (hr : rows.length ≤ 5) : ∃ qs : List Q, qs.length = rows.length ∧ (∀ x ∈ qs, Dr x) ∧ evS (GG P k) t6 [x0, some (.ref 0), x2, x3, x4, x5, x6, some (.v (.list (rows.map rt))), x8, x9, x10, x11, x12, x13, x14] (ST nums c) = some (.nx, [x0, some (.ref 0), x2, x3, x4, x5, x6, some (.v (.list (rows.map rt))), some (.v (.list (qs.map rt))), x9, x10, x11, x12, x13, x14], ST nums (c + 3 * (rows.length : Int))) := by
  have ei : itemsOf .plain [D.v (.list (rows.map rt))] (ST nums c) = some (rows.map rD, []) := by
    show some ((rows.map rt).map D.v, []) = _
    rw [map_rD]
  have hl : (rows.map rD).length = rows.length := by simp
  obtain ⟨qs, g1, g2, g3⟩ := draw_list (k := k + 5) h hs (G := GG P k) rfl (ok := stays [] (ST nums c)) (fun _ => rfl) (i := 14) (σ := [x0, some (.ref 0), x2, x3, x4, x5, x6, some (.v (.list (rows.map rt))), x8, x9, x10, x11, x12, x13, x14]) rfl (by decide) (by simp) (rows.map rD) (c := c) (by omega) (by rw [hl]; omega)
  refine ⟨qs, by rw [g1, hl], g2, ?_⟩
  rw [hl] at g3
  have ep : pures (qs.map rD) = some (qs.map rt) := by rw [← map_rD, pures_map]
  unfold t6
  simp [ei, g3, mkL, ep]
end
end K01

set_option maxRecDepth 100000
namespace K01
open PySem Ev
variable {P : Pr} {k : Nat} (h : Has P)
include h
section
variable {nums : List Int} {c : Int} {x0 x2 x3 x4 x5 x6 x7 x8 x9 x10 x11 x12 x13 x14 : Option D}
omit h in
theorem fine_list {ps : List PyData} (h1 : fines ps = true) (h2 : PyData.depthAll ps ≤ 60) (h3 : wts ps ≤ 15000000) : Fine (.list ps) := by
  refine ⟨by unfold fine; exact h1, by unfold PyData.depth; omega, by unfold wt; omega⟩
theorem isr_t {t b : Int} (h1 : 1 ≤ b) (h2 : Nat.gcd t.natAbs b.natAbs = 1) (M : Store) : callX (callK P loopAny (k + 8) "is_ratio") [.v (.tuple [.int t, .int b])] M = some (.ok (.v (.bool true)), M) := by
  have := callX_v (M := M) (by rfl) (isr_spec (k := k + 6) h (t := t) (b := b))
  rw [decide_eq_true h1, decide_eq_true h2] at this
  exact this
theorem isr_f {t b : Int} (h2 : ¬ Nat.gcd t.natAbs b.natAbs = 1) (M : Store) : callX (callK P loopAny (k + 8) "is_ratio") [.v (.tuple [.int t, .int b])] M = some (.ok (.v (.bool false)), M) := by
  have := callX_v (M := M) (by rfl) (isr_spec (k := k + 6) h (t := t) (b := b))
  rw [decide_eq_false h2, Bool.and_false] at this
  exact this
theorem r7 {top below : Int} {one : Q} (hb : below ≠ 0) (ht : top.natAbs < 2 ^ 28) (hb2 : below.natAbs < 2 ^ 28) (ho : Dr one) :
    evS (GG P k) t7 [x0, some (.ref 0), x2, some (iD top), some (iD below), some (rD one), x6, x7, x8, x9, x10, x11, x12, x13, x14] (ST nums c) = some (.nx, [x0, some (.ref 0), x2, some (iD top), some (iD below), some (rD one), x6, x7, x8, x9, x10, x11, x12, x13, x14], ST nums c) := by
  have e1 : ∀ M, callX (callK P loopAny (k + 8) "ratio") [.v (.int top), .v (.int below)] M = _ := fun M => callX_v (M := M) (by rfl) (ratio_spec (k := k + 6) h.divisor h.ratio (t := top) hb hb2 (by decide) (by decide))
  have e2 : ∀ M, callX (callK P loopAny (k + 8) "_law_ratio") [.v (.int top), .v (.int below)] M = _ := fun M => callX_v (M := M) (by rfl) (Lratio_spec (k := k + 6) h.Ldivisor h.Lratio (t := top) hb hb2 (by decide) (by decide))
  have hp : 1 ≤ one.2 := ho.sz.p
  have hco := ho.co
  have f1 : ∀ M, callX (callK P loopAny (k + 8) "is_ratio") [.v (rt one)] M = some (.ok (.v (.bool true)), M) := fun M => isr_t h hp hco M
  have f2 : ∀ M, callX (callK P loopAny (k + 8) "is_ratio") [.v (.tuple [.int (2 * one.1), .int (2 * one.2)])] M = some (.ok (.v (.bool false)), M) := fun M => by
    have hg : Nat.gcd (2 * one.1).natAbs (2 * one.2).natAbs = 2 := by
      rw [Int.natAbs_mul, Int.natAbs_mul]
      show Nat.gcd (2 * one.1.natAbs) (2 * one.2.natAbs) = 2
      rw [Nat.gcd_mul_left, hco]
    exact isr_f h (by omega) M
  have f3 : ∀ M, callX (callK P loopAny (k + 8) "is_ratio") [.v (.tuple [.int 1, .int 0])] M = some (.ok (.v (.bool false)), M) := fun M => callX_v (M := M) (by rfl) (isr_spec (k := k + 6) h (t := 1) (b := 0))
  have f4 : ∀ M, callX (callK P loopAny (k + 8) "is_ratio") [.v (.tuple [.int 3, .int (-1)])] M = some (.ok (.v (.bool false)), M) := fun M => callX_v (M := M) (by rfl) (isr_spec (k := k + 6) h (t := 3) (b := -1))
  have g1 : mulOk 2 one.1 = true := mulOk_of (n := 2) (m := 28) (by decide) ho.sz.t (by decide) (by decide) (by decide)
  have g2 : mulOk 2 one.2 = true := mulOk_of (n := 2) (m := 28) (by decide) ho.sz.b (by decide) (by decide) (by decide)
  have hsz : Sz 28 (red top below) := sz_red hb ht hb2
  have hf : Fine (.list [rt (red top below), .bool true, .bool false, .bool false, .bool false]) := by
    have d := depth_rt (red top below)
    refine fine_list ?_ ?_ ?_
    · simp [fines, fine, fine_rt hsz (by decide) (by decide)]
    · simp only [PyData.depthAll, PyData.depth]
      omega
    · simp only [wts, wt_rt, wt]
      omega
  have es := same_call (k := k) h hf (ST nums c)
  unfold t7
  simp [e1, e2, f1, f2, f3, f4, g1, g2, sub0, sub1, binP, guardO, LIM, es]
theorem r8 {one other : Q} (ho : Dr one) (hr : Dr other) :
    evS (GG P k) t8 [x0, some (.ref 0), x2, x3, x4, some (rD one), some (rD other), x7, x8, x9, x10, x11, x12, x13, x14] (ST nums c) = some (.nx, [x0, some (.ref 0), x2, x3, x4, some (rD one), some (rD other), x7, x8, some (.v (.list [rt (plus one other), rt (0 - one.1, one.2), rt (mult one other), .bool (lessB one other)])), x10, x11, x12, x13, x14], ST nums c) := by
  have e1 : ∀ M, callX (callK P loopAny (k + 8) "_law_plus") [.v (rt one), .v (rt other)] M = _ := fun M => callX_v (M := M) (by rfl) (Lplus_spec (k := k + 5) h ho.sz hr.sz (by decide) (by decide) (by decide))
  have e2 : ∀ M, callX (callK P loopAny (k + 8) "_law_ratio") [.v (.int (one.1 * other.1)), .v (.int (one.2 * other.2))] M = _ := fun M => callX_v (M := M) (by rfl) (Lratio_spec (k := k + 6) h.Ldivisor h.Lratio (t := one.1 * other.1) (pos_ne ho.sz hr.sz) (mul_lt ho.sz.b hr.sz.b) (by decide) (by decide))
  have e3 : ∀ M, callX (callK P loopAny (k + 8) "_law_less") [.v (rt one), .v (rt other)] M = _ := fun M => callX_v (M := M) (by rfl) (Lless_spec (k := k + 7) h ho.sz hr.sz (by decide) (by decide) (by decide))
  have g1 := mulOk_of ho.sz.t hr.sz.t (by decide) (by decide) (by decide)
  have g2 := mulOk_of ho.sz.b hr.sz.b (by decide) (by decide) (by decide)
  have e4 : red (one.1 * other.1) (one.2 * other.2) = mult one other := rfl
  have e5 : rt (0 - one.1, one.2) = .tuple [.int (0 - one.1), .int one.2] := rfl
  rw [e5]
  unfold t8
  simp [e1, e2, e3, e4, g1, g2, sub0, sub1, binP, guardO, LIM]
theorem r9 {one other : Q} (ho : Dr one) (hr : Dr other) :
    evS (GG P k) t9 [x0, some (.ref 0), x2, x3, x4, some (rD one), some (rD other), x7, x8, some (.v (.list [rt (plus one other), rt (0 - one.1, one.2), rt (mult one other), .bool (lessB one other)])), x10, x11, x12, x13, x14] (ST nums c) = some (.nx, [x0, some (.ref 0), x2, x3, x4, some (rD one), some (rD other), x7, x8, some (.v (.list [rt (plus one other), rt (0 - one.1, one.2), rt (mult one other), .bool (lessB one other)])), x10, x11, x12, x13, x14], ST nums c) := by
  have e1 : ∀ M, callX (callK P loopAny (k + 8) "added") [.v (rt one), .v (rt other)] M = _ := fun M => callX_v (M := M) (by rfl) (added_spec (k := k + 5) h ho.sz hr.sz (by decide) (by decide) (by decide))
  have e2 : ∀ M, callX (callK P loopAny (k + 8) "times") [.v (rt one), .v (rt other)] M = _ := fun M => callX_v (M := M) (by rfl) (times_spec (k := k + 5) h ho.sz hr.sz (by decide) (by decide) (by decide))
  have e3 : ∀ M, callX (callK P loopAny (k + 8) "less") [.v (rt one), .v (rt other)] M = _ := fun M => callX_v (M := M) (by rfl) (less_spec (k := k + 7) h ho.sz hr.sz (by decide) (by decide) (by decide))
  have e4 : ∀ M, callX (callK P loopAny (k + 8) "negative") [.v (rt one)] M = _ := fun M => callX_v (M := M) (by rfl) (negative_spec (k := k + 7) h (q := one))
  have hn : Sz 28 ((0 - one.1, one.2) : Q) := ⟨by
    have := ho.sz.t
    show (0 - one.1).natAbs < 2 ^ 28
    omega, ho.sz.p, ho.sz.b⟩
  have hf : Fine (.list [rt (plus one other), rt (0 - one.1, one.2), rt (mult one other), .bool (lessB one other)]) := by
    have d1 := depth_rt (plus one other)
    have d2 := depth_rt (0 - one.1, one.2)
    have d3 := depth_rt (mult one other)
    refine fine_list ?_ ?_ ?_
    · have f1 := fine_rt (ho.sz.plus hr.sz) (by decide) (by decide)
      have f2 := fine_rt (ho.sz.mult hr.sz) (by decide) (by decide)
      have f3 := fine_rt hn (by decide) (by decide)
      simp only [fines, fine, f1, f2, f3, Bool.and_self]
    · simp only [PyData.depthAll, PyData.depth]
      omega
    · simp only [wts, wt_rt, wt]
      omega
  have es := same_call (k := k) h hf (ST nums c)
  generalize hd : PyData.list [rt (plus one other), rt (0 - one.1, one.2), rt (mult one other), .bool (lessB one other)] = due at es ⊢
  unfold t9
  simp [e1, e2, e3, e4, LIM, hd, es, -Int.zero_sub]
theorem r10 {one other : Q} (ho : Dr one) (hr : Dr other) :
    evS (GG P k) t10 [x0, some (.ref 0), x2, x3, x4, some (rD one), some (rD other), x7, x8, x9, x10, x11, x12, x13, x14] (ST nums c) = some (.nx, [x0, some (.ref 0), x2, x3, x4, some (rD one), some (rD other), x7, x8, x9, x10, x11, x12, x13, x14], ST nums c) := by
  unfold t10
  by_cases hz : other.1 = 0
  · simp [sub0, cmpB, hz]
  · have hz2 : one.2 * other.1 ≠ 0 := by
      have := ho.sz.p
      exact Int.mul_ne_zero (by omega) hz
    have e1 : ∀ M, callX (callK P loopAny (k + 8) "over") [.v (rt one), .v (rt other)] M = _ := fun M => callX_v (M := M) (by rfl) (over_spec (k := k + 5) h ho.sz hr.sz hz (by decide) (by decide) (by decide))
    have e2 : ∀ M, callX (callK P loopAny (k + 8) "_law_ratio") [.v (.int (one.1 * other.2)), .v (.int (one.2 * other.1))] M = _ := fun M => callX_v (M := M) (by rfl) (Lratio_spec (k := k + 6) h.Ldivisor h.Lratio (t := one.1 * other.2) hz2 (mul_lt ho.sz.b hr.sz.t) (by decide) (by decide))
    have g1 := mulOk_of ho.sz.t hr.sz.b (by decide) (by decide) (by decide)
    have g2 := mulOk_of ho.sz.b hr.sz.t (by decide) (by decide) (by decide)
    have hsz : Sz 56 (red (one.1 * other.2) (one.2 * other.1)) := sz_red hz2 (mul_lt ho.sz.t hr.sz.b) (mul_lt ho.sz.b hr.sz.t)
    have hf : Fine (rt (red (one.1 * other.2) (one.2 * other.1))) := ⟨fine_rt hsz (by decide) (by decide), by have := depth_rt (red (one.1 * other.2) (one.2 * other.1)); omega, by rw [wt_rt]; omega⟩
    have es := same_call (k := k) h hf (ST nums c)
    simp [e1, e2, g1, g2, sub0, sub1, binP, guardO, cmpB, hz, es]
theorem r11 {q : Q} {qs : List Q} :
    evS (GG P k) t11 [x0, some (.ref 0), x2, x3, x4, x5, x6, some (.v (.list ((q :: qs).map rt))), x8, x9, x10, x11, x12, x13, x14] (ST nums c) = some (.nx, [x0, some (.ref 0), x2, x3, x4, x5, x6, some (.v (.list ((q :: qs).map rt))), x8, x9, some (rD q), x11, x12, x13, x14], ST nums c) := by
  have ea : L2.atI ((q :: qs).map rt) 0 = some (rt q) := L2.atI_nat (j := 0) rfl
  generalize (q :: qs).map rt = zs at ea ⊢
  unfold t11
  simp [ea]
theorem r12 : evS (GG P k) t12 [x0, some (.ref 0), x2, x3, x4, x5, x6, x7, x8, x9, x10, x11, x12, x13, x14] (ST nums c) = some (.nx, [x0, some (.ref 0), x2, x3, x4, x5, x6, x7, x8, x9, x10, some (rD (0, 1)), x12, x13, x14], ST nums c) := by
  unfold t12
  simp [LIM, rt]
theorem r15 {one : Q} (ho : Dr one) : evS (GG P k) t15 [x0, some (.ref 0), x2, x3, x4, some (rD one), x6, x7, x8, x9, x10, x11, x12, x13, x14] (ST nums c) = some (.nx, [x0, some (.ref 0), x2, x3, x4, some (rD one), x6, x7, x8, x9, x10, x11, x12, some (.v (.str (Str.ofString (toString one.1)))), x14], ST nums c) := by
  have g1 := okInt_of ho.sz.t (by decide) (by decide)
  unfold t15
  simp [sub0, biP, guardO, g1]
theorem r16 {one : Q} (ho : Dr one) : evS (GG P k) t16 [x0, some (.ref 0), x2, x3, x4, some (rD one), x6, x7, x8, x9, x10, x11, x12, some (.v (.str (Str.ofString (toString one.1)))), x14] (ST nums c) = some (.nx, [x0, some (.ref 0), x2, x3, x4, some (rD one), x6, x7, x8, x9, x10, x11, x12, some (.v (.str (txt one))), x14], ST nums c) := by
  have g2 := okInt_of ho.sz.b (by decide) (by decide)
  have l1 := int_len ho.sz.t (by decide)
  have l2 := int_len ho.sz.b (by decide)
  have l3 : (("/" : String) : Str).length = 1 := rfl
  have a2 : ((Str.ofString one.1.repr).length + (Str.ofString "/").length) ≤ LIM := by
    have : LIM = 16777216 := rfl
    have l1 : (Str.ofString one.1.repr).length ≤ 29 := l1
    omega
  have a3 : (Str.ofString one.1.repr ++ Str.ofString "/").length + (Str.ofString one.2.repr).length ≤ LIM := by
    rw [strLen_append]
    have : LIM = 16777216 := rfl
    have l1 : (Str.ofString one.1.repr).length ≤ 29 := l1
    have l2 : (Str.ofString one.2.repr).length ≤ 29 := l2
    omega
  unfold t16
  by_cases h1 : one.2 = 1
  · simp [sub1, cmpB, h1, txt]
  · simp [sub1, cmpB, h1, txt, biP, binP, guardO, g2, a2, a3]
end
end K01

set_option maxRecDepth 100000
namespace K01
open PySem Ev
variable {P : Pr} {k : Nat} (h : Has P)
theorem best_self (q : Q) (qs : List Q) : bestQ (q :: qs) q = bestQ qs q := by
  show bestQ qs (if lessB q q = true then q else q) = _
  rw [ite_self]
theorem fine_txt {q : Q} (hq : Sz 28 q) : Fine (.str (txt q)) := by
  have l1 := int_len hq.t (by decide)
  have l2 := int_len hq.b (by decide)
  have hl : (txt q).length ≤ 60 := by
    unfold txt
    split
    · omega
    · rw [strLen_append, strLen_append]
      have l3 : (("/" : String) : Str).length = 1 := rfl
      omega
  refine ⟨?_, ?_, ?_⟩
  · unfold fine txt
    split
    · exact strOk_of _
    · exact strOk_app (strOk_app (strOk_of _) (strOk_of _)) (strOk_of _)
  · unfold PyData.depth
    decide
  · unfold wt
    omega
include h
section
variable {nums : List Int} {c : Int} {x0 x2 x3 x4 x5 x6 x7 x8 x9 x10 x11 x12 x13 x14 : Option D}
omit h in
theorem r13a {n : Int} {items : List D} {rs ms : List PyData} {one b z b' t' : PyData} {y0 y2 y3 y4 y6 y9 y12 y13 y14 : Option D} (eb : biP .len [.list rs] = some (.int n)) (ei : itemsOf .range [D.v (.int n)] (ST nums c) = some (items, []))
    (e : forL liveL 1 (forStep (GG P k) (.s 12) bL) (stays [] (ST nums c)) items [x0, some (.ref 0), x2, x3, x4, some (.v one), x6, some (.v (.list rs)), some (.v (.list ms)), x9, some (.v b), some (.v z), x12, x13, x14] (ST nums c) = some (.nx, [y0, some (.ref 0), y2, y3, y4, some (.v one), y6, some (.v (.list rs)), some (.v (.list ms)), y9, some (.v b'), some (.v t'), y12, y13, y14], ST nums c)) :
    evS (GG P k) t13 [x0, some (.ref 0), x2, x3, x4, some (.v one), x6, some (.v (.list rs)), some (.v (.list ms)), x9, some (.v b), some (.v z), x12, x13, x14] (ST nums c) = some (.nx, [y0, some (.ref 0), y2, y3, y4, some (.v one), y6, some (.v (.list rs)), some (.v (.list ms)), y9, some (.v b'), some (.v t'), y12, y13, y14], ST nums c) := by
  have ht : t13 = .for_ liveL (.s 12) .range (.cons (.bi .len (.cons (.v 7) .nil)) .nil) bL := rfl
  rw [ht]
  simp [eb, ei, forK, e]
theorem r13 {one : PyData} {rows more : List Q} (hrows : ∀ q ∈ rows, Sz 28 q) (hmore : ∀ q ∈ more, Sz 28 q) (hl : rows.length = more.length) (h5 : rows.length ≤ 5) {b : Q} (hb : Sz 28 b) :
    ∃ y0 y2 y3 y4 y6 y9 y12 y13 y14 : Option D, evS (GG P k) t13 [x0, some (.ref 0), x2, x3, x4, some (.v one), x6, some (.v (.list (rows.map rt))), some (.v (.list (more.map rt))), x9, some (rD b), some (rD (0, 1)), x12, x13, x14] (ST nums c) =
      some (.nx, [y0, some (.ref 0), y2, y3, y4, some (.v one), y6, some (.v (.list (rows.map rt))), some (.v (.list (more.map rt))), y9, some (rD (bestQ rows b)), some (rD (sumQ (List.zipWith mult rows more) (0, 1))), y12, y13, y14], ST nums c)
      ∧ Sz 28 (bestQ rows b) ∧ Sz (1 + 57 * rows.length) (sumQ (List.zipWith mult rows more) (0, 1)) := by
  obtain ⟨y0, y2, y3, y4, y6, y9, y12, y13, y14, e, e2, e3⟩ := loopL (k := k) h (ok := stays [] (ST nums c)) (fun _ => rfl) hrows hmore (x5 := one) (nums := nums) (c := c) rows.length 0 (x0 := x0) (x2 := x2) (x3 := x3) (x4 := x4) (x6 := x6) (x9 := x9) (x12 := x12) (x13 := x13) (x14 := x14) (by omega) hl hb one_sz (by decide) (by omega)
  simp only [List.drop_zero] at e e2 e3
  refine ⟨y0, y2, y3, y4, y6, y9, y12, y13, y14, ?_, e2, e3⟩
  have ei := items_range (n := rows.length) (by omega) (ST nums c)
  have er : rangeL 0 rows.length = (List.range' 0 rows.length).map fun (i : Nat) => iD (i : Int) := by
    rw [rangeL_map, List.map_map, List.range_eq_range']
    rfl
  rw [er] at ei
  have eb : biP .len [.list (rows.map rt)] = some (.int (rows.length : Int)) := by
    show some (PyData.int ((rows.map rt).length : Int)) = _
    rw [List.length_map]
  exact r13a eb ei e
theorem r14 {q : Q} {qs more : List Q} (hrows : ∀ x ∈ q :: qs, Sz 28 x) (hmore : ∀ x ∈ more, Sz 28 x) (h5 : (q :: qs).length ≤ 5) (hb : Sz 28 (bestQ (q :: qs) q)) (ht : Sz (1 + 57 * (q :: qs).length) (sumQ (List.zipWith mult (q :: qs) more) (0, 1))) :
    evS (GG P k) t14 [x0, some (.ref 0), x2, x3, x4, x5, x6, some (.v (.list ((q :: qs).map rt))), some (.v (.list (more.map rt))), x9, some (rD (bestQ (q :: qs) q)), some (rD (sumQ (List.zipWith mult (q :: qs) more) (0, 1))), x12, x13, x14] (ST nums c) =
      some (.nx, [x0, some (.ref 0), x2, x3, x4, x5, x6, some (.v (.list ((q :: qs).map rt))), some (.v (.list (more.map rt))), x9, some (rD (bestQ (q :: qs) q)), some (rD (sumQ (List.zipWith mult (q :: qs) more) (0, 1))), x12, x13, x14], ST nums c) := by
  obtain ⟨s1, s2⟩ := summed_spec (k := k + 4) h (w := 28) (by decide) hrows (by omega)
  have e1 : ∀ M, callX (callK P loopAny (k + 8) "greatest") [.v (.list ((q :: qs).map rt))] M = some (.ok (rD (bestQ (q :: qs) q)), M) := fun M => by
    rw [best_self]
    exact callX_v (M := M) (by rfl) (greatest_spec (k := k + 6) h hrows)
  have e2 : ∀ M, callX (callK P loopAny (k + 8) "summed") [.v (.list ((q :: qs).map rt))] M = _ := fun M => callX_v (M := M) (by rfl) s1
  have e3 : ∀ M, callX (callK P loopAny (k + 8) "_law_sum") [.v (.list ((q :: qs).map rt))] M = _ := fun M => callX_v (M := M) (by rfl) (Lsum_spec (k := k + 4) h (w := 28) (by decide) hrows (by omega))
  have e4 : ∀ M, callX (callK P loopAny (k + 8) "weighed") [.v (.list ((q :: qs).map rt)), .v (.list (more.map rt))] M = _ := fun M => callX_v (M := M) (by rfl) (weighed_spec (k := k + 3) h hrows hmore (by omega))
  generalize bestQ (q :: qs) q = b' at e1 hb ⊢
  generalize sumQ (q :: qs) (0, 1) = s' at e2 e3 s2
  generalize sumQ (List.zipWith mult (q :: qs) more) (0, 1) = t' at e4 ht ⊢
  have hf : Fine (.list [rt b', rt s', rt t']) := by
    have d1 := depth_rt b'
    have d2 := depth_rt s'
    have d3 := depth_rt t'
    refine fine_list ?_ ?_ ?_
    · have f1 := fine_rt hb (by decide) (by decide)
      have f2 := fine_rt s2 (by omega) (by omega)
      have f3 := fine_rt ht (by omega) (by omega)
      simp only [fines, f1, f2, f3, Bool.and_self]
    · simp only [PyData.depthAll]
      omega
    · simp only [wts, wt_rt]
      omega
  have es := same_call (k := k) h hf (ST nums c)
  generalize (q :: qs).map rt = rs at e1 e2 e3 e4 ⊢
  generalize more.map rt = ms at e4 ⊢
  unfold t14
  simp [e1, e2, e3, e4, LIM, es]
theorem r17 {one : Q} (ho : Dr one) : evS (GG P k) t17 [x0, some (.ref 0), x2, x3, x4, some (rD one), x6, x7, x8, x9, x10, x11, x12, some (.v (.str (txt one))), x14] (ST nums c) = some (.nx, [x0, some (.ref 0), x2, x3, x4, some (rD one), x6, x7, x8, x9, x10, x11, x12, some (.v (.str (txt one))), x14], ST nums c) := by
  have e1 : ∀ M, callX (callK P loopAny (k + 8) "ratio_text") [.v (rt one)] M = _ := fun M => callX_v (M := M) (by rfl) (text_spec (k := k + 7) h ho.sz (by decide) (by decide))
  have es := same_call (k := k) h (fine_txt ho.sz) (ST nums c)
  unfold t17
  simp [e1, es]
end
end K01

set_option maxRecDepth 100000
namespace K01
open PySem Ev
variable {P : Pr} {k : Nat} (h : Has P)
include h
theorem turn {nums : List Int} (hs : Ev.Stream nums) {c : Int} (hc : 0 ≤ c) (hc2 : c < 700000) {x0 x2 x3 x4 x5 x6 x7 x8 x9 x10 x11 x12 x13 x14 : Option D} :
    ∃ (y0 y2 y3 y4 y5 y6 y7 y8 y9 y10 y11 y12 y13 y14 : Option D) (c' : Int), 0 ≤ c' ∧ c' ≤ c + 50 ∧ evS (GG P k) bT [x0, some (.ref 0), x2, x3, x4, x5, x6, x7, x8, x9, x10, x11, x12, x13, x14] (ST nums c) = some (.nx, [y0, some (.ref 0), y2, y3, y4, y5, y6, y7, y8, y9, y10, y11, y12, y13, y14], ST nums c') := by
  obtain ⟨top, htop, e1⟩ := r1 (k := k) h hs hc (by omega) (x0 := x0) (x2 := x2) (x3 := x3) (x4 := x4) (x5 := x5) (x6 := x6) (x7 := x7) (x8 := x8) (x9 := x9) (x10 := x10) (x11 := x11) (x12 := x12) (x13 := x13) (x14 := x14)
  obtain ⟨below, hb0, hb1, e2⟩ := r2 (k := k) h hs (c := c + 1) (by omega) (by omega) (x0 := x0) (x2 := x2) (x3 := some (iD top)) (x4 := x4) (x5 := x5) (x6 := x6) (x7 := x7) (x8 := x8) (x9 := x9) (x10 := x10) (x11 := x11) (x12 := x12) (x13 := x13) (x14 := x14)
  obtain ⟨one, done, e3⟩ := r3 (k := k) h hs (c := c + 1 + 3) (by omega) (by omega) (x0 := x0) (x2 := x2) (x3 := some (iD top)) (x4 := some (iD below)) (x5 := x5) (x6 := x6) (x7 := x7) (x8 := x8) (x9 := x9) (x10 := x10) (x11 := x11) (x12 := x12) (x13 := x13) (x14 := x14)
  obtain ⟨other, dother, e4⟩ := r4 (k := k) h hs (c := c + 1 + 3 + 3) (by omega) (by omega) (x0 := x0) (x2 := x2) (x3 := some (iD top)) (x4 := some (iD below)) (x5 := some (rD one)) (x6 := x6) (x7 := x7) (x8 := x8) (x9 := x9) (x10 := x10) (x11 := x11) (x12 := x12) (x13 := x13) (x14 := x14)
  obtain ⟨q, qs, hl, hrows, e5⟩ := r5 (k := k) h hs (c := c + 1 + 3 + 3 + 3) (by omega) (by omega) (x0 := x0) (x2 := x2) (x3 := some (iD top)) (x4 := some (iD below)) (x5 := some (rD one)) (x6 := some (rD other)) (x7 := x7) (x8 := x8) (x9 := x9) (x10 := x10) (x11 := x11) (x12 := x12) (x13 := x13) (x14 := x14)
  have hl5 : (q :: qs).length ≤ 5 := by
    rw [List.length_cons]
    omega
  have hl5' : ((q :: qs).length : Int) ≤ 5 := by omega
  obtain ⟨more, hml, hmore, e6⟩ := r6 (k := k) h hs (c := c + 1 + 3 + 3 + 3 + 1 + 3 * ((q :: qs).length : Int)) (by omega) (by omega) (rows := q :: qs) hl5 (x0 := x0) (x2 := x2) (x3 := some (iD top)) (x4 := some (iD below)) (x5 := some (rD one)) (x6 := some (rD other)) (x8 := x8) (x9 := x9) (x10 := x10) (x11 := x11) (x12 := x12) (x13 := x13) (x14 := x14)
  have c1 : c + 1 + 3 + 3 + 3 + 1 + 3 * ((q :: qs).length : Int) + 3 * ((q :: qs).length : Int) ≤ c + 50 := by omega
  have c0 : 0 ≤ c + 1 + 3 + 3 + 3 + 1 + 3 * ((q :: qs).length : Int) + 3 * ((q :: qs).length : Int) := by omega
  generalize c + 1 + 3 + 3 + 3 + 1 + 3 * ((q :: qs).length : Int) + 3 * ((q :: qs).length : Int) = c' at e6 c1 c0
  have srows : ∀ x ∈ q :: qs, Sz 28 x := fun x hx => (hrows x hx).sz
  have smore : ∀ x ∈ more, Sz 28 x := fun x hx => (hmore x hx).sz
  have e7 := r7 (k := k) h (nums := nums) (c := c') hb0 htop hb1 done (x0 := x0) (x2 := x2) (x6 := some (rD other)) (x7 := some (.v (.list ((q :: qs).map rt)))) (x8 := some (.v (.list (more.map rt)))) (x9 := x9) (x10 := x10) (x11 := x11) (x12 := x12) (x13 := x13) (x14 := x14)
  have e8 := r8 (k := k) h (nums := nums) (c := c') done dother (x0 := x0) (x2 := x2) (x3 := some (iD top)) (x4 := some (iD below)) (x7 := some (.v (.list ((q :: qs).map rt)))) (x8 := some (.v (.list (more.map rt)))) (x9 := x9) (x10 := x10) (x11 := x11) (x12 := x12) (x13 := x13) (x14 := x14)
  have e9 := r9 (k := k) h (nums := nums) (c := c') done dother (x0 := x0) (x2 := x2) (x3 := some (iD top)) (x4 := some (iD below)) (x7 := some (.v (.list ((q :: qs).map rt)))) (x8 := some (.v (.list (more.map rt)))) (x10 := x10) (x11 := x11) (x12 := x12) (x13 := x13) (x14 := x14)
  generalize PyData.list [rt (plus one other), rt (0 - one.1, one.2), rt (mult one other), .bool (lessB one other)] = due at e8 e9
  have e10 := r10 (k := k) h (nums := nums) (c := c') done dother (x0 := x0) (x2 := x2) (x3 := some (iD top)) (x4 := some (iD below)) (x7 := some (.v (.list ((q :: qs).map rt)))) (x8 := some (.v (.list (more.map rt)))) (x9 := some (.v due)) (x10 := x10) (x11 := x11) (x12 := x12) (x13 := x13) (x14 := x14)
  have e11 := r11 (k := k) h (nums := nums) (c := c') (q := q) (qs := qs) (x0 := x0) (x2 := x2) (x3 := some (iD top)) (x4 := some (iD below)) (x5 := some (rD one)) (x6 := some (rD other)) (x8 := some (.v (.list (more.map rt)))) (x9 := some (.v due)) (x10 := x10) (x11 := x11) (x12 := x12) (x13 := x13) (x14 := x14)
  have e12 := r12 (k := k) h (nums := nums) (c := c') (x0 := x0) (x2 := x2) (x3 := some (iD top)) (x4 := some (iD below)) (x5 := some (rD one)) (x6 := some (rD other)) (x7 := some (.v (.list ((q :: qs).map rt)))) (x8 := some (.v (.list (more.map rt)))) (x9 := some (.v due)) (x10 := some (rD q)) (x11 := x11) (x12 := x12) (x13 := x13) (x14 := x14)
  obtain ⟨y0, y2, y3, y4, y6, y9, y12, y13, y14, e13, z1, z2⟩ := r13 (k := k) h (nums := nums) (c := c') (one := rt one) srows smore hml.symm hl5 (srows q List.mem_cons_self) (x0 := x0) (x2 := x2) (x3 := some (iD top)) (x4 := some (iD below)) (x6 := some (rD other)) (x9 := some (.v due)) (x12 := x12) (x13 := x13) (x14 := x14)
  have e14 := r14 (k := k) h (nums := nums) (c := c') srows smore hl5 z1 z2 (x0 := y0) (x2 := y2) (x3 := y3) (x4 := y4) (x5 := some (rD one)) (x6 := y6) (x9 := y9) (x12 := y12) (x13 := y13) (x14 := y14)
  have e15 := r15 (k := k) h (nums := nums) (c := c') done (x0 := y0) (x2 := y2) (x3 := y3) (x4 := y4) (x6 := y6) (x7 := some (.v (.list ((q :: qs).map rt)))) (x8 := some (.v (.list (more.map rt)))) (x9 := y9) (x10 := some (rD (bestQ (q :: qs) q))) (x11 := some (rD (sumQ (List.zipWith mult (q :: qs) more) (0, 1)))) (x12 := y12) (x13 := y13) (x14 := y14)
  have e16 := r16 (k := k) h (nums := nums) (c := c') done (x0 := y0) (x2 := y2) (x3 := y3) (x4 := y4) (x6 := y6) (x7 := some (.v (.list ((q :: qs).map rt)))) (x8 := some (.v (.list (more.map rt)))) (x9 := y9) (x10 := some (rD (bestQ (q :: qs) q))) (x11 := some (rD (sumQ (List.zipWith mult (q :: qs) more) (0, 1)))) (x12 := y12) (x14 := y14)
  have e17 := r17 (k := k) h (nums := nums) (c := c') done (x0 := y0) (x2 := y2) (x3 := y3) (x4 := y4) (x6 := y6) (x7 := some (.v (.list ((q :: qs).map rt)))) (x8 := some (.v (.list (more.map rt)))) (x9 := y9) (x10 := some (rD (bestQ (q :: qs) q))) (x11 := some (rD (sumQ (List.zipWith mult (q :: qs) more) (0, 1)))) (x12 := y12) (x14 := y14)
  refine ⟨y0, y2, y3, y4, some (rD one), y6, some (.v (.list ((q :: qs).map rt))), some (.v (.list (more.map rt))), y9, some (rD (bestQ (q :: qs) q)), some (rD (sumQ (List.zipWith mult (q :: qs) more) (0, 1))), y12, some (.v (.str (txt one))), y14, c', c0, c1, ?_⟩
  unfold bT
  rw [s_seq, e1, thenS_nx, s_seq, e2, thenS_nx, s_seq, e3, thenS_nx, s_seq, e4, thenS_nx, s_seq, e5, thenS_nx, s_seq, e6, thenS_nx, s_seq, e7, thenS_nx, s_seq, e8, thenS_nx, s_seq, e9, thenS_nx, s_seq, e10, thenS_nx, s_seq, e11, thenS_nx, s_seq, e12, thenS_nx, s_seq, e13, thenS_nx, s_seq, e14, thenS_nx, s_seq, e15, thenS_nx, s_seq, e16, thenS_nx, s_seq, e17, thenS_nx, s_skip]
theorem turns {nums : List Int} (hs : Ev.Stream nums) {ok : Store → Bool} (hok : ∀ N, ok N = true) : ∀ (items : List Int) {c : Int} {x0 x2 x3 x4 x5 x6 x7 x8 x9 x10 x11 x12 x13 x14 : Option D}, 0 ≤ c → c + 50 * items.length < 700000 →
    ∃ (σ' : Slots) (c' : Int), forL [false, true, false, false, false, false, false, false, false, false, false, false, false, false, false] 1 (forStep (GG P k) (.s 2) bT) ok (items.map iD) [x0, some (.ref 0), x2, x3, x4, x5, x6, x7, x8, x9, x10, x11, x12, x13, x14] (ST nums c) = some (.nx, σ', ST nums c')
  | [], c, x0, x2, x3, x4, x5, x6, x7, x8, x9, x10, x11, x12, x13, x14, hc, hc2 => ⟨_, c, rfl⟩
  | i :: items, c, x0, x2, x3, x4, x5, x6, x7, x8, x9, x10, x11, x12, x13, x14, hc, hc2 => by
    have hl : ((i :: items).length : Int) = (items.length : Int) + 1 := by simp
    obtain ⟨y0, y2, y3, y4, y5, y6, y7, y8, y9, y10, y11, y12, y13, y14, c', g0, g1, e⟩ := turn (k := k) h hs hc (by omega) (x0 := x0) (x2 := some (iD i)) (x3 := x3) (x4 := x4) (x5 := x5) (x6 := x6) (x7 := x7) (x8 := x8) (x9 := x9) (x10 := x10) (x11 := x11) (x12 := x12) (x13 := x13) (x14 := x14)
    obtain ⟨σ', c2, e2⟩ := turns hs hok items (c := c') (x0 := none) (x2 := none) (x3 := none) (x4 := none) (x5 := none) (x6 := none) (x7 := none) (x8 := none) (x9 := none) (x10 := none) (x11 := none) (x12 := none) (x13 := none) (x14 := none) g0 (by omega)
    refine ⟨σ', c2, ?_⟩
    rw [List.map_cons]
    unfold forL
    have st : forStep (GG P k) (.s 2) bT (iD i) [x0, some (.ref 0), x2, x3, x4, x5, x6, x7, x8, x9, x10, x11, x12, x13, x14] (ST nums c) = evS (GG P k) bT [x0, some (.ref 0), some (iD i), x3, x4, x5, x6, x7, x8, x9, x10, x11, x12, x13, x14] (ST nums c) := by
      simp [forStep]
    rw [st, e]
    show (if ok _ = true then tidy _ 1 _ _ _ else none) = _
    rw [if_pos (hok _), tidy_eq, tidyS_ST (by rfl)]
    exact e2
def d_law2 : Def := ⟨1, 15, (.seq (.asg 1 (.lst true (.cons (.call "_law_stream" (.cons (.v 0) .nil)) (.cons (.k (.int 0)) .nil))))
 (.seq (.for_ [false, true, false, false, false, false, false, false, false, false, false, false, false, false, false] (.s 2) .range (.cons (.k (.int 12)) .nil) bT)
 (.seq (.ret (.k (.bool true)))
 .skip)))⟩
omit h in
theorem d_law_eq : d_law = d_law2 := rfl
omit h in
theorem law_a {G : Sig} {is nums : List Int} {σ' : Slots} {c' : Int} {items : List D} (e1 : callX (G.call "_law_stream") [.scr is] [] = some (.ok (.v (.list (nums.map .int))), [])) (ei : itemsOf .range [D.v (.int 12)] (ST nums 0) = some (items, []))
    (e2 : forL [false, true, false, false, false, false, false, false, false, false, false, false, false, false, false] 1 (forStep G (.s 2) bT) (stays [] (ST nums 0)) items [some (.scr is), some (.ref 0), none, none, none, none, none, none, none, none, none, none, none, none, none] (ST nums 0) = some (.nx, σ', ST nums c')) :
    runDef G d_law2 [.scr is] [] = some (.ok (.v (.bool true)), []) := by
  have e0 : ([some (.lst [.v (.list (nums.map .int)), .v (.int 0)])] : Store) = ST nums 0 := rfl
  unfold d_law2 runDef
  simp [e1, LIM, e0, ei, forK, e2, leave, below, cellsBelow, refsD]
theorem law_spec (is : List Int) (hl : is.length ≤ 63) : callK P loopAny (k + 9) "law" [.scr is] [] = some (.ok (.v (.bool true)), []) := by
  obtain ⟨nums, hs, e⟩ := stream_spec (k := k + 7) h.stream is hl
  have e1 := callX_v (M := []) (by rfl) e
  obtain ⟨σ', c', e2⟩ := turns (k := k) h hs (ok := stays [] (ST nums 0)) (fun _ => rfl) ((List.range 12).map fun (i : Nat) => (i : Int)) (c := 0) (x0 := some (.scr is)) (x2 := none) (x3 := none) (x4 := none) (x5 := none) (x6 := none) (x7 := none) (x8 := none) (x9 := none) (x10 := none) (x11 := none) (x12 := none) (x13 := none) (x14 := none) (by omega) (by simp)
  rw [← rangeL_map] at e2
  have ei := items_range (n := 12) (by decide) (ST nums 0)
  unfold callK
  rw [h.law, d_law_eq]
  exact law_a e1 ei e2
end K01

set_option maxRecDepth 100000
set_option maxHeartbeats 0
namespace K01
open PySem PySem.Spec PyProof.Rows L2 Ev
abbrev hk : PySem.W.Hook := He.hookX 4 (faOf prog gls exs) (prog.map (·.1)) [] [] fun _ => true
def ob (s : PySem.W.SharedT) : He.AlX := He.obsX 4 (faOf prog gls exs) (prog.map (·.1)) [] [] (fun _ => true) (HandSHeadRun.getT s)
theorem ob_eq (s : PySem.W.SharedT) : ob s = hk.obs s.abs := He.obsX_eq (HandSHeadRun.getT_eq s)
theorem run (w : World) : HandSHeadRun.RunEq R (PySem.W.view R.prog [32]) hk ob 4000 loose w := by
  intro os
  kernel_rfl
theorem chk : prog.all (chkDef (fnsOf prog) (gNames gls) exs) = true := by decide +kernel
theorem has : Has (prOf prog gls) := by constructor <;> kernel_rfl
theorem law_holds (ns : List Int) (hl : ns.length ≤ 63) : ∃ M', callK (prOf prog gls) loopAny (30 + 1) "law" [.scr ns] [] = some (.ok (.v (.bool true)), M') := ⟨[], law_spec (k := 22) has ns hl⟩
end K01
open PySem PySem.W PySem.Calls PyProof.Rows in
theorem PySem.Challenge.cw_fewasked_k01_ratios_holds : PySem.Challenge.rw_fewasked_k01_ratios.Holds := by
  w_on; o_law
  refine HandSHeadRun.head_any (r := OpenLaw.row PySem.Challenge.rw_fewasked_k01_ratios) (q := view (OpenLaw.row PySem.Challenge.rw_fewasked_k01_ratios).prog [32]) (H := K01.hk) (ob := K01.ob) (M := 4000) (loose := K01.loose) (d := HandSHeadRun.topDef (OpenLaw.row PySem.Challenge.rw_fewasked_k01_ratios).prog 32) (kwd := []) K01.ob_eq
    (by kernel_rfl) (fun s => by kernel_rfl) K01.run (by kernel_rfl) (by kernel_rfl) (by kernel_rfl) (by rfl) (by first | assumption | decide +kernel) (by decide +kernel) ⟨rfl, rfl, rfl, rfl, rfl, by decide +kernel⟩ ?hw ?hc
  case hw => w_witness2
  case hc =>
    exact Ev.law_of (l := PySem.Challenge.rw_fewasked_k01_ratios) (n := 63) (k := 30) (x := "script") (p := K01.prog) (gls := K01.gls) (exs := K01.exs) (W := Ev.loopAny) (ts := []) (tf := []) (ex := fun _ => true) rfl (by decide) (by kernel_rfl) ⟨rfl, by decide, by decide⟩ (by kernel_rfl) Ev.loopAny_ok (by decide +kernel) K01.chk ⟨(K01.dd "law" 32, K01.n_law, K01.d_law), by simp [K01.prog], rfl, by kernel_rfl, by kernel_rfl⟩ K01.law_holds
