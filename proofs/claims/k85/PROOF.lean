import PyProof.Rows.All
import Wide.All
import OpenK.AllK
import Wide.FinOn
import PySem.Challenge.RW_evenflow_k85_sand_that_comes_back
import HandS.ForMost
import HandS.ForExc
import HandS.Flow
import HandS.TupAny
import HandS.TupMul
import HandS.TupLe
import HandS.Deep
import HandS.IsInst
import HandS.Style
import HandS.Zip
import HandS.Conv
import HandS.Small
import HandS.Wide
import HandS.SortInts
import PyProof.Rows.IntBool
import KE.DataMinMax
import HandS.More
import HandS.Words
import HandS.WordsExc
import HandS.Ends
set_option Elab.async false
set_option linter.all false
set_option maxRecDepth 100000
set_option maxHeartbeats 8000000
/-! Mp: a small deterministic language (the part of Python that the given package is written in), its values and its meaning as a plain function. -/
namespace MP

/-- values: immutable data as trees, mutable lists by their place in the heap -/
inductive D where
  | und | non
  | bl (b : Bool) | int (i : Int) | str (s : List Nat)
  | tup (xs : List D) | lst (xs : List D) | frz (xs : List D)
  | ref (n : Nat) | clo (k : Nat) (env : List D)
  deriving Inhabited

inductive Ob where
  | lst (xs : List D) | dic (kvs : List (D × D)) | set (xs : List D)
  | hid
  deriving Inhabited

abbrev Env := List D
abbrev Heap := List Ob

/-! ### equality of values -/
mutual
def D.beq : D → D → Bool
  | .und, .und => true
  | .non, .non => true
  | .bl a, .bl b => a == b
  | .int a, .int b => a == b
  | .str a, .str b => a == b
  | .tup xs, .tup ys => D.beqs xs ys
  | .lst xs, .lst ys => D.beqs xs ys
  | .frz xs, .frz ys => D.beqs xs ys
  | .ref a, .ref b => a == b
  | .clo a xs, .clo b ys => a == b && D.beqs xs ys
  | _, _ => false
def D.beqs : List D → List D → Bool
  | [], [] => true
  | x :: xs, y :: ys => D.beq x y && D.beqs xs ys
  | _, _ => false
end
def D.beqp : List (D × D) → List (D × D) → Bool
  | [], [] => true
  | (a, b) :: xs, (c, d) :: ys => D.beq a c && D.beq b d && D.beqp xs ys
  | _, _ => false
def Ob.beq : Ob → Ob → Bool
  | .lst xs, .lst ys => D.beqs xs ys
  | .dic xs, .dic ys => D.beqp xs ys
  | .set xs, .set ys => D.beqs xs ys
  | _, _ => false

/-! Python's == on data -/
mutual
def D.eqv : D → D → Bool
  | .non, .non => true
  | .bl a, .bl b => a == b
  | .bl a, .int j => (if a then 1 else 0) == j
  | .int i, .bl b => i == (if b then 1 else 0)
  | .int i, .int j => i == j
  | .str x, .str y => x == y
  | .lst xs, .lst ys => D.eqvs xs ys
  | .tup xs, .tup ys => D.eqvs xs ys
  | _, _ => false
def D.eqvs : List D → List D → Bool
  | [], [] => true
  | x :: xs, y :: ys => D.eqv x y && D.eqvs xs ys
  | _, _ => false
end

/-! plain data: no place of the heap in it, at most n deep -/
mutual
def D.flat : Nat → D → Bool
  | _, .non => true
  | _, .bl _ => true
  | _, .int _ => true
  | _, .str s => s.all (· < 1114112)
  | n, .tup xs => D.flats n xs
  | n, .lst xs => D.flats n xs
  | _, _ => false
def D.flats : Nat → List D → Bool
  | _, [] => true
  | 0, _ :: _ => false
  | n + 1, x :: xs => D.flat n x && D.flats (n + 1) xs
end
/-! no place from n on -/
mutual
def D.low : Nat → D → Bool
  | n, .ref k => decide (k < n)
  | n, .tup xs => D.lows n xs
  | n, .lst xs => D.lows n xs
  | n, .frz xs => D.lows n xs
  | n, .clo _ xs => D.lows n xs
  | _, _ => true
def D.lows : Nat → List D → Bool
  | _, [] => true
  | n, x :: xs => D.low n x && D.lows n xs
end
def Ob.low (n : Nat) : Ob → Bool
  | .lst xs => D.lows n xs
  | .dic kvs => kvs.all fun p => D.low n p.1 && D.low n p.2
  | .set xs => D.lows n xs
  | .hid => true

def DEEP : Nat := 12
/-! what a value is as plain data, places read -/
mutual
def rsv (h : Heap) : Nat → D → Option D
  | 0, _ => none
  | _ + 1, .non => some .non
  | _ + 1, .bl b => some (.bl b)
  | _ + 1, .int i => some (.int i)
  | _ + 1, .str s => if s.all (· < 1114112) then some (.str s) else none
  | n + 1, .tup xs => (rsvs h n xs).map .tup
  | n + 1, .lst xs => (rsvs h n xs).map .lst
  | n + 1, .ref k => match h[k]? with
    | some (.lst xs) => (rsvs h n xs).map .lst
    | _ => none
  | _ + 1, _ => none
def rsvs (h : Heap) : Nat → List D → Option (List D)
  | 0, _ => none
  | _ + 1, [] => some []
  | n + 1, x :: xs => (rsv h n x).bind fun y => (rsvs h (n + 1) xs).map (y :: ·)
end
def rsvD (h : Heap) (d : D) : Option D := if d.flat DEEP then some d else rsv h DEEP d
def eqD (h : Heap) (a b : D) : Option Bool := (rsvD h a).bind fun x => (rsvD h b).map fun y => D.eqv x y

/-! ### results -/
inductive R (α : Type) where
  | ok (a : α) (h : Heap) | exc (c : Nat) (h : Heap) | bad
def R.bind {α β : Type} (r : R α) (f : α → Heap → R β) : R β := match r with
  | .ok a h => f a h
  | .exc c h => .exc c h
  | .bad => .bad
/-- an exception is not meant here -/
def R.calm {α : Type} : R α → R α
  | .ok a h => .ok a h
  | _ => .bad
def R.opt {α : Type} (h : Heap) : Option α → R α
  | some a => .ok a h
  | none => .bad

def SZ : Nat := 16777216
def items (h : Heap) : D → Option (List D)
  | .tup xs => some xs
  | .lst xs => some xs
  | .frz xs => some xs
  | .ref n => match h[n]? with
    | some (.lst xs) => some xs
    | _ => none
  | _ => none
def truthy (h : Heap) : D → Option Bool
  | .non => some false
  | .bl b => some b
  | .int i => some (i != 0)
  | .str s => if s.length ≤ SZ then some (!s.isEmpty) else none
  | .tup xs => some (!xs.isEmpty)
  | .lst xs => some (!xs.isEmpty)
  | .ref n => match h[n]? with
    | some (.lst xs) => some (!xs.isEmpty)
    | _ => none
  | _ => none

/-! ### operators -/
inductive BOp where
  | add (imm : Bool) | sub | mul (imm : Bool) | fdiv | mod | pow
  deriving DecidableEq
inductive COp where
  | eq | ne | lt | le | gt | ge | is | isnot | isin | notin
  deriving DecidableEq
def b2i (b : Bool) : Int := if b then 1 else 0
def newL (imm : Bool) (xs : List D) (h : Heap) : R D :=
  if xs.length ≤ SZ then (if imm then .ok (.lst xs) h else .ok (.ref h.length) (h ++ [.lst xs])) else .bad
def rlist (h : Heap) : D → Option (List D)
  | .lst xs => some xs
  | .ref n => match h[n]? with
    | some (.lst xs) => some xs
    | _ => none
  | _ => none
def smallI (i : Int) : Bool := decide (-18446744073709551616 < i) && decide (i < 18446744073709551616)
/-- below 2 ^ 400000: bits -/
def wideI (i : Int) : Bool := decide (i.natAbs < 2 ^ 200000)
def mulOk (i j : Int) : Bool := smallI i || smallI j || (wideI i && wideI j)
def rep (k : Nat) (xs : List D) : List D := (List.replicate k xs).flatten
def opB (o : BOp) (a b : D) (h : Heap) : R D :=
  match o, a, b with
  | .add _, .int i, .int j => .ok (.int (i + j)) h
  | .add _, .int i, .bl j => .ok (.int (i + b2i j)) h
  | .add _, .bl i, .int j => .ok (.int (b2i i + j)) h
  | .add _, .bl i, .bl j => .ok (.int (b2i i + b2i j)) h
  | .add _, .tup xs, .tup ys => if xs.length + ys.length ≤ SZ then .ok (.tup (xs ++ ys)) h else .bad
  | .add _, .str xs, .str ys => if xs.length + ys.length ≤ SZ then .ok (.str (xs ++ ys)) h else .bad
  | .add m, x, y => match rlist h x, rlist h y with
    | some xs, some ys => if xs.length + ys.length ≤ SZ then newL m (xs ++ ys) h else .bad
    | _, _ => .bad
  | .sub, .int i, .int j => .ok (.int (i - j)) h
  | .mul _, .int i, .int j => if mulOk i j then .ok (.int (i * j)) h else .bad
  | .mul _, .tup xs, .int k => if xs.isEmpty || decide (k < 2) || decide (1000 < k) || decide (1000 < xs.length) then
      (if k = 1 then .ok (.tup xs) h else .bad) else .ok (.tup (rep k.toNat xs)) h
  | .mul m, x, .int k => match rlist h x with
    | some xs => if decide (k ≤ 4096) && decide (-4096 ≤ k) && decide (xs.length ≤ 4096) then newL m (rep k.toNat xs) h else .bad
    | none => .bad
  | .fdiv, .int i, .int j => if 0 < j ∧ j < 1073741824 then .ok (.int (i / j)) h else .bad
  | .mod, .int i, .int j => if 0 < j then .ok (.int (i % j)) h else .bad
  | .pow, .int i, .int j => if 0 ≤ j ∧ j ≤ 1000 ∧ i.natAbs < 18446744073709551616 then .ok (.int (i ^ j.toNat)) h else .bad
  | _, _, _ => .bad

/-- op= of intsOf -/
def augI (o : BOp) (a b : D) : Option D := match o, a, b with
  | .add _, .int i, .int j => some (.int (i + j))
  | .sub, .int i, .int j => some (.int (i - j))
  | .mul _, .int i, .int j => if mulOk i j then some (.int (i * j)) else none
  | _, _, _ => none
/-- t < u of tuples of intsOf -/
def intsOf : List D → Option (List Int)
  | [] => some []
  | .int i :: r => (intsOf r).map (i :: ·)
  | _ :: _ => none
def lexLt : List Int → List Int → Bool
  | [], [] => false
  | [], _ :: _ => true
  | _ :: _, [] => false
  | x :: xs, y :: ys => if x = y then lexLt xs ys else decide (x < y)
def opC (o : COp) (a b : D) (h : Heap) : Option Bool :=
  match o, a, b with
  | .eq, .int i, .int j => some (i == j)
  | .ne, .int i, .int j => some (!(i == j))
  | .eq, x, y => eqD h x y
  | .ne, x, y => (eqD h x y).map (!·)
  | .lt, .int i, .int j => some (decide (i < j))
  | .le, .int i, .int j => some (decide (i ≤ j))
  | .gt, .int i, .int j => some (decide (j < i))
  | .ge, .int i, .int j => some (decide (j ≤ i))
  | .lt, .tup xs, .tup ys => (intsOf xs).bind fun ns => (intsOf ys).map fun ms => lexLt ns ms
  | .is, x, .non => match x with
    | .non => some true
    | .und => none
    | _ => some false
  | .isnot, x, .non => match x with
    | .non => some false
    | .und => none
    | _ => some true
  | .is, .bl x, .bl y => some (x == y)
  | .isnot, .bl x, .bl y => some (!(x == y))
  | .isin, x, y => (rsvD h x).bind fun d => (rsvD h y).bind fun ys => match ys with
    | .lst zs => some (zs.any fun z => D.eqv z d)
    | .tup zs => some (zs.any fun z => D.eqv z d)
    | _ => none
  | .notin, x, y => (rsvD h x).bind fun d => (rsvD h y).bind fun ys => match ys with
    | .lst zs => some (!zs.any fun z => D.eqv z d)
    | .tup zs => some (!zs.any fun z => D.eqv z d)
    | _ => none
  | _, _, _ => none

/-! ### places -/
def ixN (n : Nat) (i : Int) : Option Nat := if 0 ≤ i then (if i < n then some i.toNat else none) else if -(n : Int) ≤ i then some (i + n).toNat else none
def atI {α : Type} (xs : List α) (i : Int) : Option α := (ixN xs.length i).bind fun j => xs[j]?
def sIx (n d : Nat) : Option Int → Nat
  | none => d
  | some v => if v < 0 then (v + (n : Int)).toNat else min v.toNat n
def cut (xs : List D) (lo hi : Option Int) : List D := (xs.drop (sIx xs.length 0 lo)).take (sIx xs.length xs.length hi - sIx xs.length 0 lo)
def opI (a b : D) (h : Heap) : Option D := match a, b with
  | .tup xs, .int i => atI xs i
  | .lst xs, .int i => atI xs i
  | .frz xs, .int i => atI xs i
  | .ref n, .int i => match h[n]? with
    | some (.lst xs) => atI xs i
    | _ => none
  | _, _ => none
def part : D → Option (Option Int)
  | .und => some none
  | .int i => some (some i)
  | _ => none
/-- a tuple's or a list's items made anew -/
def remade (imm : Bool) (f : List D → List D) (a : D) (h : Heap) : R D := match a with
  | .tup xs => .ok (.tup (f xs)) h
  | .lst xs => newL imm (f xs) h
  | .ref n => match h[n]? with
    | some (.lst xs) => newL imm (f xs) h
    | _ => .bad
  | _ => .bad
def opV (imm : Bool) (a : D) (h : Heap) : R D := remade imm List.reverse a h

/-! ### built-ins -/
inductive Ty where
  | int | bool | tuple | list | str | dict
  deriving DecidableEq
inductive Blt where
  | len | abs | int | tuple | list (imm : Bool) | listR (imm : Bool) | min2 | max2 | minL | maxL | sumL
  | sorted (imm : Bool) | all | any | isinst (t : Ty) | lenSet | sortedSet (imm : Bool) | repEq | repNe
  deriving DecidableEq
def insI (x : Int) : List Int → List Int
  | [] => [x]
  | y :: ys => if x ≤ y then x :: y :: ys else y :: insI x ys
def sortI : List Int → List Int
  | [] => []
  | x :: xs => insI x (sortI xs)
def nubI : List Int → List Int
  | [] => []
  | x :: xs => x :: (nubI xs).filter (· != x)
def bools : List D → Option (List Bool)
  | [] => some []
  | .bl b :: r => (bools r).map (b :: ·)
  | _ :: _ => none
def rangeI (a b : Int) : List Int := (List.range (b - a).toNat).map fun (i : Nat) => a + (i : Int)
def big62 (i : Int) : Bool := decide (-4611686018427387904 ≤ i) && decide (i < 4611686018427387904)
def isTy : Ty → D → Option Bool
  | _, .und => none
  | _, .clo _ _ => none
  | _, .frz _ => none
  | t, .non => some false
  | t, .bl _ => some (decide (t = .bool ∨ t = .int))
  | t, .int _ => some (decide (t = .int))
  | t, .str _ => some (decide (t = .str))
  | t, .tup _ => some (decide (t = .tuple))
  | t, .lst _ => some (decide (t = .list))
  | _, .ref _ => none
def opF (f : Blt) (xs : List D) (h : Heap) : R D :=
  match f, xs with
  | .len, [.str s] => if s.length ≤ SZ then .ok (.int s.length) h else .bad
  | .len, [x] => (R.opt h (items h x)).bind fun ys h => .ok (.int ys.length) h
  | .abs, [.int i] => .ok (.int (if i < 0 then -i else i)) h
  | .int, [.int i] => .ok (.int i) h
  | .int, [.bl b] => .ok (.int (b2i b)) h
  | .tuple, [.tup xs] => .ok (.tup xs) h
  | .tuple, [x] => (R.opt h (items h x)).bind fun ys h => .ok (.tup ys) h
  | .list imm, [x] => (R.opt h (items h x)).bind fun ys h => newL imm ys h
  | .listR imm, [.int b] => if big62 b && decide (b ≤ 4096) then newL imm ((rangeI 0 b).map .int) h else .bad
  | .listR imm, [.int a, .int b] => if big62 a && big62 b && decide (b - a ≤ 4096) then newL imm ((rangeI a b).map .int) h else .bad
  | .min2, [.int a, .int b] => .ok (.int (if b < a then b else a)) h
  | .max2, [.int a, .int b] => .ok (.int (if b > a then b else a)) h
  | .minL, [x] => (R.opt h ((items h x).bind intsOf)).bind fun ns h => match ns with
    | [] => .bad
    | n :: ns => .ok (.int (ns.foldl min n)) h
  | .maxL, [x] => (R.opt h ((items h x).bind intsOf)).bind fun ns h => match ns with
    | [] => .bad
    | n :: ns => .ok (.int (ns.foldl max n)) h
  | .sumL, [x] => (R.opt h ((rlist h x).bind intsOf)).bind fun ns h => .ok (.int ns.sum) h
  | .sorted imm, [x] => (R.opt h ((rlist h x).bind intsOf)).bind fun ns h => newL imm ((sortI ns).map .int) h
  | .all, [x] => (R.opt h ((rlist h x).bind bools)).bind fun bs h => .ok (.bl (bs.all id)) h
  | .any, [x] => (R.opt h ((rlist h x).bind bools)).bind fun bs h => .ok (.bl (bs.any id)) h
  | .isinst t, [x] => match x with
    | .ref n => (match h[n]? with
      | some (.lst _) => .ok (.bl (decide (t = .list))) h
      | _ => .bad)
    | x => (R.opt h (isTy t x)).bind fun b h => .ok (.bl b) h
  | _, _ => .bad

/-! ### methods -/
inductive Mth where
  | append | extend | pop | popAt | insert | index | remove | count
  deriving DecidableEq
def setO (h : Heap) (n : Nat) (xs : List D) : Heap := h.set n (.lst xs)
def opM (m : Mth) (o : D) (vs : List D) (h : Heap) : R D :=
  match o with
  | .ref n => (match h[n]? with
    | some (.lst xs) => (match m, vs with
      | .append, [y] => if xs.length < SZ then .ok .non (setO h n (xs ++ [y])) else .bad
      | .extend, [y] => (match rlist h y with
        | some ys => if xs.length + ys.length ≤ SZ then .ok .non (setO h n (xs ++ ys)) else .bad
        | none => .bad)
      | .pop, [] => match xs[xs.length - 1]? with
        | some y => .ok y (setO h n xs.dropLast)
        | none => .bad
      | .popAt, [.int i] => if big62 i then (match ixN xs.length i with
        | some k => match xs[k]? with
          | some y => .ok y (setO h n (xs.eraseIdx k))
          | none => .bad
        | none => .bad) else .bad
      | .insert, [.int i, y] => if decide (0 ≤ i) && big62 i && decide (xs.length < SZ) then .ok .non (setO h n (xs.take i.toNat ++ [y] ++ xs.drop i.toNat)) else .bad
      | _, _ => .bad)
    | _ => .bad)
  | _ => .bad

/-- a list that may be changed -/
def isL (h : Heap) : D → Option Unit
  | .ref n => match h[n]? with
    | some (.lst _) => some ()
    | _ => none
  | _ => none
/-! ### what a loop walks: the items, and the lists that must stay as they are -/
inductive ItK where
  | gen | rng | enum | zip
  deriving DecidableEq
abbrev Gd := List (Nat × List D)
def gdOf (h : Heap) : D → Gd
  | .ref n => match h[n]? with
    | some (.lst xs) => [(n, xs)]
    | _ => []
  | _ => []
def gdOk (h : Heap) (g : Gd) : Bool := g.all fun p => match h[p.1]? with
  | some (.lst xs) => D.beqs xs p.2
  | _ => false
def rangeC (a b c : Int) : List Int :=
  if 0 < c then (List.range ((b - a + c - 1) / c).toNat).map fun (i : Nat) => a + (i : Int) * c
  else (List.range ((a - b - c - 1) / (-c)).toNat).map fun (i : Nat) => a + (i : Int) * c
def enumD : Nat → List D → List D
  | _, [] => []
  | k, x :: xs => .tup [.int k, x] :: enumD (k + 1) xs
def zipD : List D → List D → List D
  | x :: xs, y :: ys => .tup [x, y] :: zipD xs ys
  | _, _ => []
def iterOf (k : ItK) (args : List D) (h : Heap) : Option (List D × Gd) :=
  match k, args with
  | .gen, [x] => (items h x).map fun xs => (xs, gdOf h x)
  | .rng, [.int b] => if big62 b then some ((rangeI 0 b).map .int, []) else none
  | .rng, [.int a, .int b] => if big62 a && big62 b then some ((rangeI a b).map .int, []) else none
  | .enum, [x] => (rlist h x).map fun xs => (enumD 0 xs, gdOf h x)
  | .zip, [.tup xs, .tup ys] => some (zipD xs ys, [])
  | .zip, [x, y] => (rlist h x).bind fun xs => (rlist h y).map fun ys => (zipD xs ys, gdOf h x ++ gdOf h y)
  | _, _ => none

/-! ### expressions -/
inductive E where
  | var (i : Nat) | con (d : D) | glo (j : Nat)
  | nil | cons (a r : E)
  | tup (es : E) | lst (imm : Bool) (es : E)
  | bin (o : BOp) (a b : E) | neg (a : E)
  | cmp (o : COp) (a b : E) | chn (o p : COp) (a b c : E)
  | and2 (a r : E) | or2 (a r : E) | one (a : E) | nt (a : E)
  | ite (c a b : E)
  | idx (a b : E) | slc (imm : Bool) (a lo hi : E) | rev (imm : Bool) (a : E)
  | call (f : Nat) (es : E) | blt (f : Blt) (es : E) | mth (m : Mth) (o es : E)
  | lc (imm : Bool) (tg : E) (k : ItK) (ia c el : E)
  | lc2 (imm : Bool) (tg : E) (k : ItK) (ia c : E) (tg1 : E) (k1 : ItK) (ia1 c1 el : E)
  deriving Inhabited

/-! a comprehension's, a loop's target: names and tuples of such -/
mutual
def bindT : E → D → Env → Option Env
  | .var i, d, env => if i < env.length then some (env.set i d) else none
  | .tup es, .tup ds, env => bindTs es ds env
  | _, _, _ => none
def bindTs : E → List D → Env → Option Env
  | .nil, [], env => some env
  | .cons a r, d :: ds, env => (bindT a d env).bind fun env => bindTs r ds env
  | _, _, _ => none
end

/-! the names of a comprehension's own block start unbound -/
def tgI : E → List Nat
  | .var i => [i]
  | .tup es => tgI es
  | .cons a r => tgI a ++ tgI r
  | _ => []
def clr (env : Env) : List Nat → Env
  | [] => env
  | v :: vs => (clr env vs).set v .und

def compL (f : D → Heap → R (Option D)) (g : Gd) : List D → Heap → R (List D)
  | [], h => if gdOk h g then .ok [] h else .bad
  | x :: xs, h => if gdOk h g then (f x h).bind fun o h1 => (compL f g xs h1).bind fun ys h2 => .ok (match o with | some y => y :: ys | none => ys) h2 else .bad
def compL2 (f : D → Heap → R (List D)) (g : Gd) : List D → Heap → R (List D)
  | [], h => if gdOk h g then .ok [] h else .bad
  | x :: xs, h => if gdOk h g then (f x h).bind fun o h1 => (compL2 f g xs h1).bind fun ys h2 => .ok (o ++ ys) h2 else .bad

def tru (d : D) (h : Heap) : R Bool := R.opt h (truthy h d)
def args : D → List D
  | .tup xs => xs
  | _ => []

section
variable (Φ : Nat → List D → Heap → R D) (G : List D)
def eE : E → Env → Heap → R D
  | .var i, env, h => match env[i]? with
    | some .und => .bad
    | some d => .ok d h
    | none => .bad
  | .con d, _, h => .ok d h
  | .glo j, _, h => match G[j]? with
    | some d => .ok d h
    | none => .bad
  | .nil, _, h => .ok (.tup []) h
  | .cons a r, env, h => (eE a env h).bind fun d h1 => (eE r env h1).bind fun ds h2 => .ok (.tup (d :: args ds)) h2
  | .tup es, env, h => eE es env h
  | .lst imm es, env, h => (eE es env h).bind fun d h1 => newL imm (args d) h1
  | .bin o a b, env, h => (eE a env h).bind fun x h1 => (eE b env h1).bind fun y h2 => opB o x y h2
  | .neg a, env, h => (eE a env h).bind fun x h1 => match x with
    | .int i => .ok (.int (-i)) h1
    | _ => .bad
  | .cmp o a b, env, h => (eE a env h).bind fun x h1 => (eE b env h1).bind fun y h2 => (R.opt h2 (opC o x y h2)).bind fun b h => .ok (.bl b) h
  | .chn o p a b c, env, h => (eE a env h).bind fun x h1 => (eE b env h1).bind fun y h2 => (R.opt h2 (opC o x y h2)).bind fun k h3 =>
      if k then (eE c env h3).bind fun z h4 => (R.opt h4 (opC p y z h4)).bind fun b h => .ok (.bl b) h else .ok (.bl false) h3
  | .and2 a r, env, h => (eE a env h).bind fun x h1 => (tru x h1).bind fun k h2 => if k then eE r env h2 else .ok x h2
  | .or2 a r, env, h => (eE a env h).bind fun x h1 => (tru x h1).bind fun k h2 => if k then .ok x h2 else eE r env h2
  | .one a, env, h => eE a env h
  | .nt a, env, h => (eE a env h).bind fun x h1 => (tru x h1).bind fun k h2 => .ok (.bl (!k)) h2
  | .ite c a b, env, h => (eE c env h).bind fun x h1 => (tru x h1).bind fun k h2 => if k then eE a env h2 else eE b env h2
  | .idx a b, env, h => (eE a env h).bind fun x h1 => (eE b env h1).bind fun y h2 => R.opt h2 (opI x y h2)
  | .slc imm a lo hi, env, h => (eE a env h).bind fun x h1 => ((eE lo env h1).bind fun d h => R.opt h (part d)).bind fun l h2 => ((eE hi env h2).bind fun d h => R.opt h (part d)).bind fun u h3 => remade imm (fun xs => cut xs l u) x h3
  | .rev imm a, env, h => (eE a env h).bind fun x h1 => opV imm x h1
  | .call f es, env, h => (eE es env h).bind fun ds h1 => Φ f (args ds) h1
  | .blt f es, env, h => (eE es env h).bind fun ds h1 => opF f (args ds) h1
  | .mth m o es, env, h => (eE o env h).bind fun x h1 => (R.opt h1 (isL h1 x)).bind fun _ h2 => (eE es env h2).bind fun ds h3 => opM m x (args ds) h3
  | .lc imm tg k ia c el, env, h => (eE ia env h).bind fun ds h1 => match iterOf k (args ds) h1 with
    | none => .bad
    | some (xs, g) => (compL (fun x h => match bindT tg x (clr env (tgI tg)) with
        | none => .bad
        | some env' => ((eE c env' h).bind tru).calm.bind fun b h => if b then (eE el env' h).calm.bind fun y h => .ok (some y) h else .ok none h) g xs h1).bind fun ys h2 => newL imm ys h2
  | .lc2 imm tg k ia c tg1 k1 ia1 c1 el, env, h => (eE ia env h).bind fun ds h1 => match iterOf k (args ds) h1 with
    | none => .bad
    | some (xs, g) => (compL2 (fun x h => match bindT tg x (clr env (tgI tg ++ tgI tg1)) with
        | none => .bad
        | some env' => ((eE c env' h).bind tru).calm.bind fun b h => if b then (eE ia1 env' h).calm.bind fun ds h1 => match iterOf k1 (args ds) h1 with
            | none => .bad
            | some (xs1, g1) => compL (fun x h => match bindT tg1 x (clr env' (tgI tg1)) with
              | none => .bad
              | some env' => ((eE c1 env' h).bind tru).calm.bind fun b h => if b then (eE el env' h).calm.bind fun y h => .ok (some y) h else .ok none h) (g ++ g1) xs1 h1
          else .ok [] h) g xs h1).bind fun ys h2 => newL imm ys h2

/-- how many targets -/
def elen : E → Nat
  | .cons _ r => elen r + 1
  | _ => 0
/-! ### statements -/
inductive Fl where
  | nxt (env : Env) | ret (d : D) | brk (env : Env) | cnt (env : Env)
inductive S where
  | pass | asg (t e : E) | par (is : List Nat) (es : E) | aug (o : BOp) (t e : E) | exp (e : E)
  | ite (c : E) (a b : S) | whl (c : E) (b : S) | for (t : E) (k : ItK) (ia : E) (b : S)
  | ret (e : E) | retN | brk | cnt | rai (c : Nat) | bad
  | nil | cons (a r : S)
  deriving Inhabited

def setL (o i v : D) (h : Heap) : R Unit := match o, i with
  | .ref n, .int i => (match h[n]? with
    | some (.lst xs) => match ixN xs.length i with
      | some j => .ok () (setO h n (xs.set j v))
      | none => .bad
    | _ => .bad)
  | _, _ => .bad
mutual
def setT : E → D → Env → Heap → R Env
  | .var i, d, env, h => if i < env.length then .ok (env.set i d) h else .bad
  | .idx a b, d, env, h => (eE Φ G a env h).bind fun x h1 => (eE Φ G b env h1).bind fun y h2 => (setL x y d h2).bind fun _ h3 => .ok env h3
  | .tup es, .tup ds, env, h => if ds.length = elen es then setTs es ds env h else .bad
  | _, _, _, _ => .bad
def setTs : E → List D → Env → Heap → R Env
  | .nil, [], env, h => .ok env h
  | .cons a r, d :: ds, env, h => (setT a d env h).bind fun env h => setTs r ds env h
  | _, _, _, _ => .bad
end
def setN : List Nat → List D → Env → Option Env
  | [], [], env => some env
  | i :: is, d :: ds, env => if i < env.length then setN is ds (env.set i d) else none
  | _, _, _ => none
def loop (c : Env → Heap → R Bool) (b : Env → Heap → R Fl) : Nat → Env → Heap → R Fl
  | 0, _, _ => .bad
  | n + 1, env, h => (c env h).bind fun k h1 => if k then (b env h1).bind fun f h2 => match f with
      | .nxt env' => loop c b n env' h2
      | .cnt env' => loop c b n env' h2
      | .brk env' => .ok (.nxt env') h2
      | .ret d => .ok (.ret d) h2
    else .ok (.nxt env) h1
def forL (t : D → Env → Heap → R Env) (b : Env → Heap → R Fl) (g : Gd) : List D → Env → Heap → R Fl
  | [], env, h => if gdOk h g then .ok (.nxt env) h else .bad
  | x :: xs, env, h => if gdOk h g then (t x env h).bind fun env h => (b env h).bind fun f h2 => match f with
      | .nxt env' => forL t b g xs env' h2
      | .cnt env' => forL t b g xs env' h2
      | .brk env' => .ok (.nxt env') h2
      | .ret d => .ok (.ret d) h2
    else .bad
def eS (W : Nat) : S → Env → Heap → R Fl
  | .pass, env, h => .ok (.nxt env) h
  | .asg t e, env, h => (eE Φ G e env h).bind fun d h1 => (setT Φ G t d env h1).bind fun env h2 => .ok (.nxt env) h2
  | .par is es, env, h => (eE Φ G es env h).bind fun ds h1 => (R.opt h1 (setN is (args ds) env)).bind fun env h2 => .ok (.nxt env) h2
  | .aug o t e, env, h => (match t with
    | .var i => (eE Φ G (.var i) env h).bind fun x h1 => (eE Φ G e env h1).bind fun y h2 => (R.opt h2 (augI o x y)).bind fun z h3 => if i < env.length then .ok (.nxt (env.set i z)) h3 else .bad
    | .idx a b => (eE Φ G a env h).bind fun x h1 => (eE Φ G b env h1).bind fun i h2 => (R.opt h2 ((isL h2 x).bind fun _ => opI x i h2)).bind fun y h3 => (eE Φ G e env h3).bind fun z h4 => (R.opt h4 (augI o y z)).bind fun u h5 =>
        (setL x i u h5).bind fun _ h6 => .ok (.nxt env) h6
    | _ => .bad)
  | .exp e, env, h => (eE Φ G e env h).bind fun _ h1 => .ok (.nxt env) h1
  | .ite c a b, env, h => (eE Φ G c env h).bind fun x h1 => (tru x h1).bind fun k h2 => if k then eS W a env h2 else eS W b env h2
  | .whl c b, env, h => loop (fun env h => (eE Φ G c env h).bind fun x h1 => tru x h1) (fun env h => eS W b env h) W env h
  | .for t k ia b, env, h => (eE Φ G ia env h).bind fun ds h1 => match iterOf k (args ds) h1 with
    | none => .bad
    | some (xs, g) => forL (fun x env h => R.opt h (bindT t x env)) (fun env h => eS W b env h) g xs env h1
  | .ret e, env, h => (eE Φ G e env h).bind fun d h1 => .ok (.ret d) h1
  | .retN, _, h => .ok (.ret .non) h
  | .brk, env, h => .ok (.brk env) h
  | .cnt, env, h => .ok (.cnt env) h
  | .rai c, _, h => .exc c h
  | .bad, _, _ => .bad
  | .nil, env, h => .ok (.nxt env) h
  | .cons a r, env, h => (eS W a env h).bind fun f h1 => match f with
    | .nxt env' => eS W r env' h1
    | f => .ok f h1
end

/-! ### defs -/
structure Fn where
  np : Nat
  ns : Nat
  body : S
  deriving Inhabited
def trim (n : Nat) (h : Heap) : Heap := if (h.take n).all (Ob.low n) then h.take n else h
def back (n : Nat) : R Fl → R D
  | .ok (.ret d) h => if d.low n && (h.take n).all (Ob.low n) then .ok d (h.take n) else .ok d h
  | .ok (.nxt _) h => .ok .non (trim n h)
  | .exc c h => .exc c (trim n h)
  | _ => .bad
def callF (fns : List Fn) (G : List D) (W : Nat) : Nat → Nat → List D → Heap → R D
  | 0, _, _, _ => .bad
  | k + 1, f, ds, h => match fns[f]? with
    | none => .bad
    | some fn => if ds.length = fn.np then back h.length (eS (callF fns G W k) G W fn.body (ds ++ List.replicate (fn.ns - fn.np) .und) h) else .bad
end MP
namespace MP
section
variable (Φ : Nat → List D → Heap → R D) (G : List D) (env : Env) (h : Heap)
theorem eE_var (i : Nat) : eE Φ G (.var i) env h = (match env[i]? with | some .und => .bad | some d => .ok d h | none => .bad) := rfl
theorem eE_con (d : D) : eE Φ G (.con d) env h = .ok d h := rfl
theorem eE_glo (j : Nat) : eE Φ G (.glo j) env h = (match G[j]? with | some d => .ok d h | none => .bad) := rfl
theorem eE_nil : eE Φ G .nil env h = .ok (.tup []) h := rfl
theorem eE_cons (a r : E) : eE Φ G (.cons a r) env h = (eE Φ G a env h).bind fun d h1 => (eE Φ G r env h1).bind fun ds h2 => .ok (.tup (d :: args ds)) h2 := rfl
theorem eE_tup (es : E) : eE Φ G (.tup es) env h = eE Φ G es env h := rfl
theorem eE_lst (imm : Bool) (es : E) : eE Φ G (.lst imm es) env h = (eE Φ G es env h).bind fun d h1 => newL imm (args d) h1 := rfl
theorem eE_bin (o : BOp) (a b : E) : eE Φ G (.bin o a b) env h = (eE Φ G a env h).bind fun x h1 => (eE Φ G b env h1).bind fun y h2 => opB o x y h2 := rfl
theorem eE_neg (a : E) : eE Φ G (.neg a) env h = (eE Φ G a env h).bind fun x h1 => match x with | .int i => .ok (.int (-i)) h1 | _ => .bad := rfl
theorem eE_cmp (o : COp) (a b : E) : eE Φ G (.cmp o a b) env h = (eE Φ G a env h).bind fun x h1 => (eE Φ G b env h1).bind fun y h2 => (R.opt h2 (opC o x y h2)).bind fun b h => .ok (.bl b) h := rfl
theorem eE_chn (o p : COp) (a b c : E) : eE Φ G (.chn o p a b c) env h = (eE Φ G a env h).bind fun x h1 => (eE Φ G b env h1).bind fun y h2 => (R.opt h2 (opC o x y h2)).bind fun k h3 =>
      if k then (eE Φ G c env h3).bind fun z h4 => (R.opt h4 (opC p y z h4)).bind fun b h => .ok (.bl b) h else .ok (.bl false) h3 := rfl
theorem eE_and2 (a r : E) : eE Φ G (.and2 a r) env h = (eE Φ G a env h).bind fun x h1 => (tru x h1).bind fun k h2 => if k then eE Φ G r env h2 else .ok x h2 := rfl
theorem eE_or2 (a r : E) : eE Φ G (.or2 a r) env h = (eE Φ G a env h).bind fun x h1 => (tru x h1).bind fun k h2 => if k then .ok x h2 else eE Φ G r env h2 := rfl
theorem eE_one (a : E) : eE Φ G (.one a) env h = eE Φ G a env h := rfl
theorem eE_nt (a : E) : eE Φ G (.nt a) env h = (eE Φ G a env h).bind fun x h1 => (tru x h1).bind fun k h2 => .ok (.bl (!k)) h2 := rfl
theorem eE_ite (c a b : E) : eE Φ G (.ite c a b) env h = (eE Φ G c env h).bind fun x h1 => (tru x h1).bind fun k h2 => if k then eE Φ G a env h2 else eE Φ G b env h2 := rfl
theorem eE_idx (a b : E) : eE Φ G (.idx a b) env h = (eE Φ G a env h).bind fun x h1 => (eE Φ G b env h1).bind fun y h2 => R.opt h2 (opI x y h2) := rfl
theorem eE_slc (imm : Bool) (a lo hi : E) : eE Φ G (.slc imm a lo hi) env h = (eE Φ G a env h).bind fun x h1 => ((eE Φ G lo env h1).bind fun d h => R.opt h (part d)).bind fun l h2 => ((eE Φ G hi env h2).bind fun d h => R.opt h (part d)).bind fun u h3 => remade imm (fun xs => cut xs l u) x h3 := rfl
theorem eE_rev (imm : Bool) (a : E) : eE Φ G (.rev imm a) env h = (eE Φ G a env h).bind fun x h1 => opV imm x h1 := rfl
theorem eE_call (f : Nat) (es : E) : eE Φ G (.call f es) env h = (eE Φ G es env h).bind fun ds h1 => Φ f (args ds) h1 := rfl
theorem eE_blt (f : Blt) (es : E) : eE Φ G (.blt f es) env h = (eE Φ G es env h).bind fun ds h1 => opF f (args ds) h1 := rfl
theorem eE_mth (m : Mth) (o es : E) : eE Φ G (.mth m o es) env h = (eE Φ G o env h).bind fun x h1 => (R.opt h1 (isL h1 x)).bind fun _ h2 => (eE Φ G es env h2).bind fun ds h3 => opM m x (args ds) h3 := rfl
/-- a turn of a comprehension's last clause -/
def turnL (tg c el : E) (env : Env) (x : D) (h : Heap) : R (Option D) := match bindT tg x env with
  | none => .bad
  | some env' => ((eE Φ G c env' h).bind tru).calm.bind fun b h => if b then (eE Φ G el env' h).calm.bind fun y h => .ok (some y) h else .ok none h
/-- of the first of two -/
def turnL2 (g : Gd) (tg c tg1 : E) (k1 : ItK) (ia1 c1 el : E) (env : Env) (x : D) (h : Heap) : R (List D) := match bindT tg x env with
  | none => .bad
  | some env' => ((eE Φ G c env' h).bind tru).calm.bind fun b h => if b then (eE Φ G ia1 env' h).calm.bind fun ds h1 => match iterOf k1 (args ds) h1 with
      | none => .bad
      | some (xs1, g1) => compL (turnL Φ G tg1 c1 el (clr env' (tgI tg1))) (g ++ g1) xs1 h1
    else .ok [] h
theorem eE_lc (imm : Bool) (tg : E) (k : ItK) (ia c el : E) : eE Φ G (.lc imm tg k ia c el) env h = (eE Φ G ia env h).bind fun ds h1 => match iterOf k (args ds) h1 with
    | none => .bad
    | some (xs, g) => (compL (turnL Φ G tg c el (clr env (tgI tg))) g xs h1).bind fun ys h2 => newL imm ys h2 := rfl
theorem eE_lc2 (imm : Bool) (tg : E) (k : ItK) (ia c tg1 : E) (k1 : ItK) (ia1 c1 el : E) : eE Φ G (.lc2 imm tg k ia c tg1 k1 ia1 c1 el) env h = (eE Φ G ia env h).bind fun ds h1 => match iterOf k (args ds) h1 with
    | none => .bad
    | some (xs, g) => (compL2 (turnL2 Φ G g tg c tg1 k1 ia1 c1 el (clr env (tgI tg ++ tgI tg1))) g xs h1).bind fun ys h2 => newL imm ys h2 := rfl
variable (W : Nat)
theorem eS_pass : eS Φ G W .pass env h = .ok (.nxt env) h := rfl
theorem eS_asg (t e : E) : eS Φ G W (.asg t e) env h = (eE Φ G e env h).bind fun d h1 => (setT Φ G t d env h1).bind fun env h2 => .ok (.nxt env) h2 := rfl
theorem eS_par (is : List Nat) (es : E) : eS Φ G W (.par is es) env h = (eE Φ G es env h).bind fun ds h1 => (R.opt h1 (setN is (args ds) env)).bind fun env h2 => .ok (.nxt env) h2 := rfl
theorem eS_augV (o : BOp) (i : Nat) (e : E) : eS Φ G W (.aug o (.var i) e) env h = (eE Φ G (.var i) env h).bind fun x h1 => (eE Φ G e env h1).bind fun y h2 => (R.opt h2 (augI o x y)).bind fun z h3 => if i < env.length then .ok (.nxt (env.set i z)) h3 else .bad := rfl
theorem eS_augI (o : BOp) (a b e : E) : eS Φ G W (.aug o (.idx a b) e) env h = (eE Φ G a env h).bind fun x h1 => (eE Φ G b env h1).bind fun i h2 => (R.opt h2 ((isL h2 x).bind fun _ => opI x i h2)).bind fun y h3 => (eE Φ G e env h3).bind fun z h4 => (R.opt h4 (augI o y z)).bind fun u h5 =>
        (setL x i u h5).bind fun _ h6 => .ok (.nxt env) h6 := rfl
theorem eS_bad : eS Φ G W .bad env h = .bad := rfl
theorem eS_exp (e : E) : eS Φ G W (.exp e) env h = (eE Φ G e env h).bind fun _ h1 => .ok (.nxt env) h1 := rfl
theorem eS_ite (c : E) (a b : S) : eS Φ G W (.ite c a b) env h = (eE Φ G c env h).bind fun x h1 => (tru x h1).bind fun k h2 => if k then eS Φ G W a env h2 else eS Φ G W b env h2 := rfl
theorem eS_whl (c : E) (b : S) : eS Φ G W (.whl c b) env h = loop (fun env h => (eE Φ G c env h).bind fun x h1 => tru x h1) (fun env h => eS Φ G W b env h) W env h := rfl
theorem eS_for (t : E) (k : ItK) (ia : E) (b : S) : eS Φ G W (.for t k ia b) env h = (eE Φ G ia env h).bind fun ds h1 => match iterOf k (args ds) h1 with
    | none => .bad
    | some (xs, g) => forL (fun x env h => R.opt h (bindT t x env)) (fun env h => eS Φ G W b env h) g xs env h1 := rfl
theorem eS_ret (e : E) : eS Φ G W (.ret e) env h = (eE Φ G e env h).bind fun d h1 => .ok (.ret d) h1 := rfl
theorem eS_retN : eS Φ G W .retN env h = .ok (.ret .non) h := rfl
theorem eS_brk : eS Φ G W .brk env h = .ok (.brk env) h := rfl
theorem eS_cnt : eS Φ G W .cnt env h = .ok (.cnt env) h := rfl
theorem eS_rai (c : Nat) : eS Φ G W (.rai c) env h = .exc c h := rfl
theorem eS_nil : eS Φ G W .nil env h = .ok (.nxt env) h := rfl
theorem eS_cons (a r : S) : eS Φ G W (.cons a r) env h = (eS Φ G W a env h).bind fun f h1 => match f with
    | .nxt env' => eS Φ G W r env' h1
    | f => .ok f h1 := rfl
end
end MP
namespace MPS
open PySem PySem.Spec PyProof.Rows L2

/-! ### how values stand in the abstract heap -/
/-- the places of the small heap, and the addresses that no value may name (lists that are being made) -/
structure Pl where
  at_ : List Addr
  ban : List Addr
/-- one place more -/
abbrev Pl.add (m : Pl) (p : Addr) : Pl := ⟨m.at_ ++ [p], m.ban⟩
/-- a list that is being made -/
abbrev Pl.hide (m : Pl) (p : Addr) : Pl := ⟨m.at_, p :: m.ban⟩
/-- a list that nothing changes: locked, tracked apart, or of the module -/
def Fz (K : PySem.W.Frag) (m : Pl) (H : Hp) (a : Addr) (vs : List V) : Prop :=
  (Rd H a (.lst vs) ∧ a ∉ m.at_ ∧ a ∉ m.ban) ∨ ∃ (o : Obj) (its : Array Value) (n : Nat), K.lookup a = some o ∧ o.cls = .type "list" ∧ o.dict = none ∧ o.data = .seq its n ∧ its.size ≤ sizeLine ∧ Vals vs its.toList
theorem Fz.sq {K : PySem.W.Frag} {m : Pl} {H : Hp} {a : Addr} {vs : List V} (h : Fz K m H a vs) : SqL K H a vs := h.elim (fun x => .inl x.1) .inr
section
variable (K : PySem.W.Frag)
mutual
inductive Rel (m : Pl) (H : Hp) : MP.D → V → Prop
  | non : Rel m H .non .non
  | bl (b : Bool) : Rel m H (.bl b) (.bl b)
  | int (i : Int) : Rel m H (.int i) (.int i)
  | str (x : Str) : Rel m H (.str x.cps.toList) (.str x)
  | tup {a : Addr} {vs : List V} {ds : List MP.D} (h : SqT K H a vs) (r : Rels m H ds vs) : Rel m H (.tup ds) (.ref a)
  | lst {a : Addr} {vs : List V} {ds : List MP.D} (h : H a = some (.lst vs)) (n : a ∉ m.at_) (nb : a ∉ m.ban) (r : Rels m H ds vs) : Rel m H (.lst ds) (.ref a)
  | frz {a : Addr} {vs : List V} {ds : List MP.D} (h : Fz K m H a vs) (r : Rels m H ds vs) : Rel m H (.frz ds) (.ref a)
  | ref {a : Addr} {n : Nat} (h : m.at_[n]? = some a) : Rel m H (.ref n) (.ref a)
inductive Rels (m : Pl) (H : Hp) : List MP.D → List V → Prop
  | nil : Rels m H [] []
  | cons {d : MP.D} {v : V} {ds : List MP.D} {vs : List V} (h : Rel m H d v) (r : Rels m H ds vs) : Rels m H (d :: ds) (v :: vs)
end
end
/-- what may stand at a place of the small heap -/
def mutO : Option HO → Prop
  | some (.lst _) => True
  | some (.dK _) => True
  | some (.dT _) => True
  | some (.set _ _) => True
  | _ => False
def ObR (K : PySem.W.Frag) (m : Pl) (H : Hp) (a : Addr) : MP.Ob → Prop
  | .lst xs => ∃ vs, H a = some (.lst vs) ∧ Rels K m H xs vs
  | _ => False
structure HR (K : PySem.W.Frag) (m : Pl) (h : MP.Heap) (H : Hp) : Prop where
  len : m.at_.length = h.length
  nd : m.at_.Nodup
  ob : ∀ (n : Nat) (a : Addr) (o : MP.Ob), m.at_[n]? = some a → h[n]? = some o → ObR K m H a o
  bn : ∀ a ∈ m.ban, mutO (H a) ∧ a ∉ m.at_
/-- what a step keeps -/
structure Kp (m : Pl) (H : Hp) (m' : Pl) (H' : Hp) : Prop where
  pre : ∃ t, m'.at_ = m.at_ ++ t
  ban : m'.ban = m.ban
  keep : ∀ a o, H a = some o → a ∉ m.at_ → H' a = some o ∧ a ∉ m'.at_
/-- what a value's relation needs -/
structure Kw (m : Pl) (H : Hp) (m' : Pl) (H' : Hp) : Prop where
  at_ : ∀ (n : Nat) (a : Addr), m.at_[n]? = some a → m'.at_[n]? = some a
  keep : ∀ a o, H a = some o → a ∉ m.at_ → a ∉ m.ban → H' a = some o ∧ a ∉ m'.at_ ∧ a ∉ m'.ban
theorem Kp.refl (m : Pl) (H : Hp) : Kp m H m H := ⟨⟨[], by simp⟩, rfl, fun a o h n => ⟨h, n⟩⟩
theorem Kp.trans {m m1 m2 : Pl} {H H1 H2 : Hp} (a : Kp m H m1 H1) (b : Kp m1 H1 m2 H2) : Kp m H m2 H2 := by
  obtain ⟨t, e1⟩ := a.pre
  obtain ⟨u, e2⟩ := b.pre
  refine ⟨⟨t ++ u, by rw [e2, e1]; simp⟩, b.ban.trans a.ban, fun x o h n => ?_⟩
  obtain ⟨h1, n1⟩ := a.keep x o h n
  exact b.keep x o h1 n1
theorem Kp.w {m m' : Pl} {H H' : Hp} (k : Kp m H m' H') : Kw m H m' H' :=
  ⟨fun n a h => by obtain ⟨t, e⟩ := k.pre; rw [e, List.getElem?_append_left (List.getElem?_eq_some_iff.mp h).1]; exact h, fun a o h n nb => ⟨(k.keep a o h n).1, (k.keep a o h n).2, by rw [k.ban]; exact nb⟩⟩
theorem Kw.trans {m m1 m2 : Pl} {H H1 H2 : Hp} (a : Kw m H m1 H1) (b : Kw m1 H1 m2 H2) : Kw m H m2 H2 :=
  ⟨fun n x h => b.at_ n x (a.at_ n x h), fun x o h n nb => let ⟨h1, h2, h3⟩ := a.keep x o h n nb; b.keep x o h1 h2 h3⟩
theorem ObR.mut {K : PySem.W.Frag} {m : Pl} {H : Hp} {a : Addr} {o : MP.Ob} (x : ObR K m H a o) : mutO (H a) := by
  cases o with
  | lst xs => obtain ⟨vs, e, _⟩ := x; rw [e]; trivial
  | dic _ => exact x.elim
  | set _ => exact x.elim
  | hid => exact x.elim
section
variable {K : PySem.W.Frag} {m m' : Pl} {H H' : Hp} {h h' : MP.Heap}
/-- the changing things are lists, dicts, sets -/
abbrev Mt (m : Pl) (H : Hp) : Prop := ∀ a, a ∈ m.at_ ∨ a ∈ m.ban → mutO (H a)
theorem HR.mutA (r : HR K m h H) : ∀ a ∈ m.at_, mutO (H a) := fun a ha => by
  obtain ⟨n, hn, e⟩ := List.getElem_of_mem ha
  have hl : n < h.length := by rw [← r.len]; exact hn
  exact (r.ob n a h[n] (by rw [List.getElem?_eq_getElem hn, e]) (List.getElem?_eq_getElem hl)).mut
theorem HR.mut (r : HR K m h H) : Mt m H := fun a ha => ha.elim (r.mutA a) fun q => (r.bn a q).1
theorem SqT.keepW (M : Mt m H) (k : Kw m H m' H') {a : Addr} {vs : List V} (x : SqT K H a vs) : SqT K H' a vs := by
  rcases x with x | x
  · refine .inl ?_
    rcases x with x | ⟨o, x⟩
    · exact .inl (k.keep a _ x (fun z => by have := M a (.inl z); rw [x] at this; exact this) (fun z => by have := M a (.inr z); rw [x] at this; exact this)).1
    · exact .inr ⟨o, (k.keep a _ x (fun z => by have := M a (.inl z); rw [x] at this; exact this) (fun z => by have := M a (.inr z); rw [x] at this; exact this)).1⟩
  · exact .inr x
theorem SqT.keep (M : Mt m H) (k : Kp m H m' H') {a : Addr} {vs : List V} (x : SqT K H a vs) : SqT K H' a vs := SqT.keepW M k.w x
theorem Fz.keepW (k : Kw m H m' H') {a : Addr} {vs : List V} (x : Fz K m H a vs) : Fz K m' H' a vs := by
  rcases x with ⟨x, n, nb⟩ | x
  · rcases x with x | ⟨o, x⟩
    · exact .inl ⟨.inl (k.keep a _ x n nb).1, (k.keep a _ x n nb).2⟩
    · exact .inl ⟨.inr ⟨o, (k.keep a _ x n nb).1⟩, (k.keep a _ x n nb).2⟩
  · exact .inr x
mutual
theorem Rel.keepW (M : Mt m H) (k : Kw m H m' H') : ∀ {d : MP.D} {v : V}, Rel K m H d v → Rel K m' H' d v
  | _, _, .non => .non
  | _, _, .bl b => .bl b
  | _, _, .int i => .int i
  | _, _, .str x => .str x
  | _, _, .tup h r => .tup (SqT.keepW M k h) (Rels.keepW M k r)
  | _, _, .lst h n nb r => .lst (k.keep _ _ h n nb).1 (k.keep _ _ h n nb).2.1 (k.keep _ _ h n nb).2.2 (Rels.keepW M k r)
  | _, _, .frz h r => .frz (h.keepW k) (Rels.keepW M k r)
  | _, _, .ref h => .ref (k.at_ _ _ h)
theorem Rels.keepW (M : Mt m H) (k : Kw m H m' H') : ∀ {ds : List MP.D} {vs : List V}, Rels K m H ds vs → Rels K m' H' ds vs
  | _, _, .nil => .nil
  | _, _, .cons h r => .cons (Rel.keepW M k h) (Rels.keepW M k r)
end
theorem Rel.keep (M : Mt m H) (k : Kp m H m' H') {d : MP.D} {v : V} (r : Rel K m H d v) : Rel K m' H' d v := r.keepW M k.w
theorem Rels.keep (M : Mt m H) (k : Kp m H m' H') {ds : List MP.D} {vs : List V} (r : Rels K m H ds vs) : Rels K m' H' ds vs := r.keepW M k.w
theorem Rels.length : ∀ {ds : List MP.D} {vs : List V}, Rels K m H ds vs → ds.length = vs.length
  | _, _, .nil => rfl
  | _, _, .cons _ r => by simp [Rels.length r]
theorem Rels.get : ∀ {ds : List MP.D} {vs : List V} {i : Nat} {d : MP.D}, Rels K m H ds vs → ds[i]? = some d → ∃ v, vs[i]? = some v ∧ Rel K m H d v
  | _, _, _, _, .nil, e => by simp at e
  | _, _, 0, _, .cons h _, e => by simp at e; subst e; exact ⟨_, rfl, h⟩
  | _, _, i + 1, _, .cons _ r, e => by
    obtain ⟨v, h1, h2⟩ := Rels.get (i := i) r (by simpa using e)
    exact ⟨v, by simpa using h1, h2⟩
theorem Rels.get' : ∀ {ds : List MP.D} {vs : List V} {i : Nat} {v : V}, Rels K m H ds vs → vs[i]? = some v → ∃ d, ds[i]? = some d ∧ Rel K m H d v
  | _, _, _, _, .nil, e => by simp at e
  | _, _, 0, _, .cons h _, e => by simp at e; subst e; exact ⟨_, rfl, h⟩
  | _, _, i + 1, _, .cons _ r, e => by
    obtain ⟨v, h1, h2⟩ := Rels.get' (i := i) r (by simpa using e)
    exact ⟨v, by simpa using h1, h2⟩
theorem Rels.append : ∀ {ds es : List MP.D} {vs us : List V}, Rels K m H ds vs → Rels K m H es us → Rels K m H (ds ++ es) (vs ++ us)
  | _, _, _, _, .nil, s => s
  | _, _, _, _, .cons h r, s => .cons h (Rels.append r s)
theorem Rels.take : ∀ {ds : List MP.D} {vs : List V} (n : Nat), Rels K m H ds vs → Rels K m H (ds.take n) (vs.take n)
  | _, _, 0, _ => by simp; exact .nil
  | _, _, _ + 1, .nil => by simp; exact .nil
  | _, _, n + 1, .cons h r => .cons h (Rels.take n r)
theorem Rels.drop : ∀ {ds : List MP.D} {vs : List V} (n : Nat), Rels K m H ds vs → Rels K m H (ds.drop n) (vs.drop n)
  | _, _, 0, r => r
  | _, _, _ + 1, .nil => by simp; exact .nil
  | _, _, n + 1, .cons _ r => Rels.drop n r
theorem Rels.reverse : ∀ {ds : List MP.D} {vs : List V}, Rels K m H ds vs → Rels K m H ds.reverse vs.reverse
  | _, _, .nil => .nil
  | _, _, .cons h r => by rw [List.reverse_cons, List.reverse_cons]; exact (Rels.reverse r).append (.cons h .nil)
theorem Rels.rep {ds : List MP.D} {vs : List V} (r : Rels K m H ds vs) : ∀ k : Nat, Rels K m H (List.replicate k ds).flatten (List.replicate k vs).flatten
  | 0 => .nil
  | k + 1 => by simp only [List.replicate_succ, List.flatten_cons]; exact r.append (Rels.rep r k)
theorem Rels.set {d : MP.D} {v : V} (q : Rel K m H d v) : ∀ {ds : List MP.D} {vs : List V} (i : Nat), Rels K m H ds vs → Rels K m H (ds.set i d) (vs.set i v)
  | _, _, _, .nil => .nil
  | _, _, 0, .cons _ r => .cons q r
  | _, _, i + 1, .cons h r => .cons h (Rels.set q i r)
theorem Rels.erase : ∀ {ds : List MP.D} {vs : List V} (i : Nat), Rels K m H ds vs → Rels K m H (ds.eraseIdx i) (vs.eraseIdx i)
  | _, _, _, .nil => .nil
  | _, _, 0, .cons _ r => r
  | _, _, i + 1, .cons h r => .cons h (Rels.erase i r)
theorem Rels.dropLast : ∀ {ds : List MP.D} {vs : List V}, Rels K m H ds vs → Rels K m H ds.dropLast vs.dropLast := fun {ds vs} r => by
  rw [List.dropLast_eq_take, List.dropLast_eq_take, r.length]; exact r.take _
theorem Rels.intsOf : ∀ {ds : List MP.D} {vs : List V} {ns : List Int}, Rels K m H ds vs → MP.intsOf ds = some ns → vs = ns.map V.int
  | _, _, _, .nil, e => by simp [MP.intsOf] at e; subst e; rfl
  | .int i :: ds, _, ns, .cons h r, e => by
    cases h
    simp only [MP.intsOf, Option.map_eq_some_iff] at e
    obtain ⟨ms, e1, rfl⟩ := e
    rw [List.map_cons, ← Rels.intsOf r e1]
  | .und :: _, _, _, .cons h _, e => by cases h
  | .non :: _, _, _, .cons h _, e => by simp [MP.intsOf] at e
  | .bl _ :: _, _, _, .cons h _, e => by simp [MP.intsOf] at e
  | .str _ :: _, _, _, .cons h _, e => by simp [MP.intsOf] at e
  | .tup _ :: _, _, _, .cons h _, e => by simp [MP.intsOf] at e
  | .lst _ :: _, _, _, .cons h _, e => by simp [MP.intsOf] at e
  | .frz _ :: _, _, _, .cons h _, e => by simp [MP.intsOf] at e
  | .ref _ :: _, _, _, .cons h _, e => by simp [MP.intsOf] at e
  | .clo _ _ :: _, _, _, .cons h _, e => by cases h
theorem Rels.bools : ∀ {ds : List MP.D} {vs : List V} {ns : List Bool}, Rels K m H ds vs → MP.bools ds = some ns → vs = ns.map V.bl
  | _, _, _, .nil, e => by simp [MP.bools] at e; subst e; rfl
  | .bl i :: ds, _, ns, .cons h r, e => by
    cases h
    simp only [MP.bools, Option.map_eq_some_iff] at e
    obtain ⟨ms, e1, rfl⟩ := e
    rw [List.map_cons, ← Rels.bools r e1]
  | .und :: _, _, _, .cons h _, e => by cases h
  | .non :: _, _, _, .cons h _, e => by simp [MP.bools] at e
  | .int _ :: _, _, _, .cons h _, e => by simp [MP.bools] at e
  | .str _ :: _, _, _, .cons h _, e => by simp [MP.bools] at e
  | .tup _ :: _, _, _, .cons h _, e => by simp [MP.bools] at e
  | .lst _ :: _, _, _, .cons h _, e => by simp [MP.bools] at e
  | .frz _ :: _, _, _, .cons h _, e => by simp [MP.bools] at e
  | .ref _ :: _, _, _, .cons h _, e => by simp [MP.bools] at e
  | .clo _ _ :: _, _, _, .cons h _, e => by cases h
theorem rels_ints : ∀ (ns : List Int), Rels K m H (ns.map MP.D.int) (ns.map V.int)
  | [] => .nil
  | _ :: ns => .cons (.int _) (rels_ints ns)
end
/-- a new object laid apart -/
theorem Kp.new {m : Pl} {H : Hp} {p : Addr} {o : HO} (hp : H p = none) : Kp m H m (upd H p o) :=
  ⟨⟨[], by simp⟩, rfl, fun a u h n => ⟨by rw [upd_ne (ne_of_none h hp)]; exact h, n⟩⟩
/-- a new object laid at a place -/
theorem Kp.newM {m : Pl} {H : Hp} {p : Addr} {o : HO} (hp : H p = none) : Kp m H (m.add p) (upd H p o) :=
  ⟨⟨[p], rfl⟩, rfl, fun a u h n => ⟨by rw [upd_ne (ne_of_none h hp)]; exact h, by simp [n, ne_of_none h hp]⟩⟩
/-- an object at a place rewritten -/
theorem Kp.write {m : Pl} {H : Hp} {p : Addr} {o : HO} (hp : p ∈ m.at_) : Kp m H m (upd H p o) :=
  ⟨⟨[], by simp⟩, rfl, fun a u h n => ⟨by rw [upd_ne (show a ≠ p from fun z => n (by rw [z]; exact hp))]; exact h, n⟩⟩
section
variable {K : PySem.W.Frag} {m m' : Pl} {H H' : Hp} {h h' : MP.Heap}
theorem ObR.keepAt (M : Mt m H) (k : Kw m H m' H') {a : Addr} {o : MP.Ob} (x : ObR K m H a o) (e : H' a = H a) : ObR K m' H' a o := by
  cases o with
  | lst xs => obtain ⟨vs, e1, r⟩ := x; exact ⟨vs, e.trans e1, r.keepW M k⟩
  | dic _ => exact x.elim
  | set _ => exact x.elim
  | hid => exact x.elim
theorem HR.free (r : HR K m h H) {p : Addr} (hp : H p = none) : p ∉ m.at_ := fun z => by have := r.mut p (.inl z); rw [hp] at this; exact this
theorem HR.freeB (r : HR K m h H) {p : Addr} (hp : H p = none) : p ∉ m.ban := fun z => by have := r.mut p (.inr z); rw [hp] at this; exact this
theorem mutO_ne {H : Hp} {a p : Addr} (h : mutO (H a)) (hp : H p = none) : a ≠ p := fun e => by subst e; rw [hp] at h; exact h
theorem HR.new (r : HR K m h H) {p : Addr} {o : HO} (hp : H p = none) : HR K m h (upd H p o) :=
  ⟨r.len, r.nd, fun n a ob e1 e2 => (r.ob n a ob e1 e2).keepAt r.mut (Kp.new hp).w (upd_ne fun z => by
    subst z
    exact r.free hp (List.mem_of_getElem? e1)), fun a ha => by
      obtain ⟨e, n⟩ := r.bn a ha
      exact ⟨by rw [upd_ne (mutO_ne e hp)]; exact e, n⟩⟩
theorem HR.newM (r : HR K m h H) {p : Addr} {o : HO} {ob : MP.Ob} (hp : H p = none) (x : ObR K (m.add p) (upd H p o) p ob) : HR K (m.add p) (h ++ [ob]) (upd H p o) := by
  have hpm := r.free hp
  refine ⟨by simp [r.len], ?_, fun n a ob' e1 e2 => ?_, fun a ha => ?_⟩
  · show (m.at_ ++ [p]).Nodup
    rw [List.nodup_append]
    exact ⟨r.nd, by simp, fun a ha b hb => by simp at hb; subst hb; exact fun z => hpm (z ▸ ha)⟩
  · have e1' : (m.at_ ++ [p])[n]? = some a := e1
    by_cases hn : n < m.at_.length
    · rw [List.getElem?_append_left hn] at e1'
      rw [List.getElem?_append_left (by rw [← r.len]; exact hn)] at e2
      exact (r.ob n a ob' e1' e2).keepAt r.mut (Kp.newM hp).w (upd_ne fun z => hpm (z ▸ List.mem_of_getElem? e1'))
    · have hn' : n = m.at_.length := by
        have := (List.getElem?_eq_some_iff.mp e1').1
        simp at this; omega
      subst hn'
      simp at e1'
      rw [r.len] at e2
      simp at e2
      subst e1' e2
      exact x
  · obtain ⟨e, n⟩ := r.bn a ha
    exact ⟨by rw [upd_ne (mutO_ne e hp)]; exact e, by simp [n, mutO_ne e hp]⟩
theorem nodup_get {α : Type} {l : List α} (hN : l.Nodup) {i j : Nat} {x : α} (a : l[i]? = some x) (b : l[j]? = some x) : i = j := nd_ix hN a b
theorem HR.write (r : HR K m h H) {n : Nat} {p : Addr} {o : HO} {ob : MP.Ob} (hp : m.at_[n]? = some p) (x : ObR K m (upd H p o) p ob) : HR K m (h.set n ob) (upd H p o) := by
  have hk : Kp m H m (upd H p o) := .write (List.mem_of_getElem? hp)
  refine ⟨by simp [r.len], r.nd, fun k a ob' e1 e2 => ?_, fun a ha => ?_⟩
  · by_cases hkn : k = n
    · subst hkn
      rw [hp] at e1; cases e1
      have hl : k < h.length := by rw [← r.len]; exact (List.getElem?_eq_some_iff.mp hp).1
      rw [List.getElem?_set_self hl] at e2
      cases e2
      exact x
    · rw [List.getElem?_set_ne (Ne.symm hkn)] at e2
      exact (r.ob k a ob' e1 e2).keepAt r.mut hk.w (upd_ne fun z => hkn (nodup_get r.nd e1 (z ▸ hp)))
  · obtain ⟨e, n⟩ := r.bn a ha
    exact ⟨by rw [upd_ne (show a ≠ p from fun z => n (by rw [z]; exact List.mem_of_getElem? hp))]; exact e, n⟩
/-- the list at a place -/
theorem HR.lst (r : HR K m h H) {n : Nat} {xs : List MP.D} (e : h[n]? = some (.lst xs)) : ∃ a vs, m.at_[n]? = some a ∧ H a = some (.lst vs) ∧ Rels K m H xs vs := by
  have hl : n < m.at_.length := by rw [r.len]; exact (List.getElem?_eq_some_iff.mp e).1
  obtain ⟨vs, e1, r1⟩ := r.ob n m.at_[n] _ (List.getElem?_eq_getElem hl) e
  exact ⟨_, vs, List.getElem?_eq_getElem hl, e1, r1⟩
end
end MPS
namespace MPS
open PySem PySem.Spec PyProof.Rows L2

/-! ### what a result is worth -/
/-- the wish Q of the value and the heap behind, the wish Z of an exception's class and the heap -/
def Gd (K : PySem.W.Frag) {α β : Type} (rl : Pl → Hp → α → β → Prop) (m : Pl) (H : Hp) (r : MP.R α) (Q : β → Hp → Prop) (Z : Nat → Hp → Prop) : Prop :=
  match r with
  | .ok d h => ∀ v m' H', Kp m H m' H' → HR K m' h H' → rl m' H' d v → Q v H'
  | .exc c h => ∀ m' H', Kp m H m' H' → HR K m' h H' → Z c H'
  | .bad => False
section
variable {K : PySem.W.Frag} {α β γ δ : Type} {rl : Pl → Hp → α → β → Prop} {rl' : Pl → Hp → γ → δ → Prop} {m m' : Pl} {H H' : Hp} {Q : β → Hp → Prop} {Z : Nat → Hp → Prop}
theorem Gd.shift {r : MP.R α} (k : Kp m H m' H') (g : Gd K rl m H r Q Z) : Gd K rl m' H' r Q Z := by
  cases r with
  | ok d h => exact fun v m2 H2 k2 hr r => g v m2 H2 (k.trans k2) hr r
  | exc c h => exact fun m2 H2 k2 hr => g m2 H2 (k.trans k2) hr
  | bad => exact g
theorem Gd.bind {r : MP.R α} {f : α → MP.Heap → MP.R γ} {Q' : δ → Hp → Prop} (g : Gd K rl' m H (r.bind f) Q' Z)
    (h : ∀ a h' b m' H', r = .ok a h' → Kp m H m' H' → HR K m' h' H' → rl m' H' a b → Gd K rl' m' H' (f a h') Q' Z → Q b H') : Gd K rl m H r Q Z := by
  cases r with
  | ok d h1 => exact fun v m2 H2 k2 hr r => h d h1 v m2 H2 rfl k2 hr r (Gd.shift (r := f d h1) k2 g)
  | exc c h1 => exact g
  | bad => exact g
theorem Gd.mono {r : MP.R α} {Q' : β → Hp → Prop} (g : Gd K rl m H r Q Z) (h : ∀ b H', Q b H' → Q' b H') : Gd K rl m H r Q' Z := by
  cases r with
  | ok d h1 => exact fun v m2 H2 k2 hr r => h _ _ (g v m2 H2 k2 hr r)
  | exc c h1 => exact g
  | bad => exact g
theorem Gd.opt {o : Option α} {h : MP.Heap} (g : Gd K rl m H (MP.R.opt h o) Q Z) : ∃ a, o = some a ∧ Gd K rl m H (.ok a h) Q Z := by
  cases o with
  | none => exact g.elim
  | some a => exact ⟨a, rfl, g⟩
theorem Gd.optBind {o : Option α} {h : MP.Heap} {f : α → MP.Heap → MP.R γ} {Q' : δ → Hp → Prop} (g : Gd K rl' m H ((MP.R.opt h o).bind f) Q' Z) : ∃ a, o = some a ∧ Gd K rl' m H (f a h) Q' Z := by
  cases o with
  | none => exact g.elim
  | some a => exact ⟨a, rfl, g⟩
/-- the calm result lets no exception out, whatever is wished -/
theorem Gd.calm {r : MP.R α} (g : Gd K rl m H r.calm Q Z) {Z' : Nat → Hp → Prop} : Gd K rl m H r Q Z' := by
  cases r with
  | ok d h1 => exact g
  | exc c h1 => exact g.elim
  | bad => exact g
end

/-! ### new things -/
section
variable {K : PySem.W.Frag} {m : Pl} {H : Hp} {h : MP.Heap} {Q : VK} {Z : Nat → Hp → Prop}
theorem Gd.here {d : MP.D} {v : V} (g : Gd K (Rel K) m H (.ok d h) Q Z) (hr : HR K m h H) (r : Rel K m H d v) : Q v H := g v m H (.refl _ _) hr r
theorem new_tup {ds : List MP.D} {vs : List V} (g : Gd K (Rel K) m H (.ok (.tup ds) h) Q Z) (hr : HR K m h H) (r : Rels K m H ds vs) (p : Addr) (hp : H p = none) : Q (.ref p) (upd H p (.tup vs)) :=
  g _ m _ (.new hp) (hr.new hp) (.tup (.of upd_same) (r.keep hr.mut (.new hp)))
theorem new_lst {imm : Bool} {ds : List MP.D} {vs : List V} (g : Gd K (Rel K) m H (MP.newL imm ds h) Q Z) (hr : HR K m h H) (r : Rels K m H ds vs) :
    vs.length ≤ sizeLine ∧ ∀ p, H p = none → Q (.ref p) (upd H p (.lst vs)) := by
  unfold MP.newL at g
  split at g
  · rename_i hl
    refine ⟨by rw [← r.length]; exact hl, fun p hp => ?_⟩
    cases imm with
    | true =>
      simp only [if_true] at g
      exact g _ m _ (.new hp) (hr.new hp) (.lst upd_same (hr.free hp) (hr.freeB hp) (r.keep hr.mut (.new hp)))
    | false =>
      simp only [Bool.false_eq_true, if_false] at g
      refine g _ (m.add p) _ (.newM hp) (hr.newM hp ⟨vs, upd_same, r.keep hr.mut (.newM hp)⟩) (.ref ?_)
      show (m.at_ ++ [p])[h.length]? = _; rw [← hr.len]; simp
  · exact g.elim
theorem rlist_rel {d : MP.D} {v : V} {xs : List MP.D} (hr : HR K m h H) (r : Rel K m H d v) (e : MP.rlist h d = some xs) : ∃ a vs, v = .ref a ∧ H a = some (.lst vs) ∧ Rels K m H xs vs := by
  cases r with
  | lst h1 n nb r => simp [MP.rlist] at e; subst e; exact ⟨_, _, rfl, h1, r⟩
  | ref h1 =>
    simp only [MP.rlist] at e
    split at e
    · rename_i ys e1
      cases e
      obtain ⟨a, vs, e2, e3, r⟩ := hr.lst e1
      rw [h1] at e2; cases e2
      exact ⟨_, vs, rfl, e3, r⟩
    · cases e
  | _ => simp [MP.rlist] at e
theorem items_rel {d : MP.D} {v : V} {xs : List MP.D} (hr : HR K m h H) (r : Rel K m H d v) (e : MP.items h d = some xs) : ∃ a vs, v = .ref a ∧ (SqL K H a vs ∨ SqT K H a vs) ∧ Rels K m H xs vs := by
  cases r with
  | tup h1 r => simp [MP.items] at e; subst e; exact ⟨_, _, rfl, .inr h1, r⟩
  | lst h1 n nb r => simp [MP.items] at e; subst e; exact ⟨_, _, rfl, .inl (.of h1), r⟩
  | frz h1 r => simp [MP.items] at e; subst e; exact ⟨_, _, rfl, .inl h1.sq, r⟩
  | ref h1 =>
    simp only [MP.items] at e
    split at e
    · rename_i ys e1
      cases e
      obtain ⟨a, vs, e2, e3, r⟩ := hr.lst e1
      rw [h1] at e2; cases e2
      exact ⟨_, vs, rfl, .inl (.of e3), r⟩
    · cases e
  | _ => simp [MP.items] at e
theorem truthy_rel {d : MP.D} {v : V} {k : Bool} (hr : HR K m h H) (r : Rel K m H d v) (e : MP.truthy h d = some k) : TruV K v H k := by
  cases r with
  | non => simp only [MP.truthy, Option.some.injEq] at e; exact e.symm
  | bl b => simp only [MP.truthy, Option.some.injEq] at e; exact e.symm
  | int i => simp only [MP.truthy, Option.some.injEq] at e; exact e.symm
  | str x =>
    simp only [MP.truthy] at e
    split at e
    case isFalse => cases e
    rename_i hz
    simp only [Option.some.injEq] at e
    have h1 : x.length ≤ sizeLine := hz
    refine ⟨h1, ?_⟩
    rw [← e]
    cases q : x.cps.toList with
    | nil =>
      have : x.length = 0 := by show x.cps.size = 0; rw [← Array.length_toList, q]; rfl
      rw [this]; rfl
    | cons a l =>
      have : x.length = l.length + 1 := by show x.cps.size = _; rw [← Array.length_toList, q]; rfl
      rw [this]
      symm
      show ((((l.length + 1 : Nat) : Int) != 0)) = !(List.isEmpty (a :: l))
      simp only [List.isEmpty_cons, Bool.not_false, bne_iff_ne, ne_eq]
      omega
  | tup h1 r =>
    simp only [MP.truthy, Option.some.injEq] at e; subst e
    refine .inr (.inl ⟨_, h1, ?_⟩)
    cases r <;> rfl
  | lst h1 n nb r =>
    simp only [MP.truthy, Option.some.injEq] at e; subst e
    refine .inl ⟨_, .of h1, ?_⟩
    cases r <;> rfl
  | frz h1 r => simp [MP.truthy] at e
  | ref h1 =>
    simp only [MP.truthy] at e
    split at e
    · rename_i ys e1
      cases e
      obtain ⟨a, vs, e2, e3, r⟩ := hr.lst e1
      rw [h1] at e2; cases e2
      refine .inl ⟨_, .of e3, ?_⟩
      cases r <;> rfl
    · cases e
end

/-! ### readings by what they are to do -/
section
variable (X : Cx)
def OpV (f : Value → Value → Sem Value) : R2 := fun x y H Q => ∀ (pins : List (Addr × Obj)) (s : Shared) (σ : L2.St) (v u : Value), Inv X pins σ H s → RelV x v → RelV y u → wpAny (model X.prog X.w) X.A (f v u) (EP X pins σ Q) X.xe s
theorem opV (f : Value → Value → Sem Value) : OpR X f (OpV X f) := fun pins s σ H x y v u Q I rx ry h => h pins s σ v u I rx ry
theorem OpV.of {X : Cx} {f : Value → Value → Sem Value} {r : R2} (ho : OpR X f r) {x y : V} {H : Hp} {Q : VK} (h : r x y H Q) : OpV X f x y H Q := fun pins s σ v u I rx ry => ho pins s σ H x y v u Q I rx ry h
end
def bop : MP.BOp → Operator
  | .add _ => .Add
  | .sub => .Sub
  | .mul _ => .Mult
  | .fdiv => .FloorDiv
  | .mod => .Mod
  | .pow => .Pow
theorem b2i_eq (b : Bool) : MP.b2i b = b2i b := rfl
section
variable {X : Cx} {m : Pl} {H : Hp} {h : MP.Heap} {Q : VK} {Z : Nat → Hp → Prop}
theorem smallI_spec {i : Int} (h : MP.smallI i = true) : -(2 ^ 64) < i ∧ i < 2 ^ 64 := by
  simp only [MP.smallI, Bool.and_eq_true, decide_eq_true_eq] at h
  exact ⟨by omega, by omega⟩
theorem mul_sound {i j : Int} (hm : MP.mulOk i j = true) (q : Q (.int (i * j)) H) : OpV X (binaryOp .Mult) (.int i) (.int j) H Q := by
  simp only [MP.mulOk, Bool.or_eq_true, Bool.and_eq_true] at hm
  rcases hm with (hm | hm) | ⟨h1, h2⟩
  · exact .of op_mul ⟨i, j, rfl, rfl, .inl (smallI_spec hm), q⟩
  · exact .of op_mul ⟨i, j, rfl, rfl, .inr (smallI_spec hm), q⟩
  · simp only [MP.wideI, decide_eq_true_eq] at h1 h2
    exact .of op_mulW ⟨i, j, rfl, rfl, wide_mul h1 h2 (by decide) (by decide) (by decide), q⟩
end
end MPS
namespace MPS
open PySem PySem.Spec PyProof.Rows L2

section
variable {X : Cx} {m : List Addr} {H : Hp} {h : MP.Heap} {Q : VK} {Z : Nat → Hp → Prop}
theorem op_add_bi : OpR X (binaryOp .Add) (fun x y H Q => ∃ i k, x = .bl k ∧ y = .int i ∧ Q (.int (b2i k + i)) H) := by
  intro pins s σ H x y v u Q I rx ry h
  obtain ⟨i, k, rfl, rfl, q⟩ := h
  obtain ⟨t, rfl⟩ := ry
  cases rx
  exact PySem.IntBool.add_bool_int ⟨.int (b2i k + i), H, I.tok _, ⟨_, rfl⟩, q⟩
theorem op_add_bb : OpR X (binaryOp .Add) (fun x y H Q => ∃ i k, x = .bl k ∧ y = .bl i ∧ Q (.int (b2i k + b2i i)) H) := by
  intro pins s σ H x y v u Q I rx ry h
  obtain ⟨i, k, rfl, rfl, q⟩ := h
  cases rx
  cases ry
  exact add_bool ⟨.int (b2i k + b2i i), H, I.tok _, ⟨_, rfl⟩, q⟩
theorem fm_congr {α β : Type} {f g : α → Option β} : ∀ {l : List α}, (∀ x ∈ l, f x = g x) → l.filterMap f = l.filterMap g
  | [], _ => rfl
  | a :: l, h => by rw [List.filterMap_cons, List.filterMap_cons, h a List.mem_cons_self, fm_congr fun x hx => h x (List.mem_cons_of_mem _ hx)]
/-- the picked places of a whole tuple, from the end -/
theorem pick_rev (xs : Array Value) : ((List.range xs.size).filterMap fun (k : Nat) => xs[(((xs.size : Int) - 1) + (k : Int) * (-1)).toNat]?).toArray = xs.toList.reverse.toArray := by
  have h := PySem.W.krv_pick xs
  unfold slicePick at h
  rw [PySem.W.krv_bounds] at h
  have h' : ((sliceRange ((xs.size : Int) - 1) (-1) (-1)).filterMap (xs[·]?)).toArray = xs.toList.reverse.toArray := h
  rw [PySem.W.krv_sliceRange, List.filterMap_map] at h'
  rw [← h']
  congr 1
  refine fm_congr fun k hk => ?_
  have hk' := List.mem_range.mp hk
  show xs[(((xs.size : Int) - 1) + (k : Int) * (-1)).toNat]? = xs[xs.size - 1 - k]?
  congr 1
  omega
theorem getItem_tuple_rev {prog : Program} {w : World} {A : Around} {E : Value → Shared → Prop} {s : Shared} {t sl : Addr} {items : Array Value} {vs : Value} {Q : Value → Shared → Prop} (ht : IsTup s.heap t items) (hs : s.heap.IsSliceOf sl .none .none vs) (ps : IsPart vs (some (-1)))
    (h : Q (.ref s.heap.objs.size) { s with heap := s.heap.push { cls := .type "tuple", data := .seq items.toList.reverse.toArray } })
    (hsz : items.size ≤ sizeLine) : wpAny (model prog w) A (getItem (.ref t) (.ref sl)) Q E s := by
  have htake : sizeOk (.seq items.toList.reverse.toArray) := by
    show items.toList.reverse.toArray.size ≤ sizeLine
    rw [List.size_toArray, List.length_reverse, Array.length_toList]
    exact hsz
  obtain ⟨os, hos, hcs, hds⟩ := id hs
  have hTs : s.TypeIs (.ref sl) "slice" := ⟨os, hos, hcs⟩
  unfold getItem
  try with_reducible refine wpAny_holding ?_
  first | refine wpAny_bind (wpAny_pure ?_) | skip
  refine wpAny_bind (wpAny_sequenceKey ht.typeIs (by decide) ?_)
  refine wpAny_bind (wpAny_callSpecial?_slot (name := Str.ofString "__getitem__") ht.typeIs PyProof.Rows.slot_tuple_getitem
    (wpAny_call_entry PyProof.Rows.slot_tuple_getitem ht.typeIs PyProof.Rows.entry_tuple_getitem ?_ (PyProof.Rows.args_tuple_getitem _ _)))
  show wpAny _ _ (Builtin.Tuple.tupleItemsOf (.ref t) >>= _) _ _ s
  refine wpAny_bind (tupleItemsOf_ ht ?_)
  refine wpAny_bind (wpAny_typeOf hTs ?_)
  rw [if_pos (by decide)]
  refine wpAny_bind ?_
  · unfold Builtin.Slice.sliceApplied Builtin.Slice.sliceFields
    refine wpAny_bind (wpAny_bind (wpAny_field hos hds (x := .none) rfl (wpAny_bind (wpAny_field hos hds (x := .none) rfl (wpAny_bind (wpAny_field hos hds (x := vs) rfl (wpAny_pure ?_)))))))
    refine wpAny_bind (HT.slicePart_ ps ?_)
    show wpAny _ _ (if ((-1 : Int) == 0) = true then _ else _) _ _ s
    rw [if_neg (by decide)]
    refine wpAny_bind (slicePart_none (wpAny_bind (slicePart_none (wpAny_bind (wpAny_pure ?_)))))
    show wpAny _ _ (pure (((items.size : Int) - 1), (-1 : Int), Builtin.Slice.slicePlaces ((items.size : Int) - 1) (-1) (-1))) _ _ s
    have hp : Builtin.Slice.slicePlaces ((items.size : Int) - 1) (-1) (-1) = items.size := by
      unfold Builtin.Slice.slicePlaces
      rw [if_neg (by decide)]
      by_cases hz : items.size = 0
      · rw [hz]; rfl
      · rw [if_pos (by omega), show (- (-1 : Int)) = 1 by decide, Int.ediv_one]
        omega
    rw [hp]
    refine wpAny_pure ?_
    have hno : ¬ ((((items.size : Int) - 1) == 0 && (-1 : Int) == 1 && items.size == items.size) = true) := by
      intro q
      rw [Bool.and_eq_true, Bool.and_eq_true] at q
      exact absurd q.1.2 (by decide)
    show wpAny _ _ (if (((items.size : Int) - 1) == 0 && (-1 : Int) == 1 && items.size == items.size) = true then _ else _) _ _ s
    rw [if_neg hno, pick_rev]
    first
      | exact wpAny_bind (m := Builtin.Tuple.tupleExact _) (wpAny_newObj_type (wpAny_pure ⟨_, rfl, wpAny_pure h⟩) htake)
      | exact wpAny_bind (m := Builtin.Tuple.tupleExact _) (wpAny_newObj_type (wpAny_bind (wpAny_pure (wpAny_pure ⟨_, rfl, wpAny_pure h⟩))) htake)
      | exact wpAny_bind (wpAny_bind (m := Builtin.Tuple.tupleExact _) (wpAny_newObj_type (wpAny_pure (wpAny_pure ⟨_, rfl, wpAny_pure h⟩)) htake))
      | exact wpAny_bind (wpAny_bind (m := Builtin.Tuple.tupleExact _) (wpAny_newObj_type (wpAny_pure ⟨_, rfl, wpAny_pure h⟩) htake))
/-- t * 1 is t itself -/
theorem tuple_mul1 (l : Addr) (items : Array Value) (n : Nat) (dd : Option Addr) (sl : Array (Option Value)) (u : Tok) :
    Meets (Builtin.«tuple.__mul__» ⟨[.ref l, .int 1 u], []⟩) (fun _ R s => s.heap.get? l = some { cls := .type "tuple", dict := dd, data := .seq items n, slots := sl } ∧
      R (.ok (.ret (Value.ref l))) s) :=
  .of_wp fun prog w A R s h => by
    obtain ⟨hp, g, d, tk, os⟩ := s
    obtain ⟨hl, h⟩ := h
    have f1 := AutoSeq1.idx_int
    have c1 : (items.isEmpty || (1 : Int) == 1) = true := by simp
    wp_walk using AutoSeq1.wpAny_loadPart' hl
    repeat (first
      | (refine wpAny_ite_true (by simp) ?_; wp_walk using AutoSeq1.wpAny_loadPart' hl)
      | (refine wpAny_ite_true (decide_eq_true c1) ?_; wp_walk using AutoSeq1.wpAny_loadPart' hl))
    exact ⟨_, rfl, h⟩
end
end MPS
namespace MPS
open PySem PySem.Spec PyProof.Rows L2

section
variable {X : Cx} {m : Pl} {H : Hp} {h : MP.Heap} {Q : VK} {Z : Nat → Hp → Prop}
/-- t * 1 -/
theorem op_rep1 : OpR X (binaryOp .Mult) (fun x y H Q => ∃ l xs, x = .ref l ∧ y = .int 1 ∧ SqT X.K H l xs ∧ Q (.ref l) H) := by
  intro pins s σ H x y v u Q I rx ry h
  obtain ⟨l, xs, rfl, rfl, hT, q⟩ := h
  cases rx
  obtain ⟨t, rfl⟩ := ry
  obtain ⟨its, r, ⟨⟨cls, dd, data, sl⟩, ho, hc, n, hd⟩, hs⟩ := I.tuple hT
  simp only at hc hd
  subst hc hd
  refine wpAny_binaryOp_repeat_ref (T := "tuple") (U := "int") (by decide) ⟨_, ho, rfl⟩ (fun s' => typeIs_int s' 1 t) noFill_tuple_mul F.fills_int_mul F.slot_int_rmul repeat_tuple F.slot_int_index.lookup
    (call_meets F.slot_int_rmul (typeIs_int s 1 t) F.entry_int_rmul (F.args_int_rmul_2 _ _) (int_rmul_tuple 1 t l its.toArray n dd sl)
      ⟨ho, rfl, ⟨_, ho, rfl⟩, call_meets F.slot_tuple_mul ⟨_, ho, rfl⟩ F.entry_tuple_mul (F.args_tuple_mul_2 _ _) (tuple_mul1 l its.toArray n dd sl t) ⟨ho, ?_⟩⟩)
  exact ⟨.ref l, H, I, rfl, q⟩
theorem opB_sound {o : MP.BOp} {d1 d2 : MP.D} {v1 v2 : V} (hr : HR X.K m h H) (r1 : Rel X.K m H d1 v1) (r2 : Rel X.K m H d2 v2) (g : Gd X.K (Rel X.K) m H (MP.opB o d1 d2 h) Q Z) :
    OpV X (binaryOp (bop o)) v1 v2 H Q := by
  unfold MP.opB at g
  split at g
  · cases r1; cases r2; exact .of op_add ⟨_, _, rfl, rfl, g.here hr (.int _)⟩
  · cases r1; cases r2; exact .of op_add_ib ⟨_, _, rfl, rfl, g.here hr (.int _)⟩
  · cases r1; cases r2; exact .of op_add_bi ⟨_, _, rfl, rfl, g.here hr (.int _)⟩
  · cases r1; cases r2; exact .of op_add_bb ⟨_, _, rfl, rfl, g.here hr (.int _)⟩
  · split at g
    · rename_i hz
      cases r1 with
      | tup h1 q1 =>
      cases r2 with
      | tup h2 q2 =>
      refine .of op_catA ⟨_, _, _, _, rfl, rfl, h1, h2, by rw [← q1.length, ← q2.length]; exact hz, fun e => ?_, fun ne e => ?_, fun _ _ p hp => new_tup g hr (q1.append q2) p hp⟩
      · subst e; cases q1; exact g.here hr (.tup h2 q2)
      · subst e; cases q2; exact g.here hr (.tup h1 (by rw [List.append_nil]; exact q1))
    · exact g.elim
  · split at g
    · rename_i hz
      cases r1 with
      | str x =>
      cases r2 with
      | str y =>
      refine .of op_add_str ⟨x, y, rfl, rfl, hz, ?_⟩
      refine g.here hr ?_
      have e : (x ++ y : Str).cps.toList = x.cps.toList ++ y.cps.toList := by
        show (x.cps ++ y.cps).toList = _
        rw [Array.toList_append]
      rw [← e]
      exact .str (x ++ y)
    · exact g.elim
  · split at g
    · rename_i e1 e2
      split at g
      · rename_i hz
        obtain ⟨a, vs, rfl, h1, q1⟩ := rlist_rel hr r1 e1
        obtain ⟨b, us, rfl, h2, q2⟩ := rlist_rel hr r2 e2
        exact .of op_cat ⟨_, _, _, _, rfl, rfl, h1, h2, by rw [← q1.length, ← q2.length]; exact hz, (new_lst g hr (q1.append q2)).2⟩
      · exact g.elim
    · exact g.elim
  · cases r1; cases r2; exact .of op_sub ⟨_, _, rfl, rfl, g.here hr (.int _)⟩
  · split at g
    · rename_i hm
      cases r1; cases r2; exact mul_sound hm (g.here hr (.int _))
    · exact g.elim
  · cases r1 with
    | tup h1 q1 =>
    cases r2
    split at g
    · split at g
      · rename_i e
        subst e
        exact .of op_rep1 ⟨_, _, rfl, rfl, h1, g.here hr (.tup h1 q1)⟩
      · exact g.elim
    · rename_i hc
      simp only [Bool.or_eq_true, decide_eq_true_eq, not_or, List.isEmpty_iff] at hc
      refine .of op_repT ⟨_, _, _, rfl, rfl, h1, fun e => hc.1.1.1 ?_, by omega, by omega, by rw [← q1.length]; omega, fun p hp => new_tup g hr (q1.rep _) p hp⟩
      subst e; cases q1; rfl
  · split at g
    · rename_i e1
      split at g
      · rename_i hc
        simp only [Bool.and_eq_true, decide_eq_true_eq] at hc
        obtain ⟨a, vs, rfl, h1, q1⟩ := rlist_rel hr r1 e1
        cases r2
        refine .of op_rep ⟨_, _, _, rfl, rfl, h1, by omega, by omega, ?_, (new_lst g hr (q1.rep _)).2⟩
        have a1 : vs.length ≤ 4096 := by rw [← q1.length]; omega
        exact Nat.le_trans (Nat.mul_le_mul a1 (show _ ≤ 4096 by omega)) (by decide +kernel)
      · exact g.elim
    · exact g.elim
  · split at g
    · rename_i hc
      cases r1; cases r2; exact .of op_fdiv ⟨_, _, rfl, rfl, hc, g.here hr (.int _)⟩
    · exact g.elim
  · split at g
    · rename_i hc
      cases r1; cases r2; exact .of op_mod ⟨_, _, rfl, rfl, hc, g.here hr (.int _)⟩
    · exact g.elim
  · split at g
    · rename_i hc
      cases r1; cases r2; exact .of op_pow ⟨_, _, rfl, rfl, ⟨hc.1, by omega, hc.2.2⟩, g.here hr (.int _)⟩
    · exact g.elim
  · exact g.elim
end
end MPS
namespace MPS
open PySem PySem.Spec PyProof.Rows L2

/-! ### values as plain data -/
mutual
def toPy : MP.D → PyData
  | .bl b => .bool b
  | .int i => .int i
  | .str s => .str ⟨s.toArray⟩
  | .tup xs => .tuple (toPys xs)
  | .lst xs => .list (toPys xs)
  | _ => .none
def toPys : List MP.D → List PyData
  | [] => []
  | x :: xs => toPy x :: toPys xs
end
theorem toPys_map : ∀ xs : List MP.D, toPys xs = xs.map toPy
  | [] => rfl
  | x :: xs => by rw [toPys, toPys_map xs]; rfl
theorem str_ok {s : List Nat} (h : s.all (· < 1114112) = true) : PyData.strOk (⟨s.toArray⟩ : Str) = true := by
  unfold PyData.strOk
  simpa using h
mutual
theorem flat_lay : ∀ (n : Nat) (d : MP.D), d.flat n = true → (toPy d).canLay0 = true ∧ (toPy d).depth ≤ n + 1
  | _, .non, _ => ⟨rfl, Nat.zero_le _⟩
  | _, .bl _, _ => ⟨rfl, Nat.zero_le _⟩
  | _, .int _, _ => ⟨rfl, Nat.zero_le _⟩
  | _, .str s, h => ⟨str_ok (by simpa [MP.D.flat] using h), Nat.zero_le _⟩
  | n, .tup xs, h => by
    obtain ⟨a, b⟩ := flats_lay n xs (by simpa [MP.D.flat] using h)
    exact ⟨a, by show PyData.depthAll (toPys xs) + 1 ≤ n + 1; omega⟩
  | n, .lst xs, h => by
    obtain ⟨a, b⟩ := flats_lay n xs (by simpa [MP.D.flat] using h)
    exact ⟨a, by show PyData.depthAll (toPys xs) + 1 ≤ n + 1; omega⟩
  | n, .und, h => by simp [MP.D.flat] at h
  | n, .frz _, h => by simp [MP.D.flat] at h
  | n, .ref _, h => by simp [MP.D.flat] at h
  | n, .clo _ _, h => by simp [MP.D.flat] at h
theorem flats_lay : ∀ (n : Nat) (ds : List MP.D), MP.D.flats n ds = true → PyData.canLayAll0 (toPys ds) = true ∧ PyData.depthAll (toPys ds) ≤ n
  | _, [], _ => ⟨rfl, Nat.zero_le _⟩
  | 0, _ :: _, h => by simp [MP.D.flats] at h
  | n + 1, x :: xs, h => by
    simp only [MP.D.flats, Bool.and_eq_true] at h
    obtain ⟨a1, b1⟩ := flat_lay n x h.1
    obtain ⟨a2, b2⟩ := flats_lay (n + 1) xs h.2
    refine ⟨?_, ?_⟩
    · show (PyData.canLay0 (toPy x) && PyData.canLayAll0 (toPys xs)) = true
      rw [a1, a2]; rfl
    · show max (PyData.depth (toPy x)) (PyData.depthAll (toPys xs)) ≤ n + 1
      omega
end
theorem flat_shaped {n : Nat} {d : MP.D} (hn : n ≤ 60) (h : d.flat n = true) : SeqAt.shaped (toPy d) = true := by
  obtain ⟨a, b⟩ := flat_lay n d h
  unfold SeqAt.shaped
  rw [a, Bool.true_and]
  exact decide_eq_true (by omega)
theorem flats_mono : ∀ (n : Nat) (ds : List MP.D), MP.D.flats n ds = true → (∀ d ∈ ds, d.flat n = true → d.flat (n + 1) = true) → (∀ (k : Nat) (d : MP.D), d ∈ ds → k < n → d.flat k = true → d.flat (k + 1) = true) → MP.D.flats (n + 1) ds = true
  | _, [], _, _, _ => by simp [MP.D.flats]
  | 0, _ :: _, h, _, _ => by simp [MP.D.flats] at h
  | n + 1, x :: xs, h, h1, h2 => by
    simp only [MP.D.flats, Bool.and_eq_true] at h ⊢
    exact ⟨h2 n x List.mem_cons_self (by omega) h.1, flats_mono (n + 1) xs h.2 (fun d hd => h1 d (List.mem_cons_of_mem _ hd)) fun k d hd => h2 k d (List.mem_cons_of_mem _ hd)⟩
mutual
theorem flat_succ : ∀ (n : Nat) (d : MP.D), d.flat n = true → d.flat (n + 1) = true
  | _, .non, _ => by simp [MP.D.flat]
  | _, .bl _, _ => by simp [MP.D.flat]
  | _, .int _, _ => by simp [MP.D.flat]
  | _, .str s, h => by simpa [MP.D.flat] using h
  | n, .tup xs, h => by
    simp only [MP.D.flat] at h ⊢
    exact flats_succ n xs h
  | n, .lst xs, h => by
    simp only [MP.D.flat] at h ⊢
    exact flats_succ n xs h
  | n, .und, h => by simp [MP.D.flat] at h
  | n, .frz _, h => by simp [MP.D.flat] at h
  | n, .ref _, h => by simp [MP.D.flat] at h
  | n, .clo _ _, h => by simp [MP.D.flat] at h
theorem flats_succ : ∀ (n : Nat) (ds : List MP.D), MP.D.flats n ds = true → MP.D.flats (n + 1) ds = true
  | _, [], _ => by simp [MP.D.flats]
  | 0, _ :: _, h => by simp [MP.D.flats] at h
  | n + 1, x :: xs, h => by
    simp only [MP.D.flats, Bool.and_eq_true] at h ⊢
    exact ⟨flat_succ n x h.1, flats_succ (n + 1) xs h.2⟩
end
mutual
theorem rsv_flat (h : MP.Heap) : ∀ (n : Nat) (d e : MP.D), MP.rsv h n d = some e → e.flat n = true
  | 0, _, _, q => by simp [MP.rsv] at q
  | n + 1, .non, e, q => by simp [MP.rsv] at q; subst q; simp [MP.D.flat]
  | n + 1, .bl _, e, q => by simp [MP.rsv] at q; subst q; simp [MP.D.flat]
  | n + 1, .int _, e, q => by simp [MP.rsv] at q; subst q; simp [MP.D.flat]
  | n + 1, .str s, e, q => by
    simp only [MP.rsv] at q
    split at q
    · rename_i hs; cases q; simpa [MP.D.flat] using hs
    · cases q
  | n + 1, .tup xs, e, q => by
    simp only [MP.rsv, Option.map_eq_some_iff] at q
    obtain ⟨ys, q1, rfl⟩ := q
    simp only [MP.D.flat]
    exact flats_succ n ys (rsvs_flat h n xs ys q1)
  | n + 1, .lst xs, e, q => by
    simp only [MP.rsv, Option.map_eq_some_iff] at q
    obtain ⟨ys, q1, rfl⟩ := q
    simp only [MP.D.flat]
    exact flats_succ n ys (rsvs_flat h n xs ys q1)
  | n + 1, .ref k, e, q => by
    simp only [MP.rsv] at q
    split at q
    · simp only [Option.map_eq_some_iff] at q
      obtain ⟨ys, q1, rfl⟩ := q
      simp only [MP.D.flat]
      exact flats_succ n ys (rsvs_flat h n _ ys q1)
    · cases q
  | n + 1, .und, e, q => by simp [MP.rsv] at q
  | n + 1, .frz _, e, q => by simp [MP.rsv] at q
  | n + 1, .clo _ _, e, q => by simp [MP.rsv] at q
theorem rsvs_flat (h : MP.Heap) : ∀ (n : Nat) (ds es : List MP.D), MP.rsvs h n ds = some es → MP.D.flats n es = true
  | 0, _, _, q => by simp [MP.rsvs] at q
  | n + 1, [], es, q => by simp [MP.rsvs] at q; subst q; simp [MP.D.flats]
  | n + 1, x :: xs, es, q => by
    simp only [MP.rsvs, Option.bind_eq_some_iff, Option.map_eq_some_iff] at q
    obtain ⟨y, q1, ys, q2, rfl⟩ := q
    simp only [MP.D.flats, Bool.and_eq_true]
    exact ⟨rsv_flat h n x y q1, rsvs_flat h (n + 1) xs ys q2⟩
end
section
variable {K : PySem.W.Frag} {m : Pl} {H : Hp} {h : MP.Heap}
mutual
theorem flat_dp : ∀ (n : Nat) (d : MP.D) (v : V), d.flat n = true → Rel K m H d v → Dp K H v (toPy d)
  | _, .non, _, _, r => by cases r; exact .non
  | _, .bl _, _, _, r => by cases r; exact .bl _
  | _, .int _, _, _, r => by cases r; exact .int _
  | _, .str s, _, h, r => by
    cases r with
    | str x => have e : (⟨x.cps.toList.toArray⟩ : Str) = x := by cases x; simp
               show Dp K H (.str x) (.str ⟨x.cps.toList.toArray⟩)
               rw [e]; exact .str x
  | n, .tup xs, _, h, r => by
    cases r with
    | tup h1 q => exact .tup h1 (flats_dp n xs _ (by simpa [MP.D.flat] using h) q)
  | n, .lst xs, _, h, r => by
    cases r with
    | lst h1 _ _ q => exact .lst (.of h1) (flats_dp n xs _ (by simpa [MP.D.flat] using h) q)
  | n, .und, _, h, _ => by simp [MP.D.flat] at h
  | n, .frz _, _, h, _ => by simp [MP.D.flat] at h
  | n, .ref _, _, h, _ => by simp [MP.D.flat] at h
  | n, .clo _ _, _, h, _ => by simp [MP.D.flat] at h
theorem flats_dp : ∀ (n : Nat) (ds : List MP.D) (vs : List V), MP.D.flats n ds = true → Rels K m H ds vs → DpAll K H vs (toPys ds)
  | _, [], _, _, r => by cases r; exact .nil
  | 0, _ :: _, _, h, _ => by simp [MP.D.flats] at h
  | n + 1, x :: xs, _, h, r => by
    simp only [MP.D.flats, Bool.and_eq_true] at h
    cases r with
    | cons h1 q => exact .cons (flat_dp n x _ h.1 h1) (flats_dp (n + 1) xs _ h.2 q)
end
mutual
theorem rsv_dp (hr : HR K m h H) : ∀ (n : Nat) (d e : MP.D) (v : V), MP.rsv h n d = some e → Rel K m H d v → Dp K H v (toPy e)
  | 0, _, _, _, q, _ => by simp [MP.rsv] at q
  | n + 1, .non, e, _, q, r => by simp [MP.rsv] at q; subst q; cases r; exact .non
  | n + 1, .bl _, e, _, q, r => by simp [MP.rsv] at q; subst q; cases r; exact .bl _
  | n + 1, .int _, e, _, q, r => by simp [MP.rsv] at q; subst q; cases r; exact .int _
  | n + 1, .str s, e, v, q, r => by
    simp only [MP.rsv] at q
    split at q
    · rename_i hs; cases q; exact flat_dp (m := m) (n + 1) (.str s) v (by simpa [MP.D.flat] using hs) r
    · cases q
  | n + 1, .tup xs, e, _, q, r => by
    simp only [MP.rsv, Option.map_eq_some_iff] at q
    obtain ⟨ys, q1, rfl⟩ := q
    cases r with
    | tup h1 r => exact .tup h1 (rsvs_dp hr n xs ys _ q1 r)
  | n + 1, .lst xs, e, _, q, r => by
    simp only [MP.rsv, Option.map_eq_some_iff] at q
    obtain ⟨ys, q1, rfl⟩ := q
    cases r with
    | lst h1 _ _ r => exact .lst (.of h1) (rsvs_dp hr n xs ys _ q1 r)
  | n + 1, .ref k, e, _, q, r => by
    simp only [MP.rsv] at q
    split at q
    · rename_i xs e1
      simp only [Option.map_eq_some_iff] at q
      obtain ⟨ys, q1, rfl⟩ := q
      cases r with
      | ref h1 =>
        obtain ⟨a, vs, e2, e3, r⟩ := hr.lst e1
        rw [h1] at e2; cases e2
        exact .lst (.of e3) (rsvs_dp hr n _ ys _ q1 r)
    · cases q
  | n + 1, .und, e, _, q, _ => by simp [MP.rsv] at q
  | n + 1, .frz _, e, _, q, _ => by simp [MP.rsv] at q
  | n + 1, .clo _ _, e, _, q, _ => by simp [MP.rsv] at q
theorem rsvs_dp (hr : HR K m h H) : ∀ (n : Nat) (ds es : List MP.D) (vs : List V), MP.rsvs h n ds = some es → Rels K m H ds vs → DpAll K H vs (toPys es)
  | 0, _, _, _, q, _ => by simp [MP.rsvs] at q
  | n + 1, [], es, _, q, r => by simp [MP.rsvs] at q; subst q; cases r; exact .nil
  | n + 1, x :: xs, es, _, q, r => by
    simp only [MP.rsvs, Option.bind_eq_some_iff, Option.map_eq_some_iff] at q
    obtain ⟨y, q1, ys, q2, rfl⟩ := q
    cases r with
    | cons h1 r => exact .cons (rsv_dp hr n x y _ q1 h1) (rsvs_dp hr (n + 1) xs ys _ q2 r)
end
theorem rsvD_dp (hr : HR K m h H) {d e : MP.D} {v : V} (q : MP.rsvD h d = some e) (r : Rel K m H d v) : Dp K H v (toPy e) ∧ SeqAt.shaped (toPy e) = true ∧ e.flat MP.DEEP = true := by
  unfold MP.rsvD at q
  split at q
  · rename_i hf
    cases q
    exact ⟨flat_dp _ _ _ hf r, flat_shaped (by decide) hf, hf⟩
  · exact ⟨rsv_dp hr _ _ _ _ q r, flat_shaped (by decide) (rsv_flat h _ _ _ q), rsv_flat h _ _ _ q⟩
end
theorem str_beq (s t : List Nat) : ((⟨s.toArray⟩ : Str) == ⟨t.toArray⟩) = (s == t) := by
  rw [Bool.eq_iff_iff, beq_iff_eq, beq_iff_eq]
  exact ⟨fun e => by injection e with e; exact List.toArray_inj e, fun e => by rw [e]⟩
mutual
theorem eqv_py : ∀ (n k : Nat) (a b : MP.D), a.flat n = true → b.flat k = true → PyData.eqv (toPy a) (toPy b) = MP.D.eqv a b
  | n, k, .non, b, h, q => by cases b <;> first | rfl | (simp [MP.D.flat] at q; done)
  | n, k, .bl _, b, h, q => by cases b <;> first | rfl | (simp [MP.D.flat] at q; done)
  | n, k, .int _, b, h, q => by cases b <;> first | rfl | (simp [MP.D.flat] at q; done)
  | n, k, .str s, b, h, q => by
    cases b with
    | str t => simp only [toPy, PyData.eqv, MP.D.eqv]; exact str_beq s t
    | _ => first | rfl | (simp [MP.D.flat] at q; done)
  | n, k, .tup xs, b, h, q => by
    cases b with
    | tup ys => simp only [toPy, PyData.eqv, MP.D.eqv]; exact eqvs_py n k xs ys (by simpa [MP.D.flat] using h) (by simpa [MP.D.flat] using q)
    | _ => first | rfl | (simp [MP.D.flat] at q; done)
  | n, k, .lst xs, b, h, q => by
    cases b with
    | lst ys => simp only [toPy, PyData.eqv, MP.D.eqv]; exact eqvs_py n k xs ys (by simpa [MP.D.flat] using h) (by simpa [MP.D.flat] using q)
    | _ => first | rfl | (simp [MP.D.flat] at q; done)
  | n, k, .und, _, h, _ => by simp [MP.D.flat] at h
  | n, k, .frz _, _, h, _ => by simp [MP.D.flat] at h
  | n, k, .ref _, _, h, _ => by simp [MP.D.flat] at h
  | n, k, .clo _ _, _, h, _ => by simp [MP.D.flat] at h
theorem eqvs_py : ∀ (n k : Nat) (as bs : List MP.D), MP.D.flats n as = true → MP.D.flats k bs = true → PyData.eqvAll (toPys as) (toPys bs) = MP.D.eqvs as bs
  | _, _, [], [], _, _ => rfl
  | _, _, [], _ :: _, _, _ => rfl
  | _, _, _ :: _, [], _, _ => rfl
  | 0, _, _ :: _, _ :: _, h, _ => by simp [MP.D.flats] at h
  | _, 0, _ :: _, _ :: _, _, q => by simp [MP.D.flats] at q
  | n + 1, k + 1, a :: as, b :: bs, h, q => by
    simp only [MP.D.flats, Bool.and_eq_true] at h q
    simp only [toPys, PyData.eqvAll, MP.D.eqvs]
    rw [eqv_py n k a b h.1 q.1, eqvs_py (n + 1) (k + 1) as bs h.2 q.2]
end
theorem any_eqv_py {n k : Nat} {d : MP.D} (h : d.flat k = true) : ∀ (as : List MP.D), MP.D.flats n as = true → ((toPys as).any fun z => PyData.eqv z (toPy d)) = as.any fun z => MP.D.eqv z d := by
  intro as
  cases n with
  | zero => intro q; cases as with
    | nil => rfl
    | cons a l => simp [MP.D.flats] at q
  | succ n =>
    induction as with
    | nil => intro _; rfl
    | cons a l ih =>
      intro q
      simp only [MP.D.flats, Bool.and_eq_true] at q
      simp only [toPys, List.any_cons]
      rw [eqv_py n k a d q.1 h, ih q.2]
end MPS
namespace MPS
open PySem PySem.Spec PyProof.Rows L2
def cop : MP.COp → CmpOp
  | .eq => .Eq | .ne => .NotEq | .lt => .Lt | .le => .LtE | .gt => .Gt | .ge => .GtE | .is => .Is | .isnot => .IsNot | .isin => .In | .notin => .NotIn
theorem lex_eq : ∀ (a b : List Int), MP.lexLt a b = HT.lexLt a b
  | [], [] => rfl
  | [], _ :: _ => rfl
  | _ :: _, [] => rfl
  | x :: xs, y :: ys => by rw [MP.lexLt, HT.lexLt_cons, lex_eq xs ys]
section
variable {X : Cx} {m : Pl} {H : Hp} {h : MP.Heap} {Q : VK}
theorem eqD_sound {d1 d2 : MP.D} {v1 v2 : V} {b : Bool} (hu : X.A.units + 65 < cLine) (hr : HR X.K m h H) (r1 : Rel X.K m H d1 v1) (r2 : Rel X.K m H d2 v2) (e : MP.eqD h d1 d2 = some b) :
    (Q (.bl b) H → OpV X (compareOp .Eq) v1 v2 H Q) ∧ (Q (.bl (!b)) H → OpV X (compareOp .NotEq) v1 v2 H Q) := by
  unfold MP.eqD at e
  simp only [Option.bind_eq_some_iff, Option.map_eq_some_iff] at e
  obtain ⟨x, e1, y, e2, rfl⟩ := e
  obtain ⟨p1, s1, f1⟩ := rsvD_dp hr e1 r1
  obtain ⟨p2, s2, f2⟩ := rsvD_dp hr e2 r2
  have he := eqv_py _ _ x y f1 f2
  exact ⟨fun q => .of (op_eqD (by omega)) ⟨_, _, p1, p2, s1, s2, by rw [he]; exact q⟩, fun q => .of (op_neD (by omega)) ⟨_, _, p1, p2, s1, s2, by rw [he]; exact q⟩⟩
theorem decNon {v : V} {d : MP.D} (r : Rel X.K m H d v) : decide (v = .non) = (match d with | .non => true | _ => false) := by
  cases r <;> rfl
theorem op_inT (hu : X.A.units + 65 < cLine) : OpR X (compareOp .In) (fun x y H Q => ∃ d ds, Dp X.K H x d ∧ Dp X.K H y (.tuple ds) ∧ SeqAt.shaped d = true ∧ SeqAt.shaped (.tuple ds) = true ∧ Q (.bl (ds.any fun z => PyData.eqv z d)) H) := by
  intro pins s σ H x y v u Q I rx ry h
  obtain ⟨d, ds, hd, he, sd, se, q⟩ := h
  obtain ⟨as, r1⟩ := Dp.reads I d x v hd rx
  obtain ⟨bs, r2⟩ := Dp.reads I (.tuple ds) y u he ry
  exact SeqAt.in_tuple_reads r2 r1 (SeqAt.canLay_of_shaped se) (SeqAt.canLay_of_shaped sd) (room_in_shaped sd hu) ⟨.bl _, H, I, rfl, q⟩
theorem op_notInT (hu : X.A.units + 65 < cLine) : OpR X (compareOp .NotIn) (fun x y H Q => ∃ d ds, Dp X.K H x d ∧ Dp X.K H y (.tuple ds) ∧ SeqAt.shaped d = true ∧ SeqAt.shaped (.tuple ds) = true ∧ Q (.bl (!ds.any fun z => PyData.eqv z d)) H) := by
  intro pins s σ H x y v u Q I rx ry h
  obtain ⟨d, ds, hd, he, sd, se, q⟩ := h
  obtain ⟨as, r1⟩ := Dp.reads I d x v hd rx
  obtain ⟨bs, r2⟩ := Dp.reads I (.tuple ds) y u he ry
  exact SeqAt.notIn_tuple_reads r2 r1 (SeqAt.canLay_of_shaped se) (SeqAt.canLay_of_shaped sd) (room_in_shaped sd hu) ⟨.bl _, H, I, rfl, q⟩
theorem opC_sound {o : MP.COp} {d1 d2 : MP.D} {v1 v2 : V} {b : Bool} (hu : X.A.units + 65 < cLine) (hr : HR X.K m h H) (r1 : Rel X.K m H d1 v1) (r2 : Rel X.K m H d2 v2) (e : MP.opC o d1 d2 h = some b) (q : Q (.bl b) H) :
    OpV X (compareOp (cop o)) v1 v2 H Q := by
  unfold MP.opC at e
  split at e
  · cases r1; cases r2; cases e
    refine .of op_eq ⟨rfl, ?_⟩
    rw [dec_int]; exact q
  · cases r1; cases r2; cases e
    refine .of op_ne ⟨rfl, ?_⟩
    rw [dec_int]; exact q
  · exact (eqD_sound hu hr r1 r2 e).1 q
  · simp only [Option.map_eq_some_iff] at e
    obtain ⟨b', e', rfl⟩ := e
    exact (eqD_sound hu hr r1 r2 e').2 q
  · cases r1; cases r2; cases e; exact .of op_lt ⟨_, _, rfl, rfl, q⟩
  · cases r1; cases r2; cases e; exact .of op_le ⟨_, _, rfl, rfl, q⟩
  · cases r1; cases r2; cases e; exact .of op_gt ⟨_, _, rfl, rfl, q⟩
  · cases r1; cases r2; cases e; exact .of op_ge ⟨_, _, rfl, rfl, q⟩
  · simp only [Option.bind_eq_some_iff, Option.map_eq_some_iff] at e
    obtain ⟨ns, e1, ms, e2, rfl⟩ := e
    cases r1 with
    | tup h1 q1 =>
    cases r2 with
    | tup h2 q2 =>
    have := q1.intsOf e1; subst this
    have := q2.intsOf e2; subst this
    refine .of (op_ltT (by omega)) ⟨_, _, _, _, rfl, rfl, h1, h2, ?_⟩
    rw [← lex_eq]; exact q
  · cases r2
    refine .of op_isN ⟨rfl, ?_⟩
    rw [decNon r1]
    split at e
    · cases e; exact q
    · cases e
    · rename_i hn _
      cases e
      split
      · rename_i hh; exact (hn rfl).elim
      · exact q
  · cases r2
    refine .of op_notN ⟨rfl, ?_⟩
    rw [decNon r1]
    split at e
    · cases e; exact q
    · cases e
    · rename_i hn _
      cases e
      split
      · rename_i hh; exact (hn rfl).elim
      · exact q
  · cases r1; cases r2; cases e
    refine .of op_isBl ⟨_, _, rfl, rfl, ?_⟩
    rw [← Bool.beq_eq_decide_eq]; exact q
  · cases r1; cases r2; cases e
    refine .of op_notBl ⟨_, _, rfl, rfl, ?_⟩
    rw [← Bool.beq_eq_decide_eq]; exact q
  · simp only [Option.bind_eq_some_iff] at e
    obtain ⟨d, e1, ys, e2, e⟩ := e
    obtain ⟨p1, s1, f1⟩ := rsvD_dp hr e1 r1
    obtain ⟨p2, s2, f2⟩ := rsvD_dp hr e2 r2
    split at e
    · cases e
      refine .of (op_inD hu) ⟨_, _, p1, p2, s1, s2, ?_⟩
      rw [any_eqv_py f1 _ (by simpa [MP.D.flat] using f2)]; exact q
    · cases e
      refine .of (op_inT hu) ⟨_, _, p1, p2, s1, s2, ?_⟩
      rw [any_eqv_py f1 _ (by simpa [MP.D.flat] using f2)]; exact q
    · cases e
  · simp only [Option.bind_eq_some_iff] at e
    obtain ⟨d, e1, ys, e2, e⟩ := e
    obtain ⟨p1, s1, f1⟩ := rsvD_dp hr e1 r1
    obtain ⟨p2, s2, f2⟩ := rsvD_dp hr e2 r2
    split at e
    · cases e
      refine .of (op_notInD hu) ⟨_, _, p1, p2, s1, s2, ?_⟩
      rw [any_eqv_py f1 _ (by simpa [MP.D.flat] using f2)]; exact q
    · cases e
      refine .of (op_notInT hu) ⟨_, _, p1, p2, s1, s2, ?_⟩
      rw [any_eqv_py f1 _ (by simpa [MP.D.flat] using f2)]; exact q
    · cases e
  · cases e
end
end MPS
namespace MPS
open PySem PySem.Spec PyProof.Rows L2
section
variable {X : Cx} {m : Pl} {H : Hp} {h : MP.Heap} {Q : VK} {Z : Nat → Hp → Prop}
/-! ### places -/
theorem atI_eq {α : Type} (xs : List α) (i : Int) : MP.atI xs i = L2.atI xs i := rfl
theorem sIx_eq (n d : Nat) (o : Option Int) : MP.sIx n d o = HT.sIx n d o := by
  cases o <;> rfl
def IxV (X : Cx) : R2 := fun x y H Q => ∀ (value slice : Expr) (pins : List (Addr × Obj)) (s : Shared) (σ : L2.St) (v u : Value), Inv X pins σ H s → RelV x v → RelV y u → subscripted slice false v u = operate [v, u] (getItem v u) →
  wpAny (model X.prog X.w) X.A (subscriptTail value slice v u) (EP X pins σ Q) X.xe s
theorem ixV (X : Cx) : IxR X (IxV X) := fun value slice pins s σ H x y v u Q I rx ry h hs => h value slice pins s σ v u I rx ry hs
theorem IxV.of {X : Cx} {r : R2} (ho : IxR X r) {x y : V} {H : Hp} {Q : VK} (h : r x y H Q) : IxV X x y H Q := fun value slice pins s σ v u I rx ry hs => ho value slice pins s σ H x y v u Q I rx ry h hs
theorem Rels.at {K : PySem.W.Frag} {ds : List MP.D} {vs : List V} {i : Int} {d : MP.D} (r : Rels K m H ds vs) (e : MP.atI ds i = some d) : ∃ v, L2.atI vs i = some v ∧ Rel K m H d v := by
  unfold MP.atI at e
  simp only [Option.bind_eq_some_iff] at e
  obtain ⟨j, e1, e2⟩ := e
  obtain ⟨v, e3, q⟩ := r.get e2
  refine ⟨v, ?_, q⟩
  unfold L2.atI
  rw [show L2.ixN vs.length i = some j from by rw [← r.length]; exact e1]
  exact e3
theorem opI_sound {d1 d2 d : MP.D} {v1 v2 : V} (hr : HR X.K m h H) (r1 : Rel X.K m H d1 v1) (r2 : Rel X.K m H d2 v2) (e : MP.opI d1 d2 h = some d) (q : ∀ v, Rel X.K m H d v → Q v H) : IxV X v1 v2 H Q := by
  unfold MP.opI at e
  split at e
  · cases r2
    cases r1 with
    | tup h1 r =>
    obtain ⟨v, e3, rv⟩ := r.at e
    exact .of ix_tup ⟨_, _, _, v, rfl, rfl, h1, e3, q v rv⟩
  · cases r2
    cases r1 with
    | lst h1 _ _ r =>
    obtain ⟨v, e3, rv⟩ := r.at e
    exact .of ix_list ⟨_, _, _, v, rfl, rfl, .of h1, e3, q v rv⟩
  · cases r2
    cases r1 with
    | frz h1 r =>
    obtain ⟨v, e3, rv⟩ := r.at e
    exact .of ix_list ⟨_, _, _, v, rfl, rfl, h1.sq, e3, q v rv⟩
  · cases r2
    cases r1 with
    | ref h1 =>
    split at e
    · rename_i xs e1
      obtain ⟨a, vs, e2, e3, r⟩ := hr.lst e1
      rw [h1] at e2; cases e2
      obtain ⟨v, e4, rv⟩ := r.at e
      exact .of ix_list ⟨_, _, _, v, rfl, rfl, .of e3, e4, q v rv⟩
    · cases e
  · cases e
/-! ### slices -/
def SlV (X : Cx) : V → Option Int → Option Int → Hp → VK → Prop := fun x lo hi H Q => ∀ (pins : List (Addr × Obj)) (s : Shared) (σ : L2.St) (v vl vu : Value) (sl : Addr), Inv X pins σ H s → RelV x v → s.heap.IsSliceOf sl vl vu .none → IsPart vl lo → IsPart vu hi →
  ∃ T id, typeLookup (.type T) "__getitem__" = pure (some (.builtin id)) ∧ s.TypeIs v T ∧ wpAny (model X.prog X.w) X.A (getItem v (.ref sl)) (EP X pins σ Q) X.xe s
theorem slV (X : Cx) : SlR X (SlV X) := fun pins s σ H x v vl vu lo hi sl Q I rx hs pl pu h => h pins s σ v vl vu sl I rx hs pl pu
theorem SlV.of {X : Cx} {r : V → Option Int → Option Int → Hp → VK → Prop} (ho : SlR X r) {x : V} {lo hi : Option Int} {H : Hp} {Q : VK} (h : r x lo hi H Q) : SlV X x lo hi H Q :=
  fun pins s σ v vl vu sl I rx hs pl pu => ho pins s σ H x v vl vu lo hi sl Q I rx hs pl pu h
theorem Rels.cut {K : PySem.W.Frag} {ds : List MP.D} {vs : List V} (r : Rels K m H ds vs) (lo hi : Option Int) : Rels K m H (MP.cut ds lo hi) (cutV vs lo hi) := by
  unfold MP.cut cutV
  rw [sIx_eq, sIx_eq, r.length]
  exact (r.drop _).take _
theorem remade_rel {imm : Bool} {f : List MP.D → List MP.D} {d : MP.D} {v : V} (hr : HR X.K m h H) (r : Rel X.K m H d v) (g : Gd X.K (Rel X.K) m H (MP.remade imm f d h) Q Z) :
    (∃ a xs vs, v = .ref a ∧ d = .tup xs ∧ SqT X.K H a vs ∧ Rels X.K m H xs vs ∧ Gd X.K (Rel X.K) m H (.ok (.tup (f xs)) h) Q Z) ∨
    ∃ a xs vs, v = .ref a ∧ H a = some (.lst vs) ∧ Rels X.K m H xs vs ∧ Gd X.K (Rel X.K) m H (MP.newL imm (f xs) h) Q Z := by
  cases r with
  | tup h1 r => exact .inl ⟨_, _, _, rfl, rfl, h1, r, g⟩
  | lst h1 n nb r => exact .inr ⟨_, _, _, rfl, h1, r, g⟩
  | ref h1 =>
    simp only [MP.remade] at g
    split at g
    · rename_i xs e1
      obtain ⟨a, vs, e2, e3, r⟩ := hr.lst e1
      rw [h1] at e2; cases e2
      exact .inr ⟨_, _, _, rfl, e3, r, g⟩
    · exact g.elim
  | _ => exact g.elim
theorem opS_sound {imm : Bool} {d : MP.D} {v : V} {l u : Option Int} (hr : HR X.K m h H) (r : Rel X.K m H d v)
    (g : Gd X.K (Rel X.K) m H (MP.remade imm (fun xs => MP.cut xs l u) d h) Q Z) : SlV X v l u H Q := by
  rcases remade_rel hr r g with ⟨a, xs, vs, rfl, rfl, h1, q, g⟩ | ⟨a, xs, vs, rfl, h1, q, g⟩
  · refine .of sl_tupA ⟨_, _, rfl, h1, fun e => ?_, fun _ p hp => new_tup g hr (q.cut l u) p hp⟩
    refine g.here hr (.tup h1 ?_)
    have e2 : cutV vs l u = vs := by unfold cutV; rw [e.1, e.2]; simp
    have q2 := q.cut l u
    rw [e2] at q2
    exact q2
  · exact .of sl_list ⟨_, _, rfl, .of h1, (new_lst g hr (q.cut l u)).2⟩
/-- x[::-1] of a list or a tuple -/
theorem pe_rev {te : TE} {e : Expr} {k : Nat} {p1 p2 p3 pos : Pos} (he : PE X e te) : PE X (.Subscript e (.Slice none none (some (.UnaryOp .USub (.Constant (.int 1) k p1) p2)) p3) pos)
    (fun σ H Q => te σ H fun x H1 => (∃ a xs, x = .ref a ∧ SqL X.K H1 a xs ∧ ∀ p, H1 p = none → Q (.ref p) (upd H1 p (.lst xs.reverse))) ∨ ∃ a xs, x = .ref a ∧ SqT X.K H1 a xs ∧ ∀ p, H1 p = none → Q (.ref p) (upd H1 p (.tup xs.reverse))) := by
  refine ⟨fun pins s σ H Q I h => ?_⟩
  refine Subscript_ (thn (he.run pins s σ H _ I h) fun v s1 ⟨x, H1, I1, r1, q1⟩ => ?_)
  have hst : PO X (some (.UnaryOp .USub (.Constant (.int 1) k p1) p2)) (tPart (tUn (rU fun i => .int (-i)) (tC (.int 1)))) := po_some (pe_un un_neg pe_int)
  refine wpAny_Slice (thn (po_none.run pins s1 σ H1 (fun o H2 => o = none ∧ H2 = H1) I1 ⟨rfl, rfl⟩) fun vl s2 ⟨l, H2, I2, pl, el, e2⟩ => ?_)
  subst el e2
  refine thn (po_none.run pins s2 σ H2 (fun o H3 => o = none ∧ H3 = H2) I2 ⟨rfl, rfl⟩) fun vu s3 ⟨u, H3, I3, pu, eu, e3⟩ => ?_
  subst eu e3
  refine thn (hst.run pins s3 σ H3 (fun o H4 => o = some (-1) ∧ H4 = H3) I3 ⟨1, rfl, -1, rfl, rfl, rfl⟩) fun vs s4 ⟨o, H4, I4, ps, eo, e4⟩ => ?_
  subst eo e4
  have I5 : Inv X pins σ H4 { s4 with heap := s4.heap.push { cls := .type "slice", data := .fields #[vl, vu, vs] } } := I4.kept (t' := s4.toks) fun b ob q => Heap.get?_push_of_some _ q
  rcases q1 with ⟨a, xs, ex, hx, q⟩ | ⟨a, xs, ex, hx, q⟩
  · subst ex
    cases r1
    obtain ⟨its, r, ht, hz⟩ := I5.list hx
    have hlen := r.length
    show wpAny (model X.prog X.w) X.A (subscriptTail e (.Slice none none (some (.UnaryOp .USub (.Constant (.int 1) k p1) p2)) p3) (.ref a) (.ref s4.heap.objs.size)) (EP X pins σ Q) X.xe { s4 with heap := s4.heap.push { cls := .type "slice", data := .fields #[vl, vu, vs] } }
    refine tail_any (ops := [.ref a, .ref s4.heap.objs.size]) ht.isList.typeIs (PySem.slot_list_getitem.lookup) ?_ (by with_unfolding_all rfl)
    refine wpAny_getItem_list_slice ht.isList (Heap.IsSliceOf.new _ vl vu vs) pl pu ps (by decide) ?_ (by rw [List.size_toArray]; omega)
    rw [PySem.W.krv_pick]
    refine ⟨.ref _, _, I5.laid (t' := s4.toks) (o := .lst xs.reverse) (fun b ob q => Heap.get?_push_of_some _ q) (Nat.le_refl _) ?_, rfl, q _ (I5.hok.fresh (Nat.le_refl _))⟩
    exact ⟨by rw [List.length_reverse]; exact hz, _, 0, r.reverse, Heap.get?_push_size _ rfl⟩
  · subst ex
    cases r1
    obtain ⟨its, r, ht, hz⟩ := I5.tuple hx
    have hlen := r.length
    have pl' : vl = .none := by cases pl; rfl
    have pu' : vu = .none := by cases pu; rfl
    subst pl' pu'
    show wpAny (model X.prog X.w) X.A (subscriptTail e (.Slice none none (some (.UnaryOp .USub (.Constant (.int 1) k p1) p2)) p3) (.ref a) (.ref s4.heap.objs.size)) (EP X pins σ Q) X.xe { s4 with heap := s4.heap.push { cls := .type "slice", data := .fields #[.none, .none, vs] } }
    refine tail_any (ops := [.ref a, .ref s4.heap.objs.size]) ht.typeIs (PyProof.Rows.slot_tuple_getitem.lookup) ?_ (by with_unfolding_all rfl)
    refine getItem_tuple_rev ht (Heap.IsSliceOf.new _ .none .none vs) ps ?_ (by rw [List.size_toArray]; omega)
    refine ⟨.ref _, _, I5.laid (t' := s4.toks) (o := .tup xs.reverse) (fun b ob q => Heap.get?_push_of_some _ q) (Nat.le_refl _) ?_, rfl, q _ (I5.hok.fresh (Nat.le_refl _))⟩
    exact ⟨by rw [List.length_reverse]; exact hz, _, r.reverse, IsTup.new _ _⟩
end
end MPS
namespace MPS
open PySem PySem.Spec PyProof.Rows L2 PySem.W
/-! ### built-ins by values -/
def CallV (X : Cx) (f : Value) : List V → Hp → VK → Prop := fun xs H Q => ∀ (pins : List (Addr × Obj)) (s : Shared) (σ : L2.St) (us : List Value), Inv X pins σ H s → Vals xs us → wpAny (model X.prog X.w) X.A (call f us) (EP X pins σ Q) X.xe s
theorem callV (X : Cx) (f : Value) : CallR X f (CallV X f) := fun pins s σ H xs us Q I r h => h pins s σ us I r
theorem CallV.of {X : Cx} {f : Value} {r : List V → Hp → VK → Prop} (ho : CallR X f r) {xs : List V} {H : Hp} {Q : VK} (h : r xs H Q) : CallV X f xs H Q := fun pins s σ us I rr => ho pins s σ H xs us Q I rr h
theorem insI_perm (x : Int) : ∀ ys : List Int, (MP.insI x ys).Perm (x :: ys)
  | [] => List.Perm.refl _
  | y :: ys => by
    unfold MP.insI
    split
    · exact List.Perm.refl _
    · exact ((insI_perm x ys).cons y).trans (List.Perm.swap x y ys)
theorem sortI_perm : ∀ xs : List Int, (MP.sortI xs).Perm xs
  | [] => List.Perm.refl _
  | x :: xs => (insI_perm x _).trans ((sortI_perm xs).cons x)
theorem insI_sorted (x : Int) : ∀ ys : List Int, ys.Pairwise (· ≤ ·) → (MP.insI x ys).Pairwise (· ≤ ·)
  | [], _ => by simp [MP.insI]
  | y :: ys, h => by
    unfold MP.insI
    rw [List.pairwise_cons] at h
    split
    · rename_i hxy
      rw [List.pairwise_cons]
      refine ⟨fun z hz => ?_, List.pairwise_cons.mpr h⟩
      rcases List.mem_cons.mp hz with rfl | hz
      · exact hxy
      · exact Int.le_trans hxy (h.1 z hz)
    · rename_i hxy
      rw [List.pairwise_cons]
      refine ⟨fun z hz => ?_, insI_sorted x ys h.2⟩
      rcases List.mem_cons.mp ((insI_perm x ys).mem_iff.mp hz) with rfl | hz
      · omega
      · exact h.1 z hz
theorem sortI_sorted : ∀ xs : List Int, (MP.sortI xs).Pairwise (· ≤ ·)
  | [] => by simp [MP.sortI]
  | x :: xs => insI_sorted x _ (sortI_sorted xs)
theorem sorted_unique : ∀ {a b : List Int}, a.Perm b → a.Pairwise (· ≤ ·) → b.Pairwise (· ≤ ·) → a = b := fun {a b} h1 h2 h3 => h1.eq_of_pairwise (fun x y _ _ h4 h5 => Int.le_antisymm h4 h5) h2 h3
section
variable {X : Cx} {m : Pl} {H : Hp} {h : MP.Heap} {Q : VK} {Z : Nat → Hp → Prop}
theorem alike_ints (n : Int) (ns : List Int) : AlikeAll ((PyData.int n) :: ns.map PyData.int) := by
  have e : ∀ x ∈ (PyData.int n) :: ns.map PyData.int, ∃ i, x = .int i := fun x hx => by
    rcases List.mem_cons.mp hx with rfl | hx
    · exact ⟨_, rfl⟩
    · obtain ⟨i, _, rfl⟩ := List.mem_map.mp hx
      exact ⟨i, rfl⟩
  refine ⟨fun x hx y hy => ?_, fun x hx => ?_⟩
  · obtain ⟨i, rfl⟩ := e x hx
    obtain ⟨j, rfl⟩ := e y hy
    rfl
  · obtain ⟨i, rfl⟩ := e x hx
    exact fun z => nomatch z
theorem depth_ints : ∀ (ns : List Int), PyData.depthAll (ns.map PyData.int) = 0
  | [] => rfl
  | n :: ns => by
    show max 0 (PyData.depthAll (ns.map PyData.int)) = 0
    rw [depth_ints ns]; rfl
theorem reads_ints {hp : Heap} : ∀ {us : List Value} {ns : List Int}, IntsAre us ns → ∃ as, ReadsAll hp us (ns.map PyData.int) as := fun {us ns} r => by
  have v := vals_of_ints r
  clear r
  induction ns generalizing us with
  | nil => cases v; exact ⟨_, .nil⟩
  | cons n ns ih =>
    cases v with
    | cons r1 r2 =>
      obtain ⟨t, rfl⟩ := r1
      obtain ⟨as, q⟩ := ih r2
      exact ⟨_, .cons (.int _ _) q⟩
theorem call_maxI (hc : X.calm = true) (hu : X.A.units + 65 < cLine) : CallR X (.builtin "max") (fun vs H Q => ∃ (a : Addr) (n : Int) (ns : List Int), vs = [V.ref a] ∧ (SqL X.K H a ((n :: ns).map V.int) ∨ SqT X.K H a ((n :: ns).map V.int)) ∧ Q (.int (ns.foldl max n)) H) := by
  intro pins s σ H vs us Q I r h
  obtain ⟨a, n, ns, rfl, hs, q⟩ := h
  rw [Vals.ref1 r]
  have fin : ∀ (i : Nat) (v : Value) (h' : Heap) (tk : Nat) (bs : List Addr), Reads h' v (maxD (.int n) (ns.map .int)) bs → (∀ b o, s.heap.get? b = some o → h'.get? b = some o) → EP X pins σ Q v { s with heap := h', toks := tk } := fun i v h' tk bs rd hk => by
    rw [maxD_ints] at rd
    cases rd
    exact ⟨.int _, H, I.kept (t' := tk) hk, ⟨_, rfl⟩, q⟩
  rcases hs with hs | hs
  · obtain ⟨its, rv, hl, hz⟩ := I.list hs
    obtain ⟨as, rd⟩ := reads_ints (hp := s.heap) (Vals.ints rv)
    exact max_list_data (I.ok.hd hc) hl.isList (as := as) rd (alike_ints n ns) (by rw [show (PyData.int n :: ns.map PyData.int) = (n :: ns).map PyData.int from rfl, depth_ints]; omega) fun i v h' tk bs _ rd hk => fin i v h' tk bs rd hk
  · obtain ⟨its, rv, hl, hz⟩ := I.tuple hs
    obtain ⟨as, rd⟩ := reads_ints (hp := s.heap) (Vals.ints rv)
    exact max_tuple_data (I.ok.hd hc) hl (as := as) rd (alike_ints n ns) (by rw [show (PyData.int n :: ns.map PyData.int) = (n :: ns).map PyData.int from rfl, depth_ints]; omega) fun i v h' tk bs _ rd hk => fin i v h' tk bs rd hk
theorem call_minI (hc : X.calm = true) (hu : X.A.units + 65 < cLine) : CallR X (.builtin "min") (fun vs H Q => ∃ (a : Addr) (n : Int) (ns : List Int), vs = [V.ref a] ∧ (SqL X.K H a ((n :: ns).map V.int) ∨ SqT X.K H a ((n :: ns).map V.int)) ∧ Q (.int (ns.foldl min n)) H) := by
  intro pins s σ H vs us Q I r h
  obtain ⟨a, n, ns, rfl, hs, q⟩ := h
  rw [Vals.ref1 r]
  have fin : ∀ (i : Nat) (v : Value) (h' : Heap) (tk : Nat) (bs : List Addr), Reads h' v (minD (.int n) (ns.map .int)) bs → (∀ b o, s.heap.get? b = some o → h'.get? b = some o) → EP X pins σ Q v { s with heap := h', toks := tk } := fun i v h' tk bs rd hk => by
    rw [minD_ints] at rd
    cases rd
    exact ⟨.int _, H, I.kept (t' := tk) hk, ⟨_, rfl⟩, q⟩
  rcases hs with hs | hs
  · obtain ⟨its, rv, hl, hz⟩ := I.list hs
    obtain ⟨as, rd⟩ := reads_ints (hp := s.heap) (Vals.ints rv)
    exact min_list_data (I.ok.hd hc) hl.isList (as := as) rd (alike_ints n ns) (by rw [show (PyData.int n :: ns.map PyData.int) = (n :: ns).map PyData.int from rfl, depth_ints]; omega) fun i v h' tk bs _ rd hk => fin i v h' tk bs rd hk
  · obtain ⟨its, rv, hl, hz⟩ := I.tuple hs
    obtain ⟨as, rd⟩ := reads_ints (hp := s.heap) (Vals.ints rv)
    exact min_tuple_data (I.ok.hd hc) hl (as := as) rd (alike_ints n ns) (by rw [show (PyData.int n :: ns.map PyData.int) = (n :: ns).map PyData.int from rfl, depth_ints]; omega) fun i v h' tk bs _ rd hk => fin i v h' tk bs rd hk
end
end MPS
namespace MPS
open PySem PySem.Spec PyProof.Rows L2 PySem.W
/-- the built-ins that are called by a name with values: the name, the value -/
def plainF : MP.Blt → Option (Str × Value)
  | .len => some ("len", .builtin "len")
  | .abs => some ("abs", .builtin "abs")
  | .int => some ("int", .type "int")
  | .tuple => some ("tuple", .type "tuple")
  | .list _ => some ("list", .type "list")
  | .min2 => some ("min", .builtin "min")
  | .max2 => some ("max", .builtin "max")
  | .minL => some ("min", .builtin "min")
  | .maxL => some ("max", .builtin "max")
  | .sumL => some ("sum", .builtin "sum")
  | .sorted _ => some ("sorted", .builtin "sorted")
  | .all => some ("all", .builtin "all")
  | .any => some ("any", .builtin "any")
  | _ => none
section
variable {X : Cx} {m : Pl} {H : Hp} {h : MP.Heap} {Q : VK} {Z : Nat → Hp → Prop}
theorem items_str {d : MP.D} {xs : List MP.D} (e : MP.items h d = some xs) : ∀ s, d ≠ .str s := fun s z => by subst z; simp [MP.items] at e
theorem opF_sound {f : MP.Blt} {x : Str} {fv : Value} {ds : List MP.D} {vs : List V} (hf : plainF f = some (x, fv)) (hc : X.calm = true) (hu : X.A.units + 65 < cLine) (hr : HR X.K m h H) (r : Rels X.K m H ds vs)
    (g : Gd X.K (Rel X.K) m H (MP.opF f ds h) Q Z) : CallV X fv vs H Q := by
  unfold MP.opF at g
  split at g
  -- len of a text
  · cases hf
    split at g
    · rename_i hz
      cases r with
      | cons r1 r2 =>
      cases r2
      cases r1 with
      | str x =>
      exact .of call_len ⟨_, _, rfl, ⟨hz, rfl⟩, g.here hr (.int _)⟩
    · exact g.elim
  -- len
  · cases hf
    obtain ⟨ys, e, g⟩ := g.optBind
    cases r with
    | cons r1 r2 =>
    cases r2
    obtain ⟨a, us, rfl, hs, q⟩ := items_rel hr r1 e
    refine .of call_len_seq ⟨_, _, rfl, hs, ?_⟩
    have := g.here hr (.int _)
    rw [q.length] at this
    exact this
  -- abs
  · cases hf
    cases r with
    | cons r1 r2 =>
    cases r2
    cases r1
    exact .of call_abs ⟨_, rfl, g.here hr (.int _)⟩
  -- int
  · cases hf
    cases r with
    | cons r1 r2 =>
    cases r2
    cases r1
    exact .of call_int1 (.inl ⟨_, rfl, g.here hr (.int _)⟩)
  · cases hf
    cases r with
    | cons r1 r2 =>
    cases r2
    cases r1
    exact .of call_int1 (.inr ⟨_, rfl, g.here hr (.int _)⟩)
  -- tuple
  · cases hf
    cases r with
    | cons r1 r2 =>
    cases r2
    cases r1 with
    | tup h1 q =>
    exact .of call_tuple_of ⟨_, _, rfl, .inr ⟨h1, g.here hr (.tup h1 q)⟩⟩
  · cases hf
    obtain ⟨ys, e, g⟩ := g.optBind
    cases r with
    | cons r1 r2 =>
    cases r2
    obtain ⟨a, us, rfl, hs, q⟩ := items_rel hr r1 e
    rcases hs with hs | hs
    · exact .of call_tuple_of ⟨_, _, rfl, .inl ⟨hs, fun p hp => new_tup g hr q p hp⟩⟩
    · exact .of call_tuple_of ⟨_, _, rfl, .inr ⟨hs, g.here hr (.tup hs q)⟩⟩
  -- list
  · cases hf
    obtain ⟨ys, e, g⟩ := g.optBind
    cases r with
    | cons r1 r2 =>
    cases r2
    obtain ⟨a, us, rfl, hs, q⟩ := items_rel hr r1 e
    exact .of call_list_of ⟨_, _, rfl, hs, (new_lst g hr q).2⟩
  · cases hf
  · cases hf
  -- min, max of two
  · cases hf
    cases r with
    | cons r1 r2 =>
    cases r2 with
    | cons r2 r3 =>
    cases r3
    cases r1; cases r2
    exact .of (call_min2 hc) ⟨_, _, rfl, g.here hr (.int _)⟩
  · cases hf
    cases r with
    | cons r1 r2 =>
    cases r2 with
    | cons r2 r3 =>
    cases r3
    cases r1; cases r2
    exact .of (call_max2 hc) ⟨_, _, rfl, g.here hr (.int _)⟩
  -- min, max of many
  · cases hf
    obtain ⟨ns, e, g⟩ := g.optBind
    simp only [Option.bind_eq_some_iff] at e
    obtain ⟨ys, e1, e2⟩ := e
    cases r with
    | cons r1 r2 =>
    cases r2
    obtain ⟨a, us, rfl, hs, q⟩ := items_rel hr r1 e1
    have := q.intsOf e2; subst this
    split at g
    · exact g.elim
    · exact .of (call_minI hc hu) ⟨_, _, _, rfl, hs, g.here hr (.int _)⟩
  · cases hf
    obtain ⟨ns, e, g⟩ := g.optBind
    simp only [Option.bind_eq_some_iff] at e
    obtain ⟨ys, e1, e2⟩ := e
    cases r with
    | cons r1 r2 =>
    cases r2
    obtain ⟨a, us, rfl, hs, q⟩ := items_rel hr r1 e1
    have := q.intsOf e2; subst this
    split at g
    · exact g.elim
    · exact .of (call_maxI hc hu) ⟨_, _, _, rfl, hs, g.here hr (.int _)⟩
  -- sum
  · cases hf
    obtain ⟨ns, e, g⟩ := g.optBind
    simp only [Option.bind_eq_some_iff] at e
    obtain ⟨ys, e1, e2⟩ := e
    cases r with
    | cons r1 r2 =>
    cases r2
    obtain ⟨a, us, rfl, hs, q⟩ := rlist_rel hr r1 e1
    have := q.intsOf e2; subst this
    exact .of (cr_sum hc) ⟨_, _, rfl, .of hs, g.here hr (.int _)⟩
  -- sorted
  · cases hf
    obtain ⟨ns, e, g⟩ := g.optBind
    simp only [Option.bind_eq_some_iff] at e
    obtain ⟨ys, e1, e2⟩ := e
    cases r with
    | cons r1 r2 =>
    cases r2
    obtain ⟨a, us, rfl, hs, q⟩ := rlist_rel hr r1 e1
    have := q.intsOf e2; subst this
    refine .of cr_sortedI ⟨_, _, rfl, .of hs, fun ns' p hp hw hn => ?_⟩
    have e3 : ns' = MP.sortI ns := sorted_unique (hp.trans (sortI_perm ns).symm) hw (sortI_sorted ns)
    subst e3
    exact (new_lst g hr (rels_ints _)).2 p hn
  -- all, any
  · cases hf
    obtain ⟨bs, e, g⟩ := g.optBind
    simp only [Option.bind_eq_some_iff] at e
    obtain ⟨ys, e1, e2⟩ := e
    cases r with
    | cons r1 r2 =>
    cases r2
    obtain ⟨a, us, rfl, hs, q⟩ := rlist_rel hr r1 e1
    have := q.bools e2; subst this
    exact .of (cr_all hc) ⟨_, _, rfl, .of hs, g.here hr (.bl _)⟩
  · cases hf
    obtain ⟨bs, e, g⟩ := g.optBind
    simp only [Option.bind_eq_some_iff] at e
    obtain ⟨ys, e1, e2⟩ := e
    cases r with
    | cons r1 r2 =>
    cases r2
    obtain ⟨a, us, rfl, hs, q⟩ := rlist_rel hr r1 e1
    have := q.bools e2; subst this
    exact .of (cr_any hc) ⟨_, _, rfl, .of hs, g.here hr (.bl _)⟩
  · cases hf
  · exact g.elim

/-! ### isinstance -/
def tyN : MP.Ty → String
  | .int => "int" | .bool => "bool" | .tuple => "tuple" | .list => "list" | .str => "str" | .dict => "dict"
theorem kitB_all : ∀ (a b : MP.Ty), L2.kitB (tyN a) (tyN b) = some (decide (a = b ∨ (a = .bool ∧ b = .int))) := by
  intro a b
  cases a <;> cases b <;> decide +kernel
theorem kitB_non : ∀ (b : MP.Ty), L2.kitB "NoneType" (tyN b) = some false := by
  intro b
  cases b <;> decide +kernel
theorem tyX_of {d : MP.D} {v : V} (r : Rel X.K m H d v) {t : MP.Ty} {b : Bool} (e : MP.isTy t d = some b) : ∃ tv, TyX X.K H v tv ∧ PySem.W.kitOne X.K tv (.type (tyN t)) = some b := by
  cases r with
  | non => exact ⟨_, .base .non, kit_ty (by rw [kitB_non]; cases t <;> exact e)⟩
  | bl x => exact ⟨_, .base (.bl x), kit_ty (by rw [show ("bool" : String) = tyN .bool from rfl, kitB_all]; cases t <;> exact e)⟩
  | int x => exact ⟨_, .base (.int x), kit_ty (by rw [show ("int" : String) = tyN .int from rfl, kitB_all]; cases t <;> exact e)⟩
  | str x => exact ⟨_, .base (.str x), kit_ty (by rw [show ("str" : String) = tyN .str from rfl, kitB_all]; cases t <;> exact e)⟩
  | tup h1 q =>
    have k : PySem.W.kitOne X.K (.type "tuple") (.type (tyN t)) = some b := kit_ty (by rw [show ("tuple" : String) = tyN .tuple from rfl, kitB_all]; cases t <;> exact e)
    rcases h1 with (h1 | ⟨o, h1⟩) | ⟨o, its, n, h1, h2, _⟩
    · exact ⟨_, .base (.tup h1), k⟩
    · exact ⟨_, .fTuple h1, k⟩
    · exact ⟨_, .kTuple h1 h2, k⟩
  | lst h1 n _ q => exact ⟨_, .base (.lst h1), kit_ty (by rw [show ("list" : String) = tyN .list from rfl, kitB_all]; cases t <;> exact e)⟩
  | frz h1 q => simp [MP.isTy] at e
  | ref h1 => simp [MP.isTy] at e
theorem isinst_sound {t : MP.Ty} {d : MP.D} {v : V} (hr : HR X.K m h H) (r : Rel X.K m H d v) (g : Gd X.K (Rel X.K) m H (MP.opF (.isinst t) [d] h) Q Z) : CallV X (.builtin "isinstance") [v, .ty (tyN t)] H Q := by
  have main : ∀ b, MP.isTy t d = some b → Q (.bl b) H → CallV X (.builtin "isinstance") [v, .ty (tyN t)] H Q := fun b e q => by
    obtain ⟨tv, h1, h2⟩ := tyX_of r e
    exact .of call_isi ⟨_, _, tv, _, b, rfl, .ty _, h1, h2, q⟩
  cases d with
  | ref n =>
    simp only [MP.opF] at g
    split at g
    · rename_i xs e1
      cases r with
      | ref h1 =>
      obtain ⟨a, vs, e2, e3, r⟩ := hr.lst e1
      rw [h1] at e2; cases e2
      refine .of call_isi ⟨_, _, .type "list", _, decide (t = .list), rfl, .ty _, .base (.lst e3), kit_ty (by rw [show ("list" : String) = tyN .list from rfl, kitB_all]; cases t <;> rfl), g.here hr (.bl _)⟩
    · exact g.elim
  | _ =>
    simp only [MP.opF] at g
    obtain ⟨b, e, g⟩ := g.optBind
    exact main b e (g.here hr (.bl _))
end
end MPS
namespace MPS
open PySem PySem.Spec PyProof.Rows L2 PySem.W
def mtN : MP.Mth → Str
  | .append => "append" | .extend => "extend" | .pop => "pop" | .popAt => "pop" | .insert => "insert" | .index => "index" | .remove => "remove" | .count => "count"
def mtI : MP.Mth → String
  | .append => "list.append" | .extend => "list.extend" | .pop => "list.pop" | .popAt => "list.pop" | .insert => "list.insert" | .index => "list.index" | .remove => "list.remove" | .count => "list.count"
theorem mt_slot : ∀ f : MP.Mth, Slot "list" (mtN f) (mtI f)
  | .append => PySem.F.slot_list_append
  | .extend => PySem.F.slot_list_extend
  | .pop => PySem.F.slot_list_pop
  | .popAt => PySem.F.slot_list_pop
  | .insert => PySem.F.slot_list_insert
  | .index => PySem.F.slot_list_index
  | .remove => PySem.F.slot_list_remove
  | .count => PySem.F.slot_list_count
theorem mt_type : ∀ f : MP.Mth, typeOf (.builtin (mtI f)) = pure (.type "method_descriptor")
  | .append => PySem.F.type_list_append
  | .extend => PySem.F.type_list_extend
  | .pop => PySem.F.type_list_pop
  | .popAt => PySem.F.type_list_pop
  | .insert => PySem.F.type_list_insert
  | .index => PySem.F.type_list_index
  | .remove => PySem.F.type_list_remove
  | .count => PySem.F.type_list_count
def MtV (X : Cx) (id : String) : V → List V → Hp → VK → Prop := fun x xs H Q => ∀ (pins : List (Addr × Obj)) (s : Shared) (σ : L2.St) (v : Value) (us : List Value), Inv X pins σ H s → RelV x v → Vals xs us →
  wpAny (model X.prog X.w) X.A (call (.builtin id) (v :: us)) (EP X pins σ Q) X.xe s
theorem mtV (X : Cx) (id : String) : MtR X id (MtV X id) := fun pins s σ H x xs v us Q I rx r h => h pins s σ v us I rx r
theorem MtV.of {X : Cx} {id : String} {r : V → List V → Hp → VK → Prop} (ho : MtR X id r) {x : V} {xs : List V} {H : Hp} {Q : VK} (h : r x xs H Q) : MtV X id x xs H Q := fun pins s σ v us I rx rr => ho pins s σ H x xs v us Q I rx rr h
section
variable {X : Cx} {m : Pl} {H : Hp} {h : MP.Heap} {Q : VK} {Z : Nat → Hp → Prop}
/-- a list of the small heap is rewritten -/
theorem HR.wlst {K : PySem.W.Frag} (hr : HR K m h H) {n : Nat} {a : Addr} {ys : List MP.D} {us : List V} (hn : m.at_[n]? = some a) (r : Rels K m H ys us) : Kp m H m (upd H a (.lst us)) ∧ HR K m (MP.setO h n ys) (upd H a (.lst us)) := by
  have k : Kp m H m (upd H a (.lst us)) := .write (List.mem_of_getElem? hn)
  exact ⟨k, hr.write hn ⟨us, upd_same, r.keep hr.mut k⟩⟩
theorem Gd.wrote {d : MP.D} {v : V} {n : Nat} {a : Addr} {ys : List MP.D} {us : List V} (g : Gd X.K (Rel X.K) m H (.ok d (MP.setO h n ys)) Q Z) (hr : HR X.K m h H) (hn : m.at_[n]? = some a) (r : Rels X.K m H ys us) (rd : Rel X.K m H d v) : Q v (upd H a (.lst us)) := by
  obtain ⟨k, hr'⟩ := hr.wlst hn r
  exact g v m _ k hr' (rd.keep hr.mut k)
theorem opM_sound {f : MP.Mth} {d : MP.D} {v : V} {ds : List MP.D} {vs : List V} (hr : HR X.K m h H) (r : Rel X.K m H d v) (rs : Rels X.K m H ds vs) (g : Gd X.K (Rel X.K) m H (MP.opM f d ds h) Q Z) : tyV X.K "list" v H ∧ MtV X (mtI f) v vs H Q := by
  unfold MP.opM at g
  split at g
  · split at g
    · rename_i n _ xs e1
      cases r with
      | ref h1 =>
      obtain ⟨a, us, e2, e3, q⟩ := hr.lst e1
      rw [h1] at e2; cases e2
      refine ⟨.inl ⟨rfl, _, .of e3⟩, ?_⟩
      split at g
      · split at g
        · rename_i hz
          cases rs with
          | cons r1 r2 =>
          cases r2
          exact .of mt_append ⟨_, _, _, rfl, rfl, e3, by rw [← q.length]; exact hz, g.wrote hr h1 (q.append (.cons r1 .nil)) .non⟩
        · exact g.elim
      · split at g
        · rename_i ys e4
          split at g
          · rename_i hz
            cases rs with
            | cons r1 r2 =>
            cases r2
            obtain ⟨b, ws, rfl, e5, q2⟩ := rlist_rel hr r1 e4
            exact .of mt_extend ⟨_, _, _, _, rfl, rfl, e3, e5, by rw [← q.length, ← q2.length]; exact hz, g.wrote hr h1 (q.append q2) .non⟩
          · exact g.elim
        · exact g.elim
      · split at g
        · rename_i y e4
          cases rs
          obtain ⟨w, e5, r5⟩ := q.get e4
          refine .of mt_pop ⟨_, _, w, rfl, rfl, e3, by rw [← q.length]; exact e5, g.wrote hr h1 q.dropLast r5⟩
        · exact g.elim
      · split at g
        · rename_i hb
          split at g
          · rename_i k e4
            split at g
            · rename_i y e5
              cases rs with
              | cons r1 r2 =>
              cases r2
              cases r1
              obtain ⟨w, e6, r6⟩ := q.get e5
              simp only [MP.big62, Bool.and_eq_true, decide_eq_true_eq] at hb
              have e7 := (ixN_seq (show L2.ixN xs.length _ = some k from e4)).1
              rw [q.length] at e7
              exact .of mt_popAt ⟨_, _, _, k, w, rfl, rfl, e3, by omega, by omega, e7, e6, g.wrote hr h1 (q.erase k) r6⟩
            · exact g.elim
          · exact g.elim
        · exact g.elim
      · split at g
        · rename_i hb
          cases rs with
          | cons r1 r2 =>
          cases r2 with
          | cons r2 r3 =>
          cases r3
          cases r1
          simp only [MP.big62, Bool.and_eq_true, decide_eq_true_eq] at hb
          refine .of mt_insert ⟨_, _, _, _, rfl, rfl, e3, by rw [← q.length]; exact hb.2, by omega, by omega, g.wrote hr h1 ?_ .non⟩
          exact ((q.take _).append (.cons r2 .nil)).append (q.drop _)
        · exact g.elim
      · exact g.elim
    · exact g.elim
  · exact g.elim
/-! ### a store into a list -/
def SetV (X : Cx) : TSet := fun o i v H Q => ∀ (pins : List (Addr × Obj)) (s : Shared) (σ : L2.St) (ov iv u : Value), Inv X pins σ H s → RelV o ov → RelV i iv → RelV v u → wpAny (model X.prog X.w) X.A (setItem ov iv u) (fun _ s' => ∃ H', Inv X pins σ H' s' ∧ Q H') X.xe s
theorem setV (X : Cx) : PSet X (SetV X) := fun pins s σ H o i v ov iv u Q I ro ri rv h => h pins s σ ov iv u I ro ri rv
theorem SetV.of {X : Cx} {t : TSet} (ho : PSet X t) {o i v : V} {H : Hp} {Q : Hp → Prop} (h : t o i v H Q) : SetV X o i v H Q := fun pins s σ ov iv u I ro ri rv => ho pins s σ H o i v ov iv u Q I ro ri rv h
theorem setL_sound {o i d : MP.D} {ov iv v : V} {Q : Unit → Hp → Prop} (hr : HR X.K m h H) (r1 : Rel X.K m H o ov) (r2 : Rel X.K m H i iv) (r3 : Rel X.K m H d v)
    (g : Gd X.K (fun _ _ (_ : Unit) (_ : Unit) => True) m H (MP.setL o i d h) Q Z) : SetV X ov iv v H (Q ()) := by
  unfold MP.setL at g
  split at g
  · split at g
    · rename_i xs e1
      split at g
      · rename_i j e4
        cases r2
        cases r1 with
        | ref h1 =>
        obtain ⟨a, us, e2, e3, q⟩ := hr.lst e1
        rw [h1] at e2; cases e2
        refine .of set_list ⟨_, _, _, j, rfl, rfl, e3, by rw [← q.length]; exact e4, ?_⟩
        obtain ⟨k, hr'⟩ := hr.wlst h1 (q.set r3 j)
        exact g () m _ k hr' trivial
      · exact g.elim
    · exact g.elim
  · exact g.elim
end
end MPS
namespace MPS
open PySem PySem.Spec PyProof.Rows L2 PySem.W
/-! ### which text a term stands for -/
/-- the names of a text: its defs, its constants, its exceptions, the built-ins that it calls -/
structure Tb where
  fn : List Str
  gn : List Str
  cn : List Str
  bl : List Str
def visB (sc : Scope) (x : Str) : Bool := match sc.names.lookup x with
  | some .local => true
  | some .cell => true
  | some .free => true
  | _ => false
def locB (sc : Scope) (x : Str) : Bool := match sc.names.lookup x with
  | some .local => true
  | some .cell => true
  | _ => false
def glB (sc : Scope) (x : Str) : Bool := decide (sc.names.lookup x = some .globalImplicit)
def nmB (x : Str) : Bool := !(x == ("__debug__" : Str)) && !(x == ("__classdict__" : Str)) && decide (x ≠ ("__name__" : Str))
/-- which names a comprehension's block keeps in cells -/
abbrev cfb (scope : Scope) : Str → Bool := fun x => scope.names.lookup x == some .cell
section
variable (tb : Tb) (N : List Str)
mutual
inductive TrT : Scope → (Str → Bool) → MP.E → Expr → Prop
  | var {sc fb i x pos} (h : N[i]? = some x) (l : locB sc x = true) (f : fb x = true ∨ sc.names.lookup x = some .local) : TrT sc fb (.var i) (.Name x pos)
  | tup {sc fb es pes k pos} (h : TrTs sc fb es pes) : TrT sc fb (.tup es) (.Tuple pes k pos)
inductive TrTs : Scope → (Str → Bool) → MP.E → List Expr → Prop
  | nil {sc fb} : TrTs sc fb .nil []
  | cons {sc fb a r pa pr} (h : TrT sc fb a pa) (q : TrTs sc fb r pr) : TrTs sc fb (.cons a r) (pa :: pr)
end
mutual
inductive TrE : Scope → (Str → Bool) → MP.E → Expr → Prop
  | var {sc fb i x pos} (h : N[i]? = some x) (v : visB sc x = true) (n : nmB x = true) : TrE sc fb (.var i) (.Name x pos)
  | non {sc fb k pos} : TrE sc fb (.con .non) (.Constant .none k pos)
  | bl {sc fb b k pos} : TrE sc fb (.con (.bl b)) (.Constant (.bool b) k pos)
  | int {sc fb i k pos} : TrE sc fb (.con (.int i)) (.Constant (.int i) k pos)
  | str {sc fb} {x : Str} {k pos} : TrE sc fb (.con (.str x.cps.toList)) (.Constant (.str x) k pos)
  | glo {sc fb j x pos} (h : tb.gn[j]? = some x) (g : glB sc x = true) (n : nmB x = true) : TrE sc fb (.glo j) (.Name x pos)
  | tup {sc fb es pes k pos} (h : TrA sc fb es pes) (hz : pes.length ≤ 1000) : TrE sc fb (.tup es) (.Tuple pes k pos)
  | lst {sc fb imm es pes pos} (h : TrA sc fb es pes) : TrE sc fb (.lst imm es) (.List pes pos)
  | bin {sc fb o a b pa pb pos} (ha : TrE sc fb a pa) (hb : TrE sc fb b pb) : TrE sc fb (.bin o a b) (.BinOp pa (bop o) pb pos)
  | neg {sc fb a pa pos} (ha : TrE sc fb a pa) : TrE sc fb (.neg a) (.UnaryOp .USub pa pos)
  | cmp {sc fb o a b pa pb pos} (ha : TrE sc fb a pa) (hb : TrE sc fb b pb) : TrE sc fb (.cmp o a b) (.Compare pa [cop o] [pb] pos)
  | chn {sc fb o p a b c pa pb pc pos} (ha : TrE sc fb a pa) (hb : TrE sc fb b pb) (hc : TrE sc fb c pc) : TrE sc fb (.chn o p a b c) (.Compare pa [cop o, cop p] [pb, pc] pos)
  | and2 {sc fb a r pa pb ps pos} (ha : TrE sc fb a pa) (hr : TrE sc fb r (.BoolOp .And (pb :: ps) pos)) : TrE sc fb (.and2 a r) (.BoolOp .And (pa :: pb :: ps) pos)
  | or2 {sc fb a r pa pb ps pos} (ha : TrE sc fb a pa) (hr : TrE sc fb r (.BoolOp .Or (pb :: ps) pos)) : TrE sc fb (.or2 a r) (.BoolOp .Or (pa :: pb :: ps) pos)
  | one {sc fb a op pa pos} (ha : TrE sc fb a pa) : TrE sc fb (.one a) (.BoolOp op [pa] pos)
  | nt {sc fb a pa pos} (ha : TrE sc fb a pa) : TrE sc fb (.nt a) (.UnaryOp .Not pa pos)
  | ite {sc fb c a b pc pa pb pos} (hc : TrE sc fb c pc) (ha : TrE sc fb a pa) (hb : TrE sc fb b pb) : TrE sc fb (.ite c a b) (.IfExp pc pa pb pos)
  | idx {sc fb a b pa pb pos} (ha : TrE sc fb a pa) (hb : TrE sc fb b pb) : TrE sc fb (.idx a b) (.Subscript pa pb pos)
  | slc {sc fb imm a lo hi pa pl ph p2 pos} (ha : TrE sc fb a pa) (hl : TrO sc fb lo pl) (hh : TrO sc fb hi ph) : TrE sc fb (.slc imm a lo hi) (.Subscript pa (.Slice pl ph none p2) pos)
  | rev {sc fb imm a pa k p1 p2 p3 pos} (ha : TrE sc fb a pa) : TrE sc fb (.rev imm a) (.Subscript pa (.Slice none none (some (.UnaryOp .USub (.Constant (.int 1) k p1) p2)) p3) pos)
  | call {sc fb f x es pe pes p pos} (h : tb.fn[f]? = some x) (g : glB sc x = true) (n : nmB x = true) (ha : TrA sc fb es (pe :: pes)) : TrE sc fb (.call f es) (.Call (.Name x p) (pe :: pes) [] pos)
  | blt {sc fb f x fv es pe pes p pos} (h : plainF f = some (x, fv)) (m : x ∈ tb.bl) (g : glB sc x = true) (ha : TrA sc fb es (pe :: pes)) : TrE sc fb (.blt f es) (.Call (.Name x p) (pe :: pes) [] pos)
  | isi {sc fb t a pa p p2 pos} (m : ("isinstance" : Str) ∈ tb.bl) (g : glB sc "isinstance" = true) (m2 : Str.ofString (tyN t) ∈ tb.bl) (g2 : glB sc (Str.ofString (tyN t)) = true) (ha : TrE sc fb a pa) :
      TrE sc fb (.blt (.isinst t) (.cons a .nil)) (.Call (.Name "isinstance" p) [pa, .Name (Str.ofString (tyN t)) p2] [] pos)
  | lrg {sc fb imm es pes p p2 p3 pos} (m : ("list" : Str) ∈ tb.bl) (g : glB sc "list" = true) (m2 : ("range" : Str) ∈ tb.bl) (g2 : glB sc "range" = true) (ha : TrA sc fb es pes) (hl : pes.length = 1 ∨ pes.length = 2) :
      TrE sc fb (.blt (.listR imm) es) (.Call (.Name "list" p) [.Call (.Name "range" p2) pes [] p3] [] pos)
  | mth {sc fb f o es po pe pes apos pos} (ho : TrE sc fb o po) (ha : TrA sc fb es (pe :: pes)) (hl : (apos.endLine == pos.line) = true) (hn : decide ((pe :: pes).length < 30) = true) : TrE sc fb (.mth f o es) (.Call (.Attribute po (mtN f) apos) (pe :: pes) [] pos)
  | mth0 {sc fb f o po apos pos} (ho : TrE sc fb o po) (hl : (apos.endLine == pos.line) = true) : TrE sc fb (.mth f o .nil) (.Call (.Attribute po (mtN f) apos) [] [] pos)
  | lc {sc fb imm tg k ia c el ptg pit ifs pel scope own pos} (hi : TrI sc fb k ia ptg pit) (hb : blkC N sc scope own = true) (ho : own.map (·.2) = MP.tgI tg)
      (ht : TrT N (relS scope sc) (cfb scope) tg ptg) (hc : TrC (relS scope sc) (cfb scope) c ifs) (he : TrE (relS scope sc) (cfb scope) el pel) :
      TrE sc fb (.lc imm tg k ia c el) (.ListComp pel [⟨ptg, pit, ifs, 0⟩] scope pos)
  | lc2 {sc fb imm tg k ia c tg1 k1 ia1 c1 el ptg pit ifs ptg1 pit1 ifs1 pel scope own pos} (hi : TrI sc fb k ia ptg pit) (hb : blkC N sc scope own = true) (ho : own.map (·.2) = MP.tgI tg ++ MP.tgI tg1)
      (ht : TrT N (relS scope sc) (cfb scope) tg ptg) (hc : TrC (relS scope sc) (cfb scope) c ifs) (hi1 : TrI (relS scope sc) (cfb scope) k1 ia1 ptg1 pit1)
      (ht1 : TrT N (relS scope sc) (cfb scope) tg1 ptg1) (hc1 : TrC (relS scope sc) (cfb scope) c1 ifs1) (he : TrE (relS scope sc) (cfb scope) el pel) :
      TrE sc fb (.lc2 imm tg k ia c tg1 k1 ia1 c1 el) (.ListComp pel [⟨ptg, pit, ifs, 0⟩, ⟨ptg1, pit1, ifs1, 0⟩] scope pos)
inductive TrC : Scope → (Str → Bool) → MP.E → List Expr → Prop
  | none {sc fb} : TrC sc fb (.con (.bl true)) []
  | one {sc fb c pc} (h : TrE sc fb c pc) : TrC sc fb c [pc]
inductive TrA : Scope → (Str → Bool) → MP.E → List Expr → Prop
  | nil {sc fb} : TrA sc fb .nil []
  | cons {sc fb a r pa pr} (h : TrE sc fb a pa) (q : TrA sc fb r pr) : TrA sc fb (.cons a r) (pa :: pr)
inductive TrO : Scope → (Str → Bool) → MP.E → Option Expr → Prop
  | none {sc fb} : TrO sc fb (.con .und) none
  | some {sc fb a pa} (h : TrE sc fb a pa) : TrO sc fb a (some pa)
inductive TrI : Scope → (Str → Bool) → MP.ItK → MP.E → Expr → Expr → Prop
  | gen {sc fb a pa tg} (h : TrE sc fb a pa) : TrI sc fb .gen (.cons a .nil) tg pa
  | rng {sc fb es pes tg p pos} (m : ("range" : Str) ∈ tb.bl) (g : glB sc "range" = true) (h : TrA sc fb es pes) (hl : pes.length = 1 ∨ pes.length = 2) : TrI sc fb .rng es tg (.Call (.Name "range" p) pes [] pos)
  | enum {sc fb a pa ts kk tp p pos} (m : ("enumerate" : Str) ∈ tb.bl) (g : glB sc "enumerate" = true) (h : TrE sc fb a pa) : TrI sc fb .enum (.cons a .nil) (.Tuple ts kk tp) (.Call (.Name "enumerate" p) [pa] [] pos)
  | zip {sc fb a b pa pb ts kk tp p pos} (m : ("zip" : Str) ∈ tb.bl) (g : glB sc "zip" = true) (h : TrE sc fb a pa) (q : TrE sc fb b pb) : TrI sc fb .zip (.cons a (.cons b .nil)) (.Tuple ts kk tp) (.Call (.Name "zip" p) [pa, pb] [] pos)
end
end
/-! ### forms that never come -/
section
variable {tb : Tb} {N : List Str} {sc : Scope} {fb : Str → Bool} {e : MP.E} {pe : Expr}
theorem TrE.noset (h : TrE tb N sc fb e pe) (op : CmpOp) : behindInMarks op pe = false := by
  cases h <;> rfl
theorem TrE.nostar (h : TrE tb N sc fb e pe) (es : List Expr) (env : Env) : starEach (pe :: es) env = (false, eval pe env) :: starEach es env := by
  cases h <;> rfl
theorem TrE.plain (h : TrE tb N sc fb e pe) : PlainIx pe := by
  cases h <;> exact fun _ _ => rfl
theorem TrE.base (h : TrE tb N sc fb e pe) (x : Str) (env : Env) (w : Sem Value) : attributeBase pe x env w = w := by
  cases h <;> rfl
theorem TrE.fold (h : TrE tb N sc fb e pe) (env : Env) : ∀ x, foldedSetIterable pe env x = pure x := by
  cases h <;> exact fun _ => rfl
theorem TrI.fold {k : MP.ItK} {ia : MP.E} {tg pi : Expr} (h : TrI tb N sc fb k ia tg pi) (env : Env) : ∀ x, foldedSetIterable pi env x = pure x := by
  cases h with
  | gen h => exact h.fold env
  | _ => exact fun _ => rfl
theorem TrA.noplain {es : MP.E} {pes : List Expr} (h : TrA tb N sc fb es pes) (pos : Pos) (env : Env) : (backTo pos (starEach pes env)).any (·.1) = false := by
  induction pes generalizing es with
  | nil => rfl
  | cons a l ih =>
    cases h with
    | cons h q =>
    rw [h.nostar]
    have := ih q
    simp only [backTo, List.map_cons, List.any_cons, Bool.false_or] at this ⊢
    exact this
end
end MPS
namespace MPS
open PySem PySem.Spec PyProof.Rows L2 PySem.W
/-! ### equal as trees -/
mutual
theorem beq_eq : ∀ (a b : MP.D), MP.D.beq a b = true → a = b
  | .und, b, h => by cases b <;> first | rfl | (simp [MP.D.beq] at h; done)
  | .non, b, h => by cases b <;> first | rfl | (simp [MP.D.beq] at h; done)
  | .bl x, b, h => by cases b <;> first | (simp [MP.D.beq] at h; subst h; rfl) | (simp [MP.D.beq] at h; done)
  | .int x, b, h => by cases b <;> first | (simp [MP.D.beq] at h; subst h; rfl) | (simp [MP.D.beq] at h; done)
  | .str x, b, h => by cases b <;> first | (simp [MP.D.beq] at h; subst h; rfl) | (simp [MP.D.beq] at h; done)
  | .ref x, b, h => by cases b <;> first | (simp [MP.D.beq] at h; subst h; rfl) | (simp [MP.D.beq] at h; done)
  | .tup xs, b, h => by
    cases b with
    | tup ys => rw [beqs_eq xs ys (by simpa [MP.D.beq] using h)]
    | _ => simp [MP.D.beq] at h
  | .lst xs, b, h => by
    cases b with
    | lst ys => rw [beqs_eq xs ys (by simpa [MP.D.beq] using h)]
    | _ => simp [MP.D.beq] at h
  | .frz xs, b, h => by
    cases b with
    | frz ys => rw [beqs_eq xs ys (by simpa [MP.D.beq] using h)]
    | _ => simp [MP.D.beq] at h
  | .clo k xs, b, h => by
    cases b with
    | clo j ys =>
      simp only [MP.D.beq, Bool.and_eq_true, beq_iff_eq] at h
      rw [h.1, beqs_eq xs ys h.2]
    | _ => simp [MP.D.beq] at h
theorem beqs_eq : ∀ (as bs : List MP.D), MP.D.beqs as bs = true → as = bs
  | [], [], _ => rfl
  | [], _ :: _, h => by simp [MP.D.beqs] at h
  | _ :: _, [], h => by simp [MP.D.beqs] at h
  | a :: as, b :: bs, h => by
    simp only [MP.D.beqs, Bool.and_eq_true] at h
    rw [beq_eq a b h.1, beqs_eq as bs h.2]
end
/-! ### what is walked -/
/-- J walks the items xs, as long as the lists of g stay -/
def Wk (K : PySem.W.Frag) (J : It) (xs : List MP.D) (g : MP.Gd) (m0 : Pl) (H0 : Hp) : Prop :=
  ∀ (m : Pl) (h : MP.Heap) (H : Hp), Kw m0 H0 m H → HR K m h H → MP.gdOk h g = true →
    (∀ (i : Nat) (d : MP.D), xs[i]? = some d → J.go i H ∧ ∀ x H', J.yld i H x H' → Kp m H m H' ∧ HR K m h H' ∧ Rel K m H' d x) ∧ J.stop xs.length H
section
variable {K : PySem.W.Frag} {m m0 : Pl} {H H0 : Hp} {h h0 : MP.Heap}
/-- a value that is a list, read again later -/
theorem list_later {d : MP.D} {v : V} {xs : List MP.D} (hr0 : HR K m0 h0 H0) (r : Rel K m0 H0 d v) (e : MP.rlist h0 d = some xs) :
    ∃ a, v = .ref a ∧ ((∃ vs, SqL K H0 a vs) ∧ ∀ m h H, Kw m0 H0 m H → HR K m h H → MP.gdOk h (MP.gdOf h0 d) = true → ∃ vs, SqL K H a vs ∧ Rels K m H xs vs) := by
  cases r with
  | lst h1 n nb r =>
    simp [MP.rlist] at e; subst e
    exact ⟨_, rfl, ⟨_, .of h1⟩, fun m h H k hr _ => ⟨_, .of (k.keep _ _ h1 n nb).1, r.keepW hr0.mut k⟩⟩
  | ref h1 =>
    rename_i a n
    simp only [MP.rlist] at e
    split at e
    · rename_i ys e1
      cases e
      obtain ⟨a', vs, e2, e3, r⟩ := hr0.lst e1
      rw [h1] at e2; cases e2
      refine ⟨_, rfl, ⟨_, .of e3⟩, fun m h H k hr hg => ?_⟩
      simp only [MP.gdOf, e1, MP.gdOk, List.all_cons, List.all_nil, Bool.and_true] at hg
      split at hg
      · rename_i zs e4
        have := beqs_eq _ _ hg; subst this
        obtain ⟨b, us, e5, e6, r6⟩ := hr.lst e4
        rw [k.at_ _ _ h1] at e5
        cases e5
        exact ⟨us, .of e6, r6⟩
      · cases hg
    · cases e
  | _ => simp [MP.rlist] at e
/-- a value that is a list or a tuple, read again later -/
theorem seq_later {d : MP.D} {v : V} {xs : List MP.D} (hr0 : HR K m0 h0 H0) (r : Rel K m0 H0 d v) (e : MP.items h0 d = some xs) :
    (∃ a, v = .ref a ∧ ((∃ vs, SqL K H0 a vs) ∧ ∀ m h H, Kw m0 H0 m H → HR K m h H → MP.gdOk h (MP.gdOf h0 d) = true → ∃ vs, SqL K H a vs ∧ Rels K m H xs vs)) ∨
    ∃ a, v = .ref a ∧ ((∃ vs, SqT K H0 a vs) ∧ ∀ m h H, Kw m0 H0 m H → HR K m h H → ∃ vs, SqT K H a vs ∧ Rels K m H xs vs) := by
  cases d with
  | tup ys =>
    cases r with
    | tup h1 r =>
    simp [MP.items] at e; subst e
    exact .inr ⟨_, rfl, ⟨_, h1⟩, fun m h H k hr => ⟨_, SqT.keepW hr0.mut k h1, r.keepW hr0.mut k⟩⟩
  | frz ys =>
    cases r with
    | frz h1 r =>
    simp [MP.items] at e; subst e
    exact .inl ⟨_, rfl, ⟨_, h1.sq⟩, fun m h H k hr _ => ⟨_, (h1.keepW k).sq, r.keepW hr0.mut k⟩⟩
  | lst ys => exact .inl (list_later hr0 r e)
  | ref n => exact .inl (list_later hr0 r e)
  | _ => simp [MP.items] at e
theorem wk_list {a : Addr} {xs : List MP.D} {g : MP.Gd} (L : ∀ m h H, Kw m0 H0 m H → HR K m h H → MP.gdOk h g = true → ∃ vs, SqL K H a vs ∧ Rels K m H xs vs) : Wk K (Itl K a) xs g m0 H0 := fun m h H k hr hg => by
  obtain ⟨vs, h1, r⟩ := L m h H k hr hg
  refine ⟨fun i d hd => ?_, ⟨vs, h1, by rw [r.length]; exact Nat.le_refl _⟩⟩
  obtain ⟨v, e, rv⟩ := r.get hd
  refine ⟨⟨vs, v, h1, e⟩, fun x H' hy => ?_⟩
  obtain ⟨rfl, hy⟩ := hy
  have := hy vs h1
  rw [e] at this; cases this
  exact ⟨.refl _ _, hr, rv⟩
theorem wk_tup {a : Addr} {xs : List MP.D} {g : MP.Gd} (L : ∀ m h H, Kw m0 H0 m H → HR K m h H → ∃ vs, SqT K H a vs ∧ Rels K m H xs vs) : Wk K (Itt K a) xs g m0 H0 := fun m h H k hr hg => by
  obtain ⟨vs, h1, r⟩ := L m h H k hr
  refine ⟨fun i d hd => ?_, ⟨vs, h1, by rw [r.length]; exact Nat.le_refl _⟩⟩
  obtain ⟨v, e, rv⟩ := r.get hd
  refine ⟨⟨vs, v, h1, e⟩, fun x H' hy => ?_⟩
  obtain ⟨rfl, hy⟩ := hy
  have := hy vs h1
  rw [e] at this; cases this
  exact ⟨.refl _ _, hr, rv⟩
theorem rangeI_get {a b : Int} {i : Nat} {d : MP.D} (e : ((MP.rangeI a b).map MP.D.int)[i]? = some d) : i < (b - a).toNat ∧ d = .int (a + i) := by
  unfold MP.rangeI at e
  rw [List.getElem?_map, List.getElem?_map] at e
  cases q : (List.range (b - a).toNat)[i]? with
  | none => rw [q] at e; cases e
  | some j =>
    rw [q] at e
    have h1 := List.getElem?_eq_some_iff.mp q
    obtain ⟨h1, h2⟩ := h1
    rw [List.length_range] at h1
    rw [List.getElem_range] at h2
    subst h2
    simp at e
    exact ⟨h1, e.symm⟩
theorem rangeI_len {a b : Int} : ((MP.rangeI a b).map MP.D.int).length = (b - a).toNat := by
  unfold MP.rangeI
  rw [List.length_map, List.length_map, List.length_range]
theorem wk_range {a b : Int} : Wk K (Itr a (b - a).toNat) ((MP.rangeI a b).map MP.D.int) [] m0 H0 := fun m h H k hr hg => by
  refine ⟨fun i d hd => ?_, by show (b - a).toNat ≤ _; rw [rangeI_len]; exact Nat.le_refl _⟩
  obtain ⟨h1, rfl⟩ := rangeI_get hd
  refine ⟨h1, fun x H' hy => ?_⟩
  obtain ⟨rfl, rfl⟩ := hy
  exact ⟨.refl _ _, hr, .int _⟩
theorem enumD_get : ∀ {xs : List MP.D} {k i : Nat} {d : MP.D}, (MP.enumD k xs)[i]? = some d → ∃ x, xs[i]? = some x ∧ d = .tup [.int ((k + i : Nat) : Int), x]
  | [], _, _, _, e => by simp [MP.enumD] at e
  | x :: xs, k, 0, d, e => by simp [MP.enumD] at e; subst e; exact ⟨x, rfl, rfl⟩
  | x :: xs, k, i + 1, d, e => by
    simp only [MP.enumD, List.getElem?_cons_succ] at e
    obtain ⟨y, e1, e2⟩ := enumD_get e
    refine ⟨y, by simpa using e1, ?_⟩
    rw [e2]
    have : k + 1 + i = k + (i + 1) := by omega
    rw [this]
theorem enumD_len : ∀ {xs : List MP.D} {k : Nat}, (MP.enumD k xs).length = xs.length
  | [], _ => rfl
  | x :: xs, k => by simp [MP.enumD, enumD_len]
theorem wk_enum {a : Addr} {xs : List MP.D} {g : MP.Gd} (L : ∀ m h H, Kw m0 H0 m H → HR K m h H → MP.gdOk h g = true → ∃ vs, SqL K H a vs ∧ Rels K m H xs vs) : Wk K (Ite K a) (MP.enumD 0 xs) g m0 H0 := fun m h H k hr hg => by
  obtain ⟨vs, h1, r⟩ := L m h H k hr hg
  refine ⟨fun i d hd => ?_, ⟨vs, h1, by rw [enumD_len, r.length]; exact Nat.le_refl _⟩⟩
  obtain ⟨x, e, rfl⟩ := enumD_get hd
  obtain ⟨v, e1, rv⟩ := r.get e
  refine ⟨⟨vs, v, h1, e1⟩, fun y H' hy => ?_⟩
  obtain ⟨T, z, rfl, hT, rfl, hy⟩ := hy
  have := hy vs h1
  rw [e1] at this; cases this
  refine ⟨.new hT, hr.new hT, .tup (.of upd_same) (.cons ?_ (.cons (rv.keep hr.mut (.new hT)) .nil))⟩
  rw [Nat.zero_add]
  exact .int _
theorem zipD_get : ∀ {xs ys : List MP.D} {i : Nat} {d : MP.D}, (MP.zipD xs ys)[i]? = some d → ∃ x y, xs[i]? = some x ∧ ys[i]? = some y ∧ d = .tup [x, y]
  | [], _, _, _, e => by simp [MP.zipD] at e
  | _ :: _, [], _, _, e => by simp [MP.zipD] at e
  | x :: xs, y :: ys, 0, d, e => by simp [MP.zipD] at e; subst e; exact ⟨x, y, rfl, rfl, rfl⟩
  | x :: xs, y :: ys, i + 1, d, e => by
    simp only [MP.zipD, List.getElem?_cons_succ] at e
    obtain ⟨u, v, e1, e2, e3⟩ := zipD_get e
    exact ⟨u, v, by simpa using e1, by simpa using e2, e3⟩
theorem zipD_len : ∀ {xs ys : List MP.D}, (MP.zipD xs ys).length = min xs.length ys.length
  | [], _ => by simp [MP.zipD]
  | _ :: _, [] => by simp [MP.zipD]
  | x :: xs, y :: ys => by simp only [MP.zipD, List.length_cons, zipD_len]; omega
theorem wk_zip {a b : Addr} {xs ys : List MP.D} {g : MP.Gd} (L : ∀ m h H, Kw m0 H0 m H → HR K m h H → MP.gdOk h g = true → (∃ vs, SqL K H a vs ∧ Rels K m H xs vs) ∧ ∃ vs, SqL K H b vs ∧ Rels K m H ys vs) : Wk K (Itz K a b) (MP.zipD xs ys) g m0 H0 := fun m h H k hr hg => by
  obtain ⟨⟨vs, h1, r⟩, ⟨us, h2, r2⟩⟩ := L m h H k hr hg
  refine ⟨fun i d hd => ?_, ⟨vs, us, h1, h2, by rw [zipD_len, ← r.length, ← r2.length]; omega⟩⟩
  obtain ⟨x, y, e, e2, rfl⟩ := zipD_get hd
  obtain ⟨v, e1, rv⟩ := r.get e
  obtain ⟨u, e3, ru⟩ := r2.get e2
  refine ⟨⟨vs, us, v, u, h1, h2, e1, e3⟩, fun z H' hy => ?_⟩
  obtain ⟨T, z, z', rfl, hT, rfl, hy, hy'⟩ := hy
  have := hy vs h1
  rw [e1] at this; cases this
  have := hy' us h2
  rw [e3] at this; cases this
  exact ⟨.new hT, hr.new hT, .tup (.of upd_same) (.cons (rv.keep hr.mut (.new hT)) (.cons (ru.keep hr.mut (.new hT)) .nil))⟩
theorem wk_zipT {a b : Addr} {xs ys : List MP.D} {g : MP.Gd} (L : ∀ m h H, Kw m0 H0 m H → HR K m h H → (∃ vs, SqT K H a vs ∧ Rels K m H xs vs) ∧ ∃ vs, SqT K H b vs ∧ Rels K m H ys vs) : Wk K (RZ.ItzT K a b) (MP.zipD xs ys) g m0 H0 := fun m h H k hr hg => by
  obtain ⟨⟨vs, h1, r⟩, ⟨us, h2, r2⟩⟩ := L m h H k hr
  refine ⟨fun i d hd => ?_, ⟨vs, us, h1, h2, by rw [zipD_len, ← r.length, ← r2.length]; omega⟩⟩
  obtain ⟨x, y, e, e2, rfl⟩ := zipD_get hd
  obtain ⟨v, e1, rv⟩ := r.get e
  obtain ⟨u, e3, ru⟩ := r2.get e2
  refine ⟨⟨vs, us, v, u, h1, h2, e1, e3⟩, fun z H' hy => ?_⟩
  obtain ⟨T, z, z', rfl, hT, rfl, hy, hy'⟩ := hy
  have := hy vs h1
  rw [e1] at this; cases this
  have := hy' us h2
  rw [e3] at this; cases this
  exact ⟨.new hT, hr.new hT, .tup (.of upd_same) (.cons (rv.keep hr.mut (.new hT)) (.cons (ru.keep hr.mut (.new hT)) .nil))⟩
end
end MPS
namespace MPS
open PySem PySem.Spec PyProof.Rows L2 PySem.W
/-! ### the world of a text, the context of a piece of it -/
/-- what a def promises: φ's result -/
def spF (K : PySem.W.Frag) (cs : List Addr) (φ : List MP.D → MP.Heap → MP.R MP.D) (np : Nat) : Sp := fun vs H Q E => vs.length = np ∧ ∃ m h ds, HR K m h H ∧ Rels K m H ds vs ∧
  Gd K (Rel K) m H (φ ds h) Q (fun c H' => ∀ C, cs[c]? = some C → E (.ref C) none H')
structure Wld (P : Program) (w : World) (K : PySem.W.Frag) (mg : Str → Option Value) (base : Heap) (tb : Tb) (cs : List Addr) (Φ : Nat → List MP.D → MP.Heap → MP.R MP.D) (G : List MP.D) (k : Nat) : Prop where
  fns : ∀ (f : Nat) (x : Str), tb.fn[f]? = some x → ∃ a fd ps, mg x = some (.ref a) ∧ PySem.W.keepIn K (.ref a) = true ∧ Binds K fd ps [] ∧ FnOk P w K mg base (L2.CX P w) k a fd ps (spF K cs (Φ f) ps.length) ∧ ∀ ds h, Φ f ds h ≠ .bad → ds.length = ps.length
  glo : ∀ (j : Nat) (x : Str), tb.gn[j]? = some x → ∃ (d : MP.D) (u : Value) (v : V), G[j]? = some d ∧ mg x = some u ∧ RelV v u ∧ ∀ m H, Rel K m H d v
  blt : ∀ x ∈ tb.bl, mg x = none
structure Cg (X : Cx) (N : List Str) (sc : Scope) (fb : Str → Bool) (k : Nat) : Prop where
  calm : X.calm = true
  room : Room k X.A
  nd : N.Nodup
  nn : X.N = N
  sc : X.env.scope = sc
  fb : X.fn = fb
def EnvR (K : PySem.W.Frag) (m : Pl) (H : Hp) (env : MP.Env) (σ : L2.St) : Prop := env.length = σ.length ∧ ∀ (i : Nat) (d : MP.D), env[i]? = some d → d ≠ .und → ∃ v, σ[i]? = some (some v) ∧ Rel K m H d v
theorem EnvR.keep {K : PySem.W.Frag} {m m' : Pl} {H H' : Hp} {h : MP.Heap} {env : MP.Env} {σ : L2.St} (e : EnvR K m H env σ) (hr : HR K m h H) (k : Kp m H m' H') : EnvR K m' H' env σ :=
  ⟨e.1, fun i d e1 e2 => let ⟨v, e3, r⟩ := e.2 i d e1 e2; ⟨v, e3, r.keep hr.mut k⟩⟩
theorem EnvR.set {K : PySem.W.Frag} {m : Pl} {H : Hp} {env : MP.Env} {σ : L2.St} {i : Nat} {d : MP.D} {v : V} (e : EnvR K m H env σ) (r : Rel K m H d v) (hi : i < env.length) : EnvR K m H (env.set i d) (σ.set i (some v)) := by
  refine ⟨by simp [e.1], fun j x e1 e2 => ?_⟩
  by_cases hj : j = i
  · subst hj
    rw [List.getElem?_set_self hi] at e1
    cases e1
    exact ⟨v, by rw [List.getElem?_set_self (by rw [← e.1]; exact hi)], r⟩
  · rw [List.getElem?_set_ne (Ne.symm hj)] at e1
    obtain ⟨u, e3, r3⟩ := e.2 j x e1 e2
    exact ⟨u, by rw [List.getElem?_set_ne (Ne.symm hj)]; exact e3, r3⟩
/-! ### readings by what they are to do -/
def ER (X : Cx) (pe : Expr) : TE := fun σ H Q => ∀ pins s, Inv X pins σ H s → wpAny (model X.prog X.w) X.A (eval pe X.env) (EP X pins σ Q) X.xe s
def TR (X : Cx) (pe : Expr) : TT := fun σ H Q => ∀ pins s, Inv X pins σ H s → wpAny (model X.prog X.w) X.A (isTrue pe X.env (eval pe X.env)) (TP X pins σ Q) X.xe s
def WR (X : Cx) (pe : Expr) : TT := fun σ H Q => ∀ whole pins s, Inv X pins σ H s → wpAny (model X.prog X.w) X.A (isTrue pe X.env whole) (TP X pins σ Q) X.xe s
def AR (X : Cx) (pes : List Expr) : TA := fun σ H Q => ∀ pos pins s, Inv X pins σ H s → wpAny (model X.prog X.w) X.A (spliced (backTo pos (starEach pes X.env))) (AP X pins σ Q) X.xe s
theorem per (X : Cx) (pe : Expr) : PE X pe (ER X pe) := ⟨fun pins s σ H Q I h => h pins s I⟩
theorem ptr (X : Cx) (pe : Expr) : PT X pe (TR X pe) := ⟨fun pins s σ H Q I h => h pins s I⟩
theorem pwr (X : Cx) (pe : Expr) : PW X pe (WR X pe) := ⟨fun wh pins s σ H Q I h => h wh pins s I⟩
theorem par (X : Cx) (pes : List Expr) : PA X pes (AR X pes) := ⟨fun pos pins s σ H Q I h => h pos pins s I⟩
section
variable {X : Cx} {pe : Expr} {pes : List Expr} {σ : L2.St} {H : Hp}
theorem ER.of {t : TE} {Q : VK} (h : PE X pe t) (q : t σ H Q) : ER X pe σ H Q := fun pins s I => h.run pins s σ H Q I q
theorem TR.of {t : TT} {Q : Bool → Hp → Prop} (h : PT X pe t) (q : t σ H Q) : TR X pe σ H Q := fun pins s I => h.run pins s σ H Q I q
theorem WR.of {t : TT} {Q : Bool → Hp → Prop} (h : PW X pe t) (q : t σ H Q) : WR X pe σ H Q := fun wh pins s I => h.run wh pins s σ H Q I q
theorem WR.tr {Q : Bool → Hp → Prop} (h : WR X pe σ H Q) : TR X pe σ H Q := fun pins s I => h _ pins s I
theorem AR.of {t : TA} {Q : List V → Hp → Prop} (h : PA X pes t) (q : t σ H Q) : AR X pes σ H Q := fun pos pins s I => h.run pos pins s σ H Q I q
end
def Zw (cs : List Addr) (W : WX) (σ : L2.St) : Nat → Hp → Prop := fun c H' => ∀ C, cs[c]? = some C → W (.ref C) none σ H'
def relA (K : PySem.W.Frag) : Pl → Hp → MP.D → List V → Prop := fun m H d vs => ∃ ds, d = .tup ds ∧ Rels K m H ds vs
def relB : Pl → Hp → Bool → Bool → Prop := fun _ _ a b => a = b
section
variable (tb : Tb) (N : List Str) (cs : List Addr) (Φ : Nat → List MP.D → MP.Heap → MP.R MP.D) (G : List MP.D) (k : Nat)
abbrev WldX (X : Cx) : Prop := Wld X.prog X.w X.K X.mg X.base tb cs Φ G k
def SimE (sc : Scope) (fb : Str → Bool) (e : MP.E) (pe : Expr) : Prop := ∀ (X : Cx), Cg X N sc fb k → WldX tb cs Φ G k X → ∀ (W : WX), Takes X W → ∀ (env : MP.Env) (h : MP.Heap) (m : Pl) (σ : L2.St) (H : Hp) (Q : VK),
  EnvR X.K m H env σ → HR X.K m h H → Gd X.K (Rel X.K) m H (MP.eE Φ G e env h) Q (Zw cs W σ) → ER X pe σ H Q
def SimA (sc : Scope) (fb : Str → Bool) (e : MP.E) (pes : List Expr) : Prop := ∀ (X : Cx), Cg X N sc fb k → WldX tb cs Φ G k X → ∀ (W : WX), Takes X W → ∀ (env : MP.Env) (h : MP.Heap) (m : Pl) (σ : L2.St) (H : Hp) (Q : List V → Hp → Prop),
  EnvR X.K m H env σ → HR X.K m h H → Gd X.K (relA X.K) m H (MP.eE Φ G e env h) Q (Zw cs W σ) → AR X pes σ H Q
def tE (e : MP.E) (env : MP.Env) (h : MP.Heap) : MP.R Bool := (MP.eE Φ G e env h).bind MP.tru
def SimT (sc : Scope) (fb : Str → Bool) (e : MP.E) (pe : Expr) : Prop := ∀ (X : Cx), Cg X N sc fb k → WldX tb cs Φ G k X → ∀ (W : WX), Takes X W → ∀ (env : MP.Env) (h : MP.Heap) (m : Pl) (σ : L2.St) (H : Hp) (Q : Bool → Hp → Prop),
  EnvR X.K m H env σ → HR X.K m h H → Gd X.K relB m H (tE Φ G e env h) Q (Zw cs W σ) → TR X pe σ H Q
def SimW (sc : Scope) (fb : Str → Bool) (e : MP.E) (pe : Expr) : Prop := ∀ (X : Cx), Cg X N sc fb k → WldX tb cs Φ G k X → ∀ (W : WX), Takes X W → ∀ (env : MP.Env) (h : MP.Heap) (m : Pl) (σ : L2.St) (H : Hp) (Q : Bool → Hp → Prop),
  EnvR X.K m H env σ → HR X.K m h H → Gd X.K relB m H (tE Φ G e env h) Q (Zw cs W σ) → WR X pe σ H Q
end
section
variable {tb : Tb} {N : List Str} {cs : List Addr} {Φ : Nat → List MP.D → MP.Heap → MP.R MP.D} {G : List MP.D} {k : Nat} {sc : Scope} {fb : Str → Bool}
theorem Cg.gl {X : Cx} (c : Cg X N sc fb k) {x : Str} (h : glB sc x = true) : Gl X x := by
  unfold Gl Env.kindOf
  rw [c.sc]
  exact of_decide_eq_true h
theorem Cg.vis {X : Cx} (c : Cg X N sc fb k) {x : Str} (h : visB sc x = true) : Vis X.env.scope x := by
  unfold Vis
  rw [c.sc]
  unfold visB at h
  split at h
  · rename_i e; exact .inl e
  · rename_i e; exact .inr (.inl e)
  · rename_i e; exact .inr (.inr e)
  · cases h
theorem Cg.hu {X : Cx} (c : Cg X N sc fb k) : X.A.units + 65 < cLine := by
  have := c.room.un
  omega
theorem nm1 {x : Str} (h : nmB x = true) : (x == ("__debug__" : Str)) = false ∧ (x == ("__classdict__" : Str)) = false ∧ x ≠ "__name__" := by
  unfold nmB at h
  simp only [Bool.and_eq_true, Bool.not_eq_true', decide_eq_true_eq] at h
  exact ⟨h.1.1, h.1.2, h.2⟩
/-- arguments -/
theorem simA : ∀ {es : MP.E} {pes : List Expr}, (∀ a, sizeOf a < sizeOf es → ∀ pe, TrE tb N sc fb a pe → SimE tb N cs Φ G k sc fb a pe) → TrA tb N sc fb es pes → SimA tb N cs Φ G k sc fb es pes
  | .nil, _, _, .nil => fun X c w W tk env h m σ H Q er hr g => AR.of pa_nil (g [] m H (.refl _ _) hr ⟨[], rfl, .nil⟩)
  | .cons a r, pa :: pr, ih, .cons h q => fun X c w W tk env h m σ H Q er hr g => by
    have iha := ih a (by simp; omega) pa ‹_›
    have ihr : SimA tb N cs Φ G k sc fb r pr := simA (fun a' ha => ih a' (by simp; omega)) q
    refine AR.of (pa_cons (per X pa) (par X pr) (TrE.nostar ‹_› _ _)) ?_
    refine iha X c w W tk env _ m σ H _ er hr (g.bind fun d1 h1 v1 m1 H1 _ k1 hr1 r1 g1 => ?_)
    refine ihr X c w W tk env h1 m1 σ H1 _ (er.keep hr k1) hr1 (g1.bind fun d2 h2 v2 m2 H2 _ k2 hr2 r2 g2 => ?_)
    obtain ⟨ds, rfl, r2⟩ := r2
    exact g2 _ m2 H2 (.refl _ _) hr2 ⟨_, rfl, .cons (r1.keep hr1.mut k2) r2⟩
/-! ### tests, by parts -/
theorem tE_and {a r : MP.E} {env : MP.Env} {h : MP.Heap} : tE Φ G (.and2 a r) env h = (tE Φ G a env h).bind fun b h2 => if b then tE Φ G r env h2 else .ok false h2 := by
  unfold tE
  simp only [MP.eE_and2, MP.eE_or2, MP.eE_nt, MP.eE_ite]
  cases MP.eE Φ G a env h with
  | ok x h1 =>
    simp only [MP.R.bind, MP.tru]
    cases e : MP.truthy h1 x with
    | none => rfl
    | some b =>
      cases b with
      | true => rfl
      | false => simp only [MP.R.opt, Bool.false_eq_true, if_false, e]
  | exc c h1 => rfl
  | bad => rfl
theorem tE_or {a r : MP.E} {env : MP.Env} {h : MP.Heap} : tE Φ G (.or2 a r) env h = (tE Φ G a env h).bind fun b h2 => if b then .ok true h2 else tE Φ G r env h2 := by
  unfold tE
  simp only [MP.eE_and2, MP.eE_or2, MP.eE_nt, MP.eE_ite]
  cases MP.eE Φ G a env h with
  | ok x h1 =>
    simp only [MP.R.bind, MP.tru]
    cases e : MP.truthy h1 x with
    | none => rfl
    | some b =>
      cases b with
      | false => rfl
      | true => simp only [MP.R.opt, if_true, e]
  | exc c h1 => rfl
  | bad => rfl
theorem tE_not {a : MP.E} {env : MP.Env} {h : MP.Heap} : tE Φ G (.nt a) env h = (tE Φ G a env h).bind fun b h2 => .ok (!b) h2 := by
  unfold tE
  simp only [MP.eE_and2, MP.eE_or2, MP.eE_nt, MP.eE_ite]
  cases MP.eE Φ G a env h with
  | ok x h1 =>
    simp only [MP.R.bind, MP.tru]
    cases e : MP.truthy h1 x with
    | none => rfl
    | some b => rfl
  | exc c h1 => rfl
  | bad => rfl
theorem tE_ite {c a b : MP.E} {env : MP.Env} {h : MP.Heap} : tE Φ G (.ite c a b) env h = (tE Φ G c env h).bind fun k h2 => if k then tE Φ G a env h2 else tE Φ G b env h2 := by
  unfold tE
  simp only [MP.eE_and2, MP.eE_or2, MP.eE_nt, MP.eE_ite]
  cases MP.eE Φ G c env h with
  | ok x h1 =>
    simp only [MP.R.bind, MP.tru]
    cases e : MP.truthy h1 x with
    | none => rfl
    | some b => cases b <;> rfl
  | exc c h1 => rfl
  | bad => rfl
theorem pt_ifExp {X : Cx} {c a b : Expr} {tc ta tb : TT} {pos : Pos} (hc : PT X c tc) (ha : PT X a ta) (hb : PT X b tb) : PW X (.IfExp c a b pos) (fun σ H Q => tc σ H fun k H1 => if k = true then ta σ H1 Q else tb σ H1 Q) := by
  refine ⟨fun wh pins s σ H Q I h => ?_⟩
  show wpAny _ _ (do if ← isTrue c X.env (eval c X.env) then isTrue a X.env (eval a X.env) else isTrue b X.env (eval b X.env)) _ _ s
  refine wpAny_bind (thn (hc.run pins s σ H _ I h) fun d s1 ⟨H1, I1, q1⟩ => ?_)
  cases d with
  | true => exact ha.run pins s1 σ H1 Q I1 q1
  | false => exact hb.run pins s1 σ H1 Q I1 q1
end
end MPS
namespace MPS
open PySem PySem.Spec PyProof.Rows L2 PySem.W
section
variable {tb : Tb} {N : List Str} {cs : List Addr} {Φ : Nat → List MP.D → MP.Heap → MP.R MP.D} {G : List MP.D} {k : Nat} {sc : Scope} {fb : Str → Bool}
theorem trA_len : ∀ {es : MP.E} {pes : List Expr} {env : MP.Env} {h h' : MP.Heap} {d : MP.D}, TrA tb N sc fb es pes → MP.eE Φ G es env h = .ok d h' → ∃ ds, d = .tup ds ∧ ds.length = pes.length
  | .nil, _, _, _, _, _, .nil, e => by
    rw [MP.eE_nil] at e; cases e; exact ⟨[], rfl, rfl⟩
  | .cons a r, pa :: pr, env, h, h', d, .cons h1 q, e => by
    rw [MP.eE_cons] at e
    cases e1 : MP.eE Φ G a env h with
    | ok x h2 =>
      rw [e1] at e
      simp only [MP.R.bind] at e
      cases e2 : MP.eE Φ G r env h2 with
      | ok y h3 =>
        rw [e2] at e
        simp only at e
        obtain ⟨ds, rfl, hl⟩ := trA_len q e2
        cases e
        exact ⟨_, rfl, by simp [MP.args, hl]⟩
      | exc c h3 => rw [e2] at e; cases e
      | bad => rw [e2] at e; cases e
    | exc c h3 => rw [e1] at e; cases e
    | bad => rw [e1] at e; cases e
theorem plainF_spec {f : MP.Blt} {x : Str} {fv : Value} (h : plainF f = some (x, fv)) : bootBuiltins x = some fv ∧ nmB x = true ∧ ((∃ id, fv = .builtin id) ∨ ∃ T, fv = .type T) := by
  cases f <;> simp only [plainF, Option.some.injEq, Prod.mk.injEq] at h <;> first
    | (obtain ⟨rfl, rfl⟩ := h; exact ⟨by decide +kernel, by decide +kernel, .inl ⟨_, rfl⟩⟩)
    | (obtain ⟨rfl, rfl⟩ := h; exact ⟨by decide +kernel, by decide +kernel, .inr ⟨_, rfl⟩⟩)
    | cases h
theorem tyN_spec (t : MP.Ty) : bootBuiltins (Str.ofString (tyN t)) = some (.type (tyN t)) ∧ nmB (Str.ofString (tyN t)) = true := by
  cases t <;> exact ⟨by decide +kernel, by decide +kernel⟩
theorem TrA.stars {es : MP.E} {pes : List Expr} (h : TrA tb N sc fb es pes) (pos : Pos) (env : Env) : (backTo pos (starEach pes env)).all (fun x => !x.1) = true := by
  induction pes generalizing es with
  | nil => rfl
  | cons a l ih =>
    cases h with
    | cons h q =>
    rw [h.nostar]
    have := ih q
    simp only [backTo, List.map_cons, List.all_cons, Bool.not_false, Bool.true_and] at this ⊢
    exact this
theorem Cg.calmA {X : Cx} (c : Cg X N sc fb k) : X.calm = true := c.calm
/-- a tuple of written items -/
theorem gd_tup {K : PySem.W.Frag} {m : Pl} {H : Hp} {r : MP.R MP.D} {Q : VK} {Z : Nat → Hp → Prop} (g : Gd K (Rel K) m H r Q Z) (hl : ∀ d h', r = .ok d h' → ∃ ds, d = .tup ds ∧ ds.length ≤ sizeLine) :
    Gd K (relA K) m H r (fun xs H1 => xs.length ≤ sizeLine ∧ ∀ p, H1 p = none → Q (.ref p) (upd H1 p (.tup xs))) Z := by
  cases r with
  | ok d h1 =>
    intro xs m1 H1 k1 hr1 ⟨ds, e, r1⟩
    subst e
    obtain ⟨ds', e, hz⟩ := hl _ _ rfl
    cases e
    refine ⟨by rw [← r1.length]; exact hz, fun p hp => ?_⟩
    exact new_tup (Gd.shift (r := MP.R.ok (MP.D.tup ds) h1) k1 g) hr1 r1 p hp
  | exc c h1 => exact g
  | bad => exact g
theorem gd_args {K : PySem.W.Frag} {γ δ : Type} {rl' : Pl → Hp → γ → δ → Prop} {m : Pl} {H : Hp} {r : MP.R MP.D} {f : MP.D → MP.Heap → MP.R γ} {Q' : δ → Hp → Prop} {Z : Nat → Hp → Prop} {Q1 : List V → Hp → Prop} (g : Gd K rl' m H (r.bind f) Q' Z)
    (h : ∀ (ds : List MP.D) h' vs m' H', r = .ok (MP.D.tup ds) h' → Kp m H m' H' → HR K m' h' H' → Rels K m' H' ds vs → Gd K rl' m' H' (f (.tup ds) h') Q' Z → Q1 vs H') : Gd K (relA K) m H r Q1 Z :=
  g.bind fun d h' vs m' H' e k' hr r g' => by
    obtain ⟨ds, rfl, r⟩ := r
    exact h ds h' vs m' H' e k' hr r g'
end
end MPS
namespace MPS
open PySem PySem.Spec PyProof.Rows L2 PySem.W
section
variable {tb : Tb} {N : List Str} {cs : List Addr} {Φ : Nat → List MP.D → MP.Heap → MP.R MP.D} {G : List MP.D} {k : Nat}
variable {sc : Scope} {fb : Str → Bool}
abbrev IH (tb : Tb) (N : List Str) (cs : List Addr) (Φ : Nat → List MP.D → MP.Heap → MP.R MP.D) (G : List MP.D) (k : Nat) (n : Nat) : Prop :=
  ∀ a : MP.E, sizeOf a < n → ∀ sc fb pe, TrE tb N sc fb a pe → SimE tb N cs Φ G k sc fb a pe ∧ SimT tb N cs Φ G k sc fb a pe ∧ (∀ op ps pos, pe = .BoolOp op ps pos → SimW tb N cs Φ G k sc fb a pe)
/-- the test of a value, where nothing else is looked at -/
theorem simT_plain {e : MP.E} {pe : Expr} (hs : SimE tb N cs Φ G k sc fb e pe) (he : ∀ env whole, isTrue pe env whole = (do let v ← whole; standAt pe.pos; holding [v] (truthy v))) : SimT tb N cs Φ G k sc fb e pe :=
  fun X c w W tk env h m σ H Q er hr g => by
    refine TR.of (pt_truth (per X pe) (he X.env)) ?_
    refine hs X c w W tk env h m σ H _ er hr (g.bind fun d h' v m' H' _ k' hr' r g' => ?_)
    obtain ⟨b, e, g'⟩ := g'.opt
    exact ⟨b, truthy_rel hr' r e, g' b m' H' (.refl _ _) hr' rfl⟩
theorem simE_var {i : Nat} {x : Str} {pos : Pos} (h : N[i]? = some x) (v : visB sc x = true) (n : nmB x = true) : SimE tb N cs Φ G k sc fb (.var i) (.Name x pos) :=
  fun X c w W tk env hp m σ H Q er hr g => by
    obtain ⟨n1, n2, n3⟩ := nm1 n
    refine ER.of (pe_var (by rw [c.nn]; exact h) (c.vis v) n1 n2) ?_
    rw [MP.eE_var] at g
    split at g
    · exact g.elim
    · rename_i d hd e
      obtain ⟨v, e1, r⟩ := er.2 i _ e hd
      exact ⟨v, e1, g.here hr r⟩
    · exact g.elim
theorem simE_glo {j : Nat} {x : Str} {pos : Pos} (h : tb.gn[j]? = some x) (gl : glB sc x = true) (n : nmB x = true) : SimE tb N cs Φ G k sc fb (.glo j) (.Name x pos) :=
  fun X c w W tk env hp m σ H Q er hr g => by
    obtain ⟨n1, n2, n3⟩ := nm1 n
    obtain ⟨d, u, v, e1, e2, e3, e4⟩ := w.glo j x h
    refine ER.of (pe_glob (c.gl gl) e2 e3 n1) ?_
    rw [MP.eE_glo, e1] at g
    exact g.here hr (e4 m H)
theorem simE_tup {es : MP.E} {pes : List Expr} {kk : Nat} {pos : Pos} (ha : TrA tb N sc fb es pes) (sa : SimA tb N cs Φ G k sc fb es pes) (hz : pes.length ≤ 1000) : SimE tb N cs Φ G k sc fb (.tup es) (.Tuple pes kk pos) :=
  fun X c w W tk env hp m σ H Q er hr g => by
    refine ER.of (pe_tup (par X pes)) ?_
    refine sa X c w W tk env hp m σ H _ er hr (gd_tup g fun d h' e => ?_)
    obtain ⟨ds, e1, e2⟩ := trA_len ha e
    exact ⟨ds, e1, by rw [e2]; exact Nat.le_trans hz (by decide)⟩
theorem simE_lst {imm : Bool} {es : MP.E} {pes : List Expr} {pos : Pos} (sa : SimA tb N cs Φ G k sc fb es pes) : SimE tb N cs Φ G k sc fb (.lst imm es) (.List pes pos) :=
  fun X c w W tk env hp m σ H Q er hr g => by
    refine ER.of (pe_lst (par X pes)) ?_
    rw [MP.eE_lst] at g
    refine sa X c w W tk env hp m σ H _ er hr (gd_args g fun ds h' vs m' H' _ k' hr' r g' => ?_)
    exact new_lst g' hr' r
theorem simE_bin {o : MP.BOp} {a b : MP.E} {pa pb : Expr} {pos : Pos} (sa : SimE tb N cs Φ G k sc fb a pa) (sb : SimE tb N cs Φ G k sc fb b pb) : SimE tb N cs Φ G k sc fb (.bin o a b) (.BinOp pa (bop o) pb pos) :=
  fun X c w W tk env hp m σ H Q er hr g => by
    refine ER.of (pe_op (opV X _) (per X pa) (per X pb)) ?_
    rw [MP.eE_bin] at g
    refine sa X c w W tk env hp m σ H _ er hr (g.bind fun d1 h1 v1 m1 H1 _ k1 hr1 r1 g1 => ?_)
    refine sb X c w W tk env h1 m1 σ H1 _ (er.keep hr k1) hr1 (g1.bind fun d2 h2 v2 m2 H2 _ k2 hr2 r2 g2 => ?_)
    exact opB_sound hr2 (r1.keep hr1.mut k2) r2 g2
theorem simE_neg {a : MP.E} {pa : Expr} {pos : Pos} (sa : SimE tb N cs Φ G k sc fb a pa) : SimE tb N cs Φ G k sc fb (.neg a) (.UnaryOp .USub pa pos) :=
  fun X c w W tk env hp m σ H Q er hr g => by
    refine ER.of (pe_un un_neg (per X pa)) ?_
    rw [MP.eE_neg] at g
    refine sa X c w W tk env hp m σ H _ er hr (g.bind fun d1 h1 v1 m1 H1 _ k1 hr1 r1 g1 => ?_)
    split at g1
    · cases r1; exact ⟨_, rfl, g1.here hr1 (.int _)⟩
    · exact g1.elim
theorem simE_cmp {o : MP.COp} {a b : MP.E} {pa pb : Expr} {pos : Pos} (hb : behindInMarks (cop o) pb = false) (sa : SimE tb N cs Φ G k sc fb a pa) (sb : SimE tb N cs Φ G k sc fb b pb) : SimE tb N cs Φ G k sc fb (.cmp o a b) (.Compare pa [cop o] [pb] pos) :=
  fun X c w W tk env hp m σ H Q er hr g => by
    refine ER.of (pe_cmpR (opV X _) (per X pa) (per X pb) hb) ?_
    rw [MP.eE_cmp] at g
    refine sa X c w W tk env hp m σ H _ er hr (g.bind fun d1 h1 v1 m1 H1 _ k1 hr1 r1 g1 => ?_)
    refine sb X c w W tk env h1 m1 σ H1 _ (er.keep hr k1) hr1 (g1.bind fun d2 h2 v2 m2 H2 _ k2 hr2 r2 g2 => ?_)
    obtain ⟨b, e, g3⟩ := g2.optBind
    exact opC_sound c.hu hr2 (r1.keep hr1.mut k2) r2 e (g3.here hr2 (.bl _))
theorem simT_cmp {o : MP.COp} {a b : MP.E} {pa pb : Expr} {pos : Pos} (hb : behindInMarks (cop o) pb = false) (sa : SimE tb N cs Φ G k sc fb a pa) (sb : SimE tb N cs Φ G k sc fb b pb) : SimT tb N cs Φ G k sc fb (.cmp o a b) (.Compare pa [cop o] [pb] pos) :=
  fun X c w W tk env hp m σ H Q er hr g => by
    refine TR.of (pt_cmpR (opV X _) (per X pa) (per X pb) hb) ?_
    unfold tE at g
    rw [MP.eE_cmp] at g
    have e0 : ∀ (r : MP.R MP.D) (f : MP.D → MP.Heap → MP.R MP.D), (r.bind f).bind MP.tru = r.bind fun x h => (f x h).bind MP.tru := fun r f => by cases r <;> rfl
    rw [e0] at g
    refine sa X c w W tk env hp m σ H _ er hr (g.bind fun d1 h1 v1 m1 H1 _ k1 hr1 r1 g1 => ?_)
    rw [e0] at g1
    refine sb X c w W tk env h1 m1 σ H1 _ (er.keep hr k1) hr1 (g1.bind fun d2 h2 v2 m2 H2 _ k2 hr2 r2 g2 => ?_)
    cases e : MP.opC o d1 d2 h2 with
    | none => rw [e] at g2; exact g2.elim
    | some b =>
      rw [e] at g2
      exact opC_sound c.hu hr2 (r1.keep hr1.mut k2) r2 e ⟨b, rfl, g2 b m2 H2 (.refl _ _) hr2 rfl⟩
theorem simE_chn {o p : MP.COp} {a b d : MP.E} {pa pb pd : Expr} {pos : Pos} (hb : behindInMarks (cop p) pd = false) (sa : SimE tb N cs Φ G k sc fb a pa) (sb : SimE tb N cs Φ G k sc fb b pb) (sd : SimE tb N cs Φ G k sc fb d pd) :
    SimE tb N cs Φ G k sc fb (.chn o p a b d) (.Compare pa [cop o, cop p] [pb, pd] pos) :=
  fun X c w W tk env hp m σ H Q er hr g => by
    refine ER.of (pe_chain (opV X _) (opV X _) (per X pa) (per X pb) (per X pd) hb) ?_
    rw [MP.eE_chn] at g
    refine sa X c w W tk env hp m σ H _ er hr (g.bind fun d1 h1 v1 m1 H1 _ k1 hr1 r1 g1 => ?_)
    refine sb X c w W tk env h1 m1 σ H1 _ (er.keep hr k1) hr1 (g1.bind fun d2 h2 v2 m2 H2 _ k2 hr2 r2 g2 => ?_)
    obtain ⟨q, e, g3⟩ := g2.optBind
    refine opC_sound c.hu hr2 (r1.keep hr1.mut k2) r2 e ⟨q, rfl, ?_⟩
    cases q with
    | false =>
      simp only [Bool.false_eq_true, if_false] at g3 ⊢
      exact g3.here hr2 (.bl _)
    | true =>
      simp only [if_true] at g3 ⊢
      refine sd X c w W tk env h2 m2 σ H2 _ ((er.keep hr k1).keep hr1 k2) hr2 (g3.bind fun d4 h4 v4 m4 H4 _ k4 hr4 r4 g4 => ?_)
      obtain ⟨q2, e2, g5⟩ := g4.optBind
      exact opC_sound c.hu hr4 (r2.keep hr2.mut k4) r4 e2 (g5.here hr4 (.bl _))
theorem simT_chn {o p : MP.COp} {a b d : MP.E} {pa pb pd : Expr} {pos : Pos} (hb : behindInMarks (cop p) pd = false) (sa : SimE tb N cs Φ G k sc fb a pa) (sb : SimE tb N cs Φ G k sc fb b pb) (sd : SimE tb N cs Φ G k sc fb d pd) :
    SimT tb N cs Φ G k sc fb (.chn o p a b d) (.Compare pa [cop o, cop p] [pb, pd] pos) :=
  fun X c w W tk env hp m σ H Q er hr g => by
    refine TR.of (pt_chain (opV X _) (opV X _) (per X pa) (per X pb) (per X pd) hb) ?_
    unfold tE at g
    rw [MP.eE_chn] at g
    have e0 : ∀ {α : Type} (r : MP.R α) (f : α → MP.Heap → MP.R MP.D), (r.bind f).bind MP.tru = r.bind fun x h => (f x h).bind MP.tru := fun r f => by cases r <;> rfl
    rw [e0] at g
    refine sa X c w W tk env hp m σ H _ er hr (g.bind fun d1 h1 v1 m1 H1 _ k1 hr1 r1 g1 => ?_)
    rw [e0] at g1
    refine sb X c w W tk env h1 m1 σ H1 _ (er.keep hr k1) hr1 (g1.bind fun d2 h2 v2 m2 H2 _ k2 hr2 r2 g2 => ?_)
    rw [e0] at g2
    obtain ⟨q, e, g3⟩ := g2.optBind
    refine opC_sound c.hu hr2 (r1.keep hr1.mut k2) r2 e ⟨q, rfl, ?_⟩
    cases q with
    | false =>
      simp only [Bool.false_eq_true, if_false] at g3 ⊢
      exact ⟨false, rfl, g3 false m2 H2 (.refl _ _) hr2 rfl⟩
    | true =>
      simp only [if_true] at g3 ⊢
      rw [e0] at g3
      refine sd X c w W tk env h2 m2 σ H2 _ ((er.keep hr k1).keep hr1 k2) hr2 (g3.bind fun d4 h4 v4 m4 H4 _ k4 hr4 r4 g4 => ?_)
      rw [e0] at g4
      obtain ⟨q2, e2, g5⟩ := g4.optBind
      exact opC_sound c.hu hr4 (r2.keep hr2.mut k4) r4 e2 ⟨q2, rfl, g5 q2 m4 H4 (.refl _ _) hr4 rfl⟩
end
end MPS
namespace MPS
open PySem PySem.Spec PyProof.Rows L2 PySem.W
section
variable {tb : Tb} {N : List Str} {cs : List Addr} {Φ : Nat → List MP.D → MP.Heap → MP.R MP.D} {G : List MP.D} {k : Nat}
variable {sc : Scope} {fb : Str → Bool}
theorem simE_and {a r : MP.E} {pa pb : Expr} {ps : List Expr} {pos : Pos} (sa : SimE tb N cs Φ G k sc fb a pa) (sr : SimE tb N cs Φ G k sc fb r (.BoolOp .And (pb :: ps) pos)) : SimE tb N cs Φ G k sc fb (.and2 a r) (.BoolOp .And (pa :: pb :: ps) pos) :=
  fun X c w W tk env hp m σ H Q er hr g => by
    refine ER.of (pe_andT (per X pa) (per X _)) ?_
    rw [MP.eE_and2] at g
    refine sa X c w W tk env hp m σ H _ er hr (g.bind fun d1 h1 v1 m1 H1 _ k1 hr1 r1 g1 => ?_)
    obtain ⟨b, e, g2⟩ := g1.optBind
    refine ⟨b, truthy_rel hr1 r1 e, ?_⟩
    cases b with
    | true =>
      simp only [if_true] at g2 ⊢
      exact sr X c w W tk env h1 m1 σ H1 _ (er.keep hr k1) hr1 g2
    | false =>
      simp only [Bool.false_eq_true, if_false] at g2 ⊢
      exact g2.here hr1 r1
theorem simE_or {a r : MP.E} {pa pb : Expr} {ps : List Expr} {pos : Pos} (sa : SimE tb N cs Φ G k sc fb a pa) (sr : SimE tb N cs Φ G k sc fb r (.BoolOp .Or (pb :: ps) pos)) : SimE tb N cs Φ G k sc fb (.or2 a r) (.BoolOp .Or (pa :: pb :: ps) pos) :=
  fun X c w W tk env hp m σ H Q er hr g => by
    refine ER.of (pe_orT (per X pa) (per X _)) ?_
    rw [MP.eE_or2] at g
    refine sa X c w W tk env hp m σ H _ er hr (g.bind fun d1 h1 v1 m1 H1 _ k1 hr1 r1 g1 => ?_)
    obtain ⟨b, e, g2⟩ := g1.optBind
    refine ⟨b, truthy_rel hr1 r1 e, ?_⟩
    cases b with
    | false =>
      simp only [Bool.false_eq_true, if_false] at g2 ⊢
      exact sr X c w W tk env h1 m1 σ H1 _ (er.keep hr k1) hr1 g2
    | true =>
      simp only [if_true] at g2 ⊢
      exact g2.here hr1 r1
theorem simW_and {a r : MP.E} {pa pb : Expr} {ps : List Expr} {pos : Pos} (sa : SimT tb N cs Φ G k sc fb a pa) (sr : SimW tb N cs Φ G k sc fb r (.BoolOp .And (pb :: ps) pos)) : SimW tb N cs Φ G k sc fb (.and2 a r) (.BoolOp .And (pa :: pb :: ps) pos) :=
  fun X c w W tk env hp m σ H Q er hr g => by
    refine WR.of (pw_and (ptr X pa) (pwr X _)) ?_
    rw [tE_and] at g
    refine sa X c w W tk env hp m σ H _ er hr (g.bind fun b h1 b' m1 H1 _ k1 hr1 r1 g1 => ?_)
    cases r1
    cases b with
    | true =>
      simp only [if_true] at g1 ⊢
      exact sr X c w W tk env h1 m1 σ H1 _ (er.keep hr k1) hr1 g1
    | false =>
      simp only [Bool.false_eq_true, if_false] at g1 ⊢
      exact g1 false m1 H1 (.refl _ _) hr1 rfl
theorem simW_or {a r : MP.E} {pa pb : Expr} {ps : List Expr} {pos : Pos} (sa : SimT tb N cs Φ G k sc fb a pa) (sr : SimW tb N cs Φ G k sc fb r (.BoolOp .Or (pb :: ps) pos)) : SimW tb N cs Φ G k sc fb (.or2 a r) (.BoolOp .Or (pa :: pb :: ps) pos) :=
  fun X c w W tk env hp m σ H Q er hr g => by
    refine WR.of (pw_or (ptr X pa) (pwr X _)) ?_
    rw [tE_or] at g
    refine sa X c w W tk env hp m σ H _ er hr (g.bind fun b h1 b' m1 H1 _ k1 hr1 r1 g1 => ?_)
    cases r1
    cases b with
    | false =>
      simp only [Bool.false_eq_true, if_false] at g1 ⊢
      exact sr X c w W tk env h1 m1 σ H1 _ (er.keep hr k1) hr1 g1
    | true =>
      simp only [if_true] at g1 ⊢
      exact g1 true m1 H1 (.refl _ _) hr1 rfl
theorem simE_one {a : MP.E} {op : BoolOp} {pa : Expr} {pos : Pos} (sa : SimE tb N cs Φ G k sc fb a pa) : SimE tb N cs Φ G k sc fb (.one a) (.BoolOp op [pa] pos) :=
  fun X c w W tk env hp m σ H Q er hr g => by
    refine ER.of (pe_one (per X pa)) ?_
    rw [MP.eE_one] at g
    exact sa X c w W tk env hp m σ H _ er hr g
theorem simW_one {a : MP.E} {op : BoolOp} {pa : Expr} {pos : Pos} (sa : SimT tb N cs Φ G k sc fb a pa) : SimW tb N cs Φ G k sc fb (.one a) (.BoolOp op [pa] pos) :=
  fun X c w W tk env hp m σ H Q er hr g => by
    unfold tE at g
    rw [MP.eE_one] at g
    have q := sa X c w W tk env hp m σ H _ er hr g
    cases op with
    | And => exact WR.of (pw_and1 (ptr X pa)) q
    | Or => exact WR.of (pw_or1 (ptr X pa)) q
theorem simE_nt {a : MP.E} {pa : Expr} {pos : Pos} (sa : SimE tb N cs Φ G k sc fb a pa) : SimE tb N cs Φ G k sc fb (.nt a) (.UnaryOp .Not pa pos) :=
  fun X c w W tk env hp m σ H Q er hr g => by
    refine ER.of (pe_notT (per X pa)) ?_
    rw [MP.eE_nt] at g
    refine sa X c w W tk env hp m σ H _ er hr (g.bind fun d1 h1 v1 m1 H1 _ k1 hr1 r1 g1 => ?_)
    obtain ⟨b, e, g2⟩ := g1.optBind
    exact ⟨b, truthy_rel hr1 r1 e, g2.here hr1 (.bl _)⟩
theorem simT_nt {a : MP.E} {pa : Expr} {pos : Pos} (sa : SimT tb N cs Φ G k sc fb a pa) : SimT tb N cs Φ G k sc fb (.nt a) (.UnaryOp .Not pa pos) :=
  fun X c w W tk env hp m σ H Q er hr g => by
    refine TR.of (pt_not (ptr X pa)) ?_
    rw [tE_not] at g
    refine sa X c w W tk env hp m σ H _ er hr (g.bind fun b h1 b' m1 H1 _ k1 hr1 r1 g1 => ?_)
    cases r1
    exact g1 _ m1 H1 (.refl _ _) hr1 rfl
theorem simE_ite {d a b : MP.E} {pd pa pb : Expr} {pos : Pos} (sd : SimT tb N cs Φ G k sc fb d pd) (sa : SimE tb N cs Φ G k sc fb a pa) (sb : SimE tb N cs Φ G k sc fb b pb) : SimE tb N cs Φ G k sc fb (.ite d a b) (.IfExp pd pa pb pos) :=
  fun X c w W tk env hp m σ H Q er hr g => by
    refine ER.of (pe_ifExp (ptr X pd) (per X pa) (per X pb)) ?_
    rw [MP.eE_ite] at g
    have e0 : ∀ (r : MP.R MP.D) (f : Bool → MP.Heap → MP.R MP.D), (r.bind fun x h1 => (MP.tru x h1).bind f) = (r.bind MP.tru).bind f := fun r f => by cases r <;> rfl
    rw [e0] at g
    refine sd X c w W tk env hp m σ H _ er hr (g.bind fun q h1 q' m1 H1 _ k1 hr1 r1 g1 => ?_)
    cases r1
    cases q with
    | true =>
      simp only [if_true] at g1 ⊢
      exact sa X c w W tk env h1 m1 σ H1 _ (er.keep hr k1) hr1 g1
    | false =>
      simp only [Bool.false_eq_true, if_false] at g1 ⊢
      exact sb X c w W tk env h1 m1 σ H1 _ (er.keep hr k1) hr1 g1
theorem simT_ite {d a b : MP.E} {pd pa pb : Expr} {pos : Pos} (sd : SimT tb N cs Φ G k sc fb d pd) (sa : SimT tb N cs Φ G k sc fb a pa) (sb : SimT tb N cs Φ G k sc fb b pb) : SimT tb N cs Φ G k sc fb (.ite d a b) (.IfExp pd pa pb pos) :=
  fun X c w W tk env hp m σ H Q er hr g => by
    refine (WR.of (pt_ifExp (ptr X pd) (ptr X pa) (ptr X pb)) ?_).tr
    rw [tE_ite] at g
    refine sd X c w W tk env hp m σ H _ er hr (g.bind fun q h1 q' m1 H1 _ k1 hr1 r1 g1 => ?_)
    cases r1
    cases q with
    | true =>
      simp only [if_true] at g1 ⊢
      exact sa X c w W tk env h1 m1 σ H1 _ (er.keep hr k1) hr1 g1
    | false =>
      simp only [Bool.false_eq_true, if_false] at g1 ⊢
      exact sb X c w W tk env h1 m1 σ H1 _ (er.keep hr k1) hr1 g1
theorem simE_idx {a b : MP.E} {pa pb : Expr} {pos : Pos} (hp' : PlainIx pb) (sa : SimE tb N cs Φ G k sc fb a pa) (sb : SimE tb N cs Φ G k sc fb b pb) : SimE tb N cs Φ G k sc fb (.idx a b) (.Subscript pa pb pos) :=
  fun X c w W tk env hp m σ H Q er hr g => by
    refine ER.of (pe_ix (ixV X) (per X pa) (per X pb) hp') ?_
    rw [MP.eE_idx] at g
    refine sa X c w W tk env hp m σ H _ er hr (g.bind fun d1 h1 v1 m1 H1 _ k1 hr1 r1 g1 => ?_)
    refine sb X c w W tk env h1 m1 σ H1 _ (er.keep hr k1) hr1 (g1.bind fun d2 h2 v2 m2 H2 _ k2 hr2 r2 g2 => ?_)
    obtain ⟨d, e, g3⟩ := g2.opt
    exact opI_sound hr2 (r1.keep hr1.mut k2) r2 e fun v r => g3.here hr2 r
/-- a slice's part -/
def OR (X : Cx) (pe : Option Expr) : TO := fun σ H Q => ∀ pins s, Inv X pins σ H s → wpAny (model X.prog X.w) X.A (evalPart pe X.env) (fun u s' => ∃ o H', Inv X pins σ H' s' ∧ IsPart u o ∧ Q o H') X.xe s
theorem por (X : Cx) (pe : Option Expr) : PO X pe (OR X pe) := ⟨fun pins s σ H Q I h => h pins s I⟩
theorem OR.of {X : Cx} {pe : Option Expr} {σ : L2.St} {H : Hp} {t : TO} {Q : Option Int → Hp → Prop} (h : PO X pe t) (q : t σ H Q) : OR X pe σ H Q := fun pins s I => h.run pins s σ H Q I q
def SimO (tb : Tb) (N : List Str) (cs : List Addr) (Φ : Nat → List MP.D → MP.Heap → MP.R MP.D) (G : List MP.D) (k : Nat) (sc : Scope) (fb : Str → Bool) (e : MP.E) (pe : Option Expr) : Prop := ∀ (X : Cx), Cg X N sc fb k → WldX tb cs Φ G k X → ∀ (W : WX), Takes X W → ∀ (env : MP.Env) (h : MP.Heap) (m : Pl) (σ : L2.St) (H : Hp) (Q : Option Int → Hp → Prop),
  EnvR X.K m H env σ → HR X.K m h H → Gd X.K (fun _ _ (o o' : Option Int) => o = o') m H ((MP.eE Φ G e env h).bind fun d h => MP.R.opt h (MP.part d)) Q (Zw cs W σ) → OR X pe σ H Q
theorem simO_none : SimO tb N cs Φ G k sc fb (.con .und) none := fun X c w W tk env h m σ H Q er hr g => OR.of po_none (by rw [MP.eE_con] at g; exact g none m H (.refl _ _) hr rfl)
theorem simO_some {a : MP.E} {pa : Expr} (sa : SimE tb N cs Φ G k sc fb a pa) : SimO tb N cs Φ G k sc fb a (some pa) := fun X c w W tk env h m σ H Q er hr g => by
  refine OR.of (po_some (per X pa)) ?_
  refine sa X c w W tk env h m σ H _ er hr (g.bind fun d1 h1 v1 m1 H1 _ k1 hr1 r1 g1 => ?_)
  obtain ⟨o, q, g2⟩ := g1.opt
  have := g2 o m1 H1 (.refl _ _) hr1 rfl
  unfold MP.part at q
  split at q
  · cases r1
  · cases q; cases r1; exact ⟨_, rfl, this⟩
  · cases q
theorem simE_slc {imm : Bool} {a lo hi : MP.E} {pa : Expr} {pl ph : Option Expr} {p2 pos : Pos} (sa : SimE tb N cs Φ G k sc fb a pa) (sl : SimO tb N cs Φ G k sc fb lo pl) (sh : SimO tb N cs Φ G k sc fb hi ph) : SimE tb N cs Φ G k sc fb (.slc imm a lo hi) (.Subscript pa (.Slice pl ph none p2) pos) :=
  fun X c w W tk env hp m σ H Q er hr g => by
    refine ER.of (pe_slice (slV X) (per X pa) (por X pl) (por X ph)) ?_
    rw [MP.eE_slc] at g
    refine sa X c w W tk env hp m σ H _ er hr (g.bind fun d1 h1 v1 m1 H1 _ k1 hr1 r1 g1 => ?_)
    refine sl X c w W tk env h1 m1 σ H1 _ (er.keep hr k1) hr1 (g1.bind fun l h2 l' m2 H2 _ k2 hr2 e2 g2 => ?_)
    subst e2
    refine sh X c w W tk env h2 m2 σ H2 _ ((er.keep hr k1).keep hr1 k2) hr2 (g2.bind fun u h3 u' m3 H3 _ k3 hr3 e3 g3 => ?_)
    subst e3
    exact opS_sound hr3 ((r1.keep hr1.mut k2).keep hr2.mut k3) g3
theorem simE_rev {imm : Bool} {a : MP.E} {pa : Expr} {kk : Nat} {p1 p2 p3 pos : Pos} (sa : SimE tb N cs Φ G k sc fb a pa) : SimE tb N cs Φ G k sc fb (.rev imm a) (.Subscript pa (.Slice none none (some (.UnaryOp .USub (.Constant (.int 1) kk p1) p2)) p3) pos) :=
  fun X c w W tk env hp m σ H Q er hr g => by
    refine ER.of (pe_rev (per X pa)) ?_
    rw [MP.eE_rev] at g
    refine sa X c w W tk env hp m σ H _ er hr (g.bind fun d1 h1 v1 m1 H1 _ k1 hr1 r1 g1 => ?_)
    unfold MP.opV at g1
    rcases remade_rel hr1 r1 g1 with ⟨a, xs, vs, rfl, rfl, h1, q, g⟩ | ⟨a, xs, vs, rfl, h1, q, g⟩
    · exact .inr ⟨_, _, rfl, h1, fun p hp => new_tup g hr1 q.reverse p hp⟩
    · exact .inl ⟨_, _, rfl, .of h1, (new_lst g hr1 q.reverse).2⟩
theorem simE_call {f : Nat} {x : Str} {es : MP.E} {pe : Expr} {pes : List Expr} {p pos : Pos} (h : tb.fn[f]? = some x) (gl : glB sc x = true) (n : nmB x = true) (ha : TrA tb N sc fb es (pe :: pes)) (sa : SimA tb N cs Φ G k sc fb es (pe :: pes)) :
    SimE tb N cs Φ G k sc fb (.call f es) (.Call (.Name x p) (pe :: pes) [] pos) :=
  fun X c w W tk env hp m σ H Q er hr g => by
    obtain ⟨n1, n2, n3⟩ := nm1 n
    obtain ⟨a, fd, ps, e1, e2, e3, e4, e5⟩ := w.fns f x h
    have hn : starEach (pe :: pes) X.env = (false, eval pe X.env) :: starEach pes X.env := by cases ha with | cons h q => exact h.nostar _ _
    have hpl : (backTo pos (starEach pes X.env)).any (·.1) = false := by cases ha with | cons h q => exact q.noplain _ _
    refine ER.of (pe_callS (E := WE W) e4 c.room (c.gl gl) e1 e2 e3 (passAt tk) (par X _) n1 hn hpl) ?_
    rw [MP.eE_call] at g
    refine sa X c w W tk env hp m σ H _ er hr (gd_args g fun ds h1 vs m1 H1 e k1 hr1 r1 g1 => ?_)
    refine ⟨?_, m1, h1, ds, hr1, r1, g1⟩
    rw [← r1.length]
    exact e5 ds h1 fun z => by
      have : MP.args (MP.D.tup ds) = ds := rfl
      rw [this, z] at g1
      exact g1
theorem simE_blt {f : MP.Blt} {x : Str} {fv : Value} {es : MP.E} {pe : Expr} {pes : List Expr} {p pos : Pos} (h : plainF f = some (x, fv)) (mm : x ∈ tb.bl) (gl : glB sc x = true) (ha : TrA tb N sc fb es (pe :: pes)) (sa : SimA tb N cs Φ G k sc fb es (pe :: pes)) :
    SimE tb N cs Φ G k sc fb (.blt f es) (.Call (.Name x p) (pe :: pes) [] pos) :=
  fun X c w W tk env hp m σ H Q er hr g => by
    obtain ⟨b1, b2, b3⟩ := plainF_spec h
    obtain ⟨n1, n2, n3⟩ := nm1 b2
    have hn : starEach (pe :: pes) X.env = (false, eval pe X.env) :: starEach pes X.env := by cases ha with | cons h q => exact h.nostar _ _
    have hpl : (backTo pos (starEach pes X.env)).any (·.1) = false := by cases ha with | cons h q => exact q.noplain _ _
    rw [MP.eE_blt] at g
    rcases b3 with ⟨id, rfl⟩ | ⟨T, rfl⟩
    · refine ER.of (pe_callB (callV X _) (c.gl gl) (w.blt x mm) b1 (par X _) n3 n1 hn hpl) ?_
      exact sa X c w W tk env hp m σ H _ er hr (gd_args g fun ds h1 vs m1 H1 e k1 hr1 r1 g1 => opF_sound h c.calm c.hu hr1 r1 g1)
    · refine ER.of (pe_callTy (callV X _) (c.gl gl) (w.blt x mm) b1 (par X _) n3 n1 hn hpl) ?_
      exact sa X c w W tk env hp m σ H _ er hr (gd_args g fun ds h1 vs m1 H1 e k1 hr1 r1 g1 => opF_sound h c.calm c.hu hr1 r1 g1)
theorem simE_isi {t : MP.Ty} {a : MP.E} {pa : Expr} {p p2 pos : Pos} (mm : ("isinstance" : Str) ∈ tb.bl) (gl : glB sc "isinstance" = true) (m2 : Str.ofString (tyN t) ∈ tb.bl) (g2 : glB sc (Str.ofString (tyN t)) = true) (hn : ∀ es (env : Env), starEach (pa :: es) env = (false, eval pa env) :: starEach es env)
    (sa : SimE tb N cs Φ G k sc fb a pa) : SimE tb N cs Φ G k sc fb (.blt (.isinst t) (.cons a .nil)) (.Call (.Name "isinstance" p) [pa, .Name (Str.ofString (tyN t)) p2] [] pos) :=
  fun X c w W tk env hp m σ H Q er hr g => by
    obtain ⟨t1, t2⟩ := tyN_spec t
    obtain ⟨n1, n2, n3⟩ := nm1 t2
    have pt : PE X (.Name (Str.ofString (tyN t)) p2) (tC (.ty (tyN t))) := pe_bltn (c.gl g2) (w.blt _ m2) t1 rfl n3 n1
    refine ER.of (pe_callB (x := "isinstance") (id := "isinstance") (callV X _) (c.gl gl) (w.blt _ mm) (by decide +kernel) (pa_cons (per X pa) (pa_cons pt pa_nil) (hn _ _)) (by decide) (by decide) (hn _ _) rfl) ?_
    rw [MP.eE_blt, MP.eE_cons] at g
    have e0 : ∀ {α : Type} (r : MP.R α) (f : α → MP.Heap → MP.R MP.D) (q : MP.D → MP.Heap → MP.R MP.D), (r.bind f).bind q = r.bind fun x h => (f x h).bind q := fun r f q => by cases r <;> rfl
    rw [e0] at g
    refine sa X c w W tk env hp m σ H _ er hr (g.bind fun d1 h1 v1 m1 H1 _ k1 hr1 r1 g1 => ?_)
    exact isinst_sound hr1 r1 g1
theorem listR1 {imm : Bool} {d : MP.D} {h : MP.Heap} : MP.opF (.listR imm) [d] h = (match d with | .int b => if MP.big62 b && decide (b ≤ 4096) then MP.newL imm ((MP.rangeI 0 b).map .int) h else .bad | _ => .bad) := by
  cases d <;> rfl
theorem listR2 {imm : Bool} {d e : MP.D} {h : MP.Heap} : MP.opF (.listR imm) [d, e] h = (match d, e with | .int a, .int b => if MP.big62 a && MP.big62 b && decide (b - a ≤ 4096) then MP.newL imm ((MP.rangeI a b).map .int) h else .bad | _, _ => .bad) := by
  cases d <;> cases e <;> rfl
theorem rgV_eq (a b : Int) : (MP.rangeI a b).map V.int = rgV a b := by
  unfold MP.rangeI rgV
  rw [List.map_map]
  rfl
theorem simE_lrg1 {imm : Bool} {a : MP.E} {pa : Expr} {p p2 p3 pos : Pos} (mm : ("list" : Str) ∈ tb.bl) (gl : glB sc "list" = true) (m2 : ("range" : Str) ∈ tb.bl) (g2 : glB sc "range" = true) (hn : ∀ es (env : Env), starEach (pa :: es) env = (false, eval pa env) :: starEach es env)
    (sa : SimE tb N cs Φ G k sc fb a pa) : SimE tb N cs Φ G k sc fb (.blt (.listR imm) (.cons a .nil)) (.Call (.Name "list" p) [.Call (.Name "range" p2) [pa] [] p3] [] pos) :=
  fun X c w W tk env hp m σ H Q er hr g => by
    refine ER.of (pe_listRg c.calm (c.gl gl) (w.blt _ mm) (prg_1 (c.gl g2) (w.blt _ m2) (per X pa) (hn _ _)) rfl) ?_
    rw [MP.eE_blt, MP.eE_cons] at g
    have e0 : ∀ {α : Type} (r : MP.R α) (f : α → MP.Heap → MP.R MP.D) (q : MP.D → MP.Heap → MP.R MP.D), (r.bind f).bind q = r.bind fun x h => (f x h).bind q := fun r f q => by cases r <;> rfl
    rw [e0] at g
    refine sa X c w W tk env hp m σ H _ er hr (g.bind fun d1 h1 v1 m1 H1 _ k1 hr1 r1 g1 => ?_)
    have g3 : Gd X.K (Rel X.K) m1 H1 (MP.opF (.listR imm) [d1] h1) Q (Zw cs W σ) := g1
    rw [listR1] at g3
    cases d1 with
    | int b =>
      dsimp only at g3
      split at g3
      · rename_i hb
        cases r1
        simp only [MP.big62, Bool.and_eq_true, decide_eq_true_eq] at hb
        refine ⟨_, rfl, ⟨by decide, by decide, by omega, by omega, ?_⟩, ?_⟩
        · have : (b - 0).toNat ≤ 4096 := by omega
          exact Nat.le_trans this (by decide)
        · rw [← rgV_eq]; exact (new_lst g3 hr1 (rels_ints _)).2
      · exact g3.elim
    | _ => exact g3.elim
theorem simE_lrg2 {imm : Bool} {a b : MP.E} {pa pb : Expr} {p p2 p3 pos : Pos} (mm : ("list" : Str) ∈ tb.bl) (gl : glB sc "list" = true) (m2 : ("range" : Str) ∈ tb.bl) (g2 : glB sc "range" = true) (hn : ∀ es (env : Env), starEach (pa :: es) env = (false, eval pa env) :: starEach es env) (hn2 : ∀ es (env : Env), starEach (pb :: es) env = (false, eval pb env) :: starEach es env)
    (sa : SimE tb N cs Φ G k sc fb a pa) (sb : SimE tb N cs Φ G k sc fb b pb) : SimE tb N cs Φ G k sc fb (.blt (.listR imm) (.cons a (.cons b .nil))) (.Call (.Name "list" p) [.Call (.Name "range" p2) [pa, pb] [] p3] [] pos) :=
  fun X c w W tk env hp m σ H Q er hr g => by
    refine ER.of (pe_listRg c.calm (c.gl gl) (w.blt _ mm) (prg_2 (c.gl g2) (w.blt _ m2) (per X pa) (per X pb) (hn _ _) (hn2 _ _) (by rw [hn2]; rfl)) rfl) ?_
    rw [MP.eE_blt, MP.eE_cons] at g
    have e0 : ∀ (r : MP.R MP.D) (f : MP.D → MP.Heap → MP.R MP.D) (q : MP.D → MP.Heap → MP.R MP.D), (r.bind f).bind q = r.bind fun x h => (f x h).bind q := fun r f q => by cases r <;> rfl
    rw [e0] at g
    refine sa X c w W tk env hp m σ H _ er hr (g.bind fun d1 h1 v1 m1 H1 _ k1 hr1 r1 g1 => ?_)
    rw [MP.eE_cons, e0, e0] at g1
    refine sb X c w W tk env h1 m1 σ H1 _ (er.keep hr k1) hr1 (g1.bind fun d2 h2 v2 m2 H2 _ k2 hr2 r2 g2' => ?_)
    have g3 : Gd X.K (Rel X.K) m2 H2 (MP.opF (.listR imm) [d1, d2] h2) Q (Zw cs W σ) := g2'
    rw [listR2] at g3
    cases d1 with
    | int a =>
      cases d2 with
      | int b =>
        dsimp only at g3
        split at g3
        · rename_i hb
          cases r1; cases r2
          simp only [MP.big62, Bool.and_eq_true, decide_eq_true_eq] at hb
          refine ⟨_, _, rfl, rfl, ⟨by omega, by omega, by omega, by omega, ?_⟩, ?_⟩
          · have : (b - a).toNat ≤ 4096 := by omega
            exact Nat.le_trans this (by decide)
          · rw [← rgV_eq]; exact (new_lst g3 hr2 (rels_ints _)).2
        · exact g3.elim
      | _ => exact g3.elim
    | _ => exact g3.elim
theorem isL_ty {K : PySem.W.Frag} {m : Pl} {H : Hp} {h : MP.Heap} {d : MP.D} {v : V} (hr : HR K m h H) (r : Rel K m H d v) (e : MP.isL h d = some ()) : tyV K "list" v H := by
  unfold MP.isL at e
  split at e
  · split at e
    · rename_i e1
      cases r with
      | ref h1 =>
      obtain ⟨a, us, e2, e3, q⟩ := hr.lst e1
      rw [h1] at e2; cases e2
      exact .inl ⟨rfl, _, .of e3⟩
    · cases e
  · cases e
theorem simE_mth {f : MP.Mth} {o es : MP.E} {po pe : Expr} {pes : List Expr} {apos pos : Pos} (hb : ∀ (x : Str) (env : Env) (w : Sem Value), attributeBase po x env w = w) (hl : (apos.endLine == pos.line) = true) (hlen : decide ((pe :: pes).length < 30) = true)
    (ha : TrA tb N sc fb es (pe :: pes)) (so : SimE tb N cs Φ G k sc fb o po) (sa : SimA tb N cs Φ G k sc fb es (pe :: pes)) : SimE tb N cs Φ G k sc fb (.mth f o es) (.Call (.Attribute po (mtN f) apos) (pe :: pes) [] pos) :=
  fun X c w W tk env hp m σ H Q er hr g => by
    have hn : starEach (pe :: pes) X.env = (false, eval pe X.env) :: starEach pes X.env := by cases ha with | cons h q => exact h.nostar _ _
    have hpl : (backTo pos (starEach pes X.env)).any (·.1) = false := by cases ha with | cons h q => exact q.noplain _ _
    have hfew : ((backTo pos (starEach (pe :: pes) X.env)).all (fun x => !x.1) && (backToKw pos (keywordEach [] X.env)).all (fun x => x.1.isSome)
      && decide ((pe :: pes).length + ([] : List Keyword).length + (if ([] : List Keyword).isEmpty then 0 else 1) < 30)) = true := by
      rw [ha.stars, Bool.true_and, Bool.and_eq_true]
      exact ⟨rfl, by simpa using hlen⟩
    refine ER.of (pe_bm PySem.F.plainAttrs_list (mt_slot f) (mt_type f) (mtV X _) (per X po) (par X _) (hb _ _ _) hfew hl hn hpl) ?_
    rw [MP.eE_mth] at g
    refine so X c w W tk env hp m σ H _ er hr (g.bind fun d1 h1 v1 m1 H1 _ k1 hr1 r1 g1 => ?_)
    obtain ⟨u, e, g2⟩ := g1.optBind
    refine ⟨isL_ty hr1 r1 e, sa X c w W tk env h1 m1 σ H1 _ (er.keep hr k1) hr1 (gd_args g2 fun ds h2 vs m2 H2 _ k2 hr2 r2 g3 => ?_)⟩
    exact (opM_sound hr2 (r1.keep hr1.mut k2) r2 g3).2
theorem simE_mth0 {f : MP.Mth} {o : MP.E} {po : Expr} {apos pos : Pos} (hb : ∀ (x : Str) (env : Env) (w : Sem Value), attributeBase po x env w = w) (hl : (apos.endLine == pos.line) = true)
    (so : SimE tb N cs Φ G k sc fb o po) : SimE tb N cs Φ G k sc fb (.mth f o .nil) (.Call (.Attribute po (mtN f) apos) [] [] pos) :=
  fun X c w W tk env hp m σ H Q er hr g => by
    refine ER.of (pe_bm0 PySem.F.plainAttrs_list (mt_slot f) (mt_type f) (mtV X _) (per X po) (hb _ _ _) hl) ?_
    rw [MP.eE_mth] at g
    refine so X c w W tk env hp m σ H _ er hr (g.bind fun d1 h1 v1 m1 H1 _ k1 hr1 r1 g1 => ?_)
    obtain ⟨u, e, g2⟩ := g1.optBind
    exact opM_sound hr1 r1 .nil g2
end
end MPS
namespace MPS
open PySem PySem.Spec PyProof.Rows L2 PySem.W
/-! ### what is walked: a list or a tuple, told by its value -/
def iAny (K : PySem.W.Frag) (tl : TE) : TI := fun σ H R => tl σ H fun x H1 => ∃ a, x = .ref a ∧ (((∃ xs, SqL K H1 a xs) ∧ R (Itl K a) H1) ∨ ((∃ xs, SqT K H1 a xs) ∧ R (Itt K a) H1))
theorem pi_any {X : Cx} {tg l : Expr} {tl : TE} (hl : PE X l tl) : PI X tg l (iAny X.K tl) := by
  refine ⟨fun pins s σ H R I h => ?_⟩
  refine thn (hl.run pins s σ H _ I h) fun v s1 ⟨x, H1, I1, r1, q1⟩ => ?_
  obtain ⟨a, e, q1⟩ := q1
  subst e
  cases r1
  rcases q1 with ⟨⟨xs, hq⟩, q⟩ | ⟨⟨xs, hq⟩, q⟩
  · obtain ⟨its, rv, p, hz⟩ := I1.list hq
    refine wpAny_pyIter_list p.isList ?_
    refine ⟨s1.heap.objs.size, [s1.heap.objs.size], _, _, H1, rfl, I1.kept (t' := s1.toks) fun b o e => Heap.get?_push_of_some _ e, turn_list a _, ⟨_, Heap.get?_push_size _ rfl, rfl, rfl⟩, fun b hb => ?_, q⟩
    have e : b = s1.heap.objs.size := by simpa using hb
    subst e
    exact I1.fpOk (Nat.le_refl _) (I1.hok.fresh (Nat.le_refl _))
  · obtain ⟨its, rv, p, hz⟩ := I1.tuple hq
    refine wpAny_pyIter_tuple (show s1.heap.IsTuple a its.toArray from p) ?_
    refine ⟨s1.heap.objs.size, [s1.heap.objs.size], _, _, H1, rfl, I1.kept (t' := s1.toks) fun b o e => Heap.get?_push_of_some _ e, turn_tuple a _, ⟨_, Heap.get?_push_size _ rfl, rfl, rfl⟩, fun b hb => ?_, q⟩
    have e : b = s1.heap.objs.size := by simpa using hb
    subst e
    exact I1.fpOk (Nat.le_refl _) (I1.hok.fresh (Nat.le_refl _))
def IR (X : Cx) (tg iter : Expr) : TI := fun σ H R => ∀ pins s, Inv X pins σ H s → wpAny (model X.prog X.w) X.A (eval iter X.env) (fun v s1 => wpAny (model X.prog X.w) X.A (pyIter v) (PIE X pins σ tg R) X.xe s1) X.xe s
theorem pir (X : Cx) (tg iter : Expr) : PI X tg iter (IR X tg iter) := ⟨fun pins s σ H R I h => h pins s I⟩
theorem IR.of {X : Cx} {tg iter : Expr} {σ : L2.St} {H : Hp} {t : TI} {R : It → Hp → Prop} (h : PI X tg iter t) (q : t σ H R) : IR X tg iter σ H R := fun pins s I => h.run pins s σ H R I q
def relI (K : PySem.W.Frag) : Pl → Hp → (List MP.D × MP.Gd) → It → Prop := fun m H p J => Wk K J p.1 p.2 m H
/-- what is walked, as a result -/
def iE (Φ : Nat → List MP.D → MP.Heap → MP.R MP.D) (G : List MP.D) (k : MP.ItK) (ia : MP.E) (env : MP.Env) (h : MP.Heap) : MP.R (List MP.D × MP.Gd) := (MP.eE Φ G ia env h).bind fun ds h1 => MP.R.opt h1 (MP.iterOf k (MP.args ds) h1)
def SimI (tb : Tb) (N : List Str) (cs : List Addr) (Φ : Nat → List MP.D → MP.Heap → MP.R MP.D) (G : List MP.D) (k : Nat) (sc : Scope) (fb : Str → Bool) (ik : MP.ItK) (ia : MP.E) (tg pi : Expr) : Prop := ∀ (X : Cx), Cg X N sc fb k → WldX tb cs Φ G k X → ∀ (W : WX), Takes X W → ∀ (env : MP.Env) (h : MP.Heap) (m : Pl) (σ : L2.St) (H : Hp) (R : It → Hp → Prop),
  EnvR X.K m H env σ → HR X.K m h H → Gd X.K (relI X.K) m H (iE Φ G ik ia env h) R (Zw cs W σ) → IR X tg pi σ H R
section
variable {tb : Tb} {N : List Str} {cs : List Addr} {Φ : Nat → List MP.D → MP.Heap → MP.R MP.D} {G : List MP.D} {k : Nat}
variable {sc : Scope} {fb : Str → Bool}
theorem bind_assoc {α β γ : Type} (r : MP.R α) (f : α → MP.Heap → MP.R β) (q : β → MP.Heap → MP.R γ) : (r.bind f).bind q = r.bind fun x h => (f x h).bind q := by cases r <;> rfl
theorem simI_gen {a : MP.E} {pa tg : Expr} (sa : SimE tb N cs Φ G k sc fb a pa) : SimI tb N cs Φ G k sc fb .gen (.cons a .nil) tg pa :=
  fun X c w W tk env hp m σ H R er hr g => by
    refine IR.of (pi_any (per X pa)) ?_
    unfold iE at g
    rw [MP.eE_cons, bind_assoc] at g
    refine sa X c w W tk env hp m σ H _ er hr (g.bind fun d1 h1 v1 m1 H1 _ k1 hr1 r1 g1 => ?_)
    have g2 : Gd X.K (relI X.K) m1 H1 (MP.R.opt h1 (MP.iterOf .gen [d1] h1)) R (Zw cs W σ) := g1
    obtain ⟨p, e, g3⟩ := g2.opt
    have e : (MP.items h1 d1).map (fun xs => (xs, MP.gdOf h1 d1)) = some p := e
    have e' := Option.map_eq_some_iff.mp e
    obtain ⟨xs, e9, rfl⟩ := e'
    rcases seq_later hr1 r1 e9 with ⟨a, rfl, q, L⟩ | ⟨a, rfl, q, L⟩
    · exact ⟨a, rfl, .inl ⟨q, g3 _ m1 H1 (.refl _ _) hr1 (wk_list L)⟩⟩
    · exact ⟨a, rfl, .inr ⟨q, g3 _ m1 H1 (.refl _ _) hr1 (wk_tup L)⟩⟩
theorem iter_rng {ds : List MP.D} {h : MP.Heap} {p : List MP.D × MP.Gd} (e : MP.iterOf .rng ds h = some p) : (∃ b, ds = [.int b] ∧ MP.big62 b = true ∧ p = ((MP.rangeI 0 b).map .int, [])) ∨ ∃ a b, ds = [.int a, .int b] ∧ MP.big62 a = true ∧ MP.big62 b = true ∧ p = ((MP.rangeI a b).map .int, []) := by
  unfold MP.iterOf at e
  split at e <;> try contradiction
  · split at e
    · rename_i hb; cases e; exact .inl ⟨_, rfl, hb, rfl⟩
    · cases e
  · split at e
    · rename_i hb
      rw [Bool.and_eq_true] at hb
      cases e
      exact .inr ⟨_, _, rfl, hb.1, hb.2, rfl⟩
    · cases e
theorem simI_rng1 {a : MP.E} {pa tg : Expr} {p pos : Pos} (mm : ("range" : Str) ∈ tb.bl) (gl : glB sc "range" = true) (hn : ∀ es (env : Env), starEach (pa :: es) env = (false, eval pa env) :: starEach es env) (sa : SimE tb N cs Φ G k sc fb a pa) : SimI tb N cs Φ G k sc fb .rng (.cons a .nil) tg (.Call (.Name "range" p) [pa] [] pos) :=
  fun X c w W tk env hp m σ H R er hr g => by
    refine IR.of (pi_range1 (c.gl gl) (w.blt _ mm) (pa_cons (per X pa) pa_nil (hn _ _)) (hn _ _)) ?_
    unfold iE at g
    rw [MP.eE_cons, bind_assoc] at g
    refine sa X c w W tk env hp m σ H _ er hr (g.bind fun d1 h1 v1 m1 H1 _ k1 hr1 r1 g1 => ?_)
    have g2 : Gd X.K (relI X.K) m1 H1 (MP.R.opt h1 (MP.iterOf .rng [d1] h1)) R (Zw cs W σ) := g1
    obtain ⟨q, e, g3⟩ := g2.opt
    rcases iter_rng e with ⟨b, e1, hb, rfl⟩ | ⟨a, b, e1, _⟩
    · cases e1
      cases r1
      simp only [MP.big62, Bool.and_eq_true, decide_eq_true_eq] at hb
      refine ⟨b, rfl, by omega, by omega, g3 _ m1 H1 (.refl _ _) hr1 ?_⟩
      have := wk_range (K := X.K) (m0 := m1) (H0 := H1) (a := 0) (b := b)
      rw [Int.sub_zero] at this
      exact this
    · cases e1
theorem simI_rng2 {a b : MP.E} {pa pb tg : Expr} {p pos : Pos} (mm : ("range" : Str) ∈ tb.bl) (gl : glB sc "range" = true) (hn : ∀ es (env : Env), starEach (pa :: es) env = (false, eval pa env) :: starEach es env) (hn2 : ∀ es (env : Env), starEach (pb :: es) env = (false, eval pb env) :: starEach es env)
    (sa : SimE tb N cs Φ G k sc fb a pa) (sb : SimE tb N cs Φ G k sc fb b pb) : SimI tb N cs Φ G k sc fb .rng (.cons a (.cons b .nil)) tg (.Call (.Name "range" p) [pa, pb] [] pos) :=
  fun X c w W tk env hp m σ H R er hr g => by
    refine IR.of (pi_range2 (c.gl gl) (w.blt _ mm) (pa_cons (per X pa) (pa_cons (per X pb) pa_nil (hn2 _ _)) (hn _ _)) (by rw [hn, hn2]; rfl) (hn2 _ _)) ?_
    unfold iE at g
    rw [MP.eE_cons, bind_assoc] at g
    refine sa X c w W tk env hp m σ H _ er hr (g.bind fun d1 h1 v1 m1 H1 _ k1 hr1 r1 g1 => ?_)
    rw [MP.eE_cons, bind_assoc, bind_assoc] at g1
    refine sb X c w W tk env h1 m1 σ H1 _ (er.keep hr k1) hr1 (g1.bind fun d2 h2 v2 m2 H2 _ k2 hr2 r2 g1' => ?_)
    have g2 : Gd X.K (relI X.K) m2 H2 (MP.R.opt h2 (MP.iterOf .rng [d1, d2] h2)) R (Zw cs W σ) := g1'
    obtain ⟨q, e, g3⟩ := g2.opt
    rcases iter_rng e with ⟨b, e1, _⟩ | ⟨a, b, e1, ha, hb, rfl⟩
    · cases e1
    · cases e1
      cases r1; cases r2
      simp only [MP.big62, Bool.and_eq_true, decide_eq_true_eq] at ha hb
      exact ⟨a, b, rfl, ⟨by omega, by omega, by omega, by omega⟩, g3 _ m2 H2 (.refl _ _) hr2 wk_range⟩
theorem simI_enum {a : MP.E} {pa : Expr} {ts : List Expr} {kk : Nat} {tp p pos : Pos} (mm : ("enumerate" : Str) ∈ tb.bl) (gl : glB sc "enumerate" = true) (hn : ∀ es (env : Env), starEach (pa :: es) env = (false, eval pa env) :: starEach es env) (sa : SimE tb N cs Φ G k sc fb a pa) :
    SimI tb N cs Φ G k sc fb .enum (.cons a .nil) (.Tuple ts kk tp) (.Call (.Name "enumerate" p) [pa] [] pos) :=
  fun X c w W tk env hp m σ H R er hr g => by
    refine IR.of (pi_enum (c.gl gl) (w.blt _ mm) (pa_cons (per X pa) pa_nil (hn _ _)) (hn _ _)) ?_
    unfold iE at g
    rw [MP.eE_cons, bind_assoc] at g
    refine sa X c w W tk env hp m σ H _ er hr (g.bind fun d1 h1 v1 m1 H1 _ k1 hr1 r1 g1 => ?_)
    have g2 : Gd X.K (relI X.K) m1 H1 (MP.R.opt h1 (MP.iterOf .enum [d1] h1)) R (Zw cs W σ) := g1
    obtain ⟨q, e, g3⟩ := g2.opt
    have e : (MP.rlist h1 d1).map (fun xs => (MP.enumD 0 xs, MP.gdOf h1 d1)) = some q := e
    have e' := Option.map_eq_some_iff.mp e
    obtain ⟨xs, e9, rfl⟩ := e'
    obtain ⟨a, rfl, ⟨vs, q⟩, L⟩ := list_later hr1 r1 e9
    exact ⟨a, vs, rfl, q, g3 _ m1 H1 (.refl _ _) hr1 (wk_enum L)⟩
theorem gdOk_append {h : MP.Heap} {g g' : MP.Gd} : MP.gdOk h (g ++ g') = (MP.gdOk h g && MP.gdOk h g') := by unfold MP.gdOk; rw [List.all_append]
theorem iter_zip {d e : MP.D} {h : MP.Heap} {p : List MP.D × MP.Gd} (q : MP.iterOf .zip [d, e] h = some p) : (∃ xs ys, d = .tup xs ∧ e = .tup ys ∧ p = (MP.zipD xs ys, [])) ∨ ∃ xs ys, MP.rlist h d = some xs ∧ MP.rlist h e = some ys ∧ p = (MP.zipD xs ys, MP.gdOf h d ++ MP.gdOf h e) := by
  have gen : (MP.rlist h d).bind (fun xs => (MP.rlist h e).map fun ys => (MP.zipD xs ys, MP.gdOf h d ++ MP.gdOf h e)) = some p → ∃ xs ys, MP.rlist h d = some xs ∧ MP.rlist h e = some ys ∧ p = (MP.zipD xs ys, MP.gdOf h d ++ MP.gdOf h e) := fun q => by
    simp only [Option.bind_eq_some_iff, Option.map_eq_some_iff] at q
    obtain ⟨xs, e1, ys, e2, rfl⟩ := q
    exact ⟨xs, ys, e1, e2, rfl⟩
  cases d <;> cases e <;> first
    | exact .inr (gen q)
    | (cases q; exact .inl ⟨_, _, rfl, rfl, rfl⟩)
theorem simI_zip {a b : MP.E} {pa pb : Expr} {ts : List Expr} {kk : Nat} {tp p pos : Pos} (mm : ("zip" : Str) ∈ tb.bl) (gl : glB sc "zip" = true) (hn : ∀ es (env : Env), starEach (pa :: es) env = (false, eval pa env) :: starEach es env) (hn2 : ∀ es (env : Env), starEach (pb :: es) env = (false, eval pb env) :: starEach es env)
    (sa : SimE tb N cs Φ G k sc fb a pa) (sb : SimE tb N cs Φ G k sc fb b pb) : SimI tb N cs Φ G k sc fb .zip (.cons a (.cons b .nil)) (.Tuple ts kk tp) (.Call (.Name "zip" p) [pa, pb] [] pos) :=
  fun X c w W tk env hp m σ H R er hr g => by
    refine IR.of (RZ.pi_zipA (c.gl gl) (w.blt _ mm) (pa_cons (per X pa) (pa_cons (per X pb) pa_nil (hn2 _ _)) (hn _ _)) (hn _ _) (by rw [hn2]; rfl)) ?_
    unfold iE at g
    rw [MP.eE_cons, bind_assoc] at g
    refine sa X c w W tk env hp m σ H _ er hr (g.bind fun d1 h1 v1 m1 H1 _ k1 hr1 r1 g1 => ?_)
    rw [MP.eE_cons, bind_assoc, bind_assoc] at g1
    refine sb X c w W tk env h1 m1 σ H1 _ (er.keep hr k1) hr1 (g1.bind fun d2 h2 v2 m2 H2 _ k2 hr2 r2 g1' => ?_)
    have g2 : Gd X.K (relI X.K) m2 H2 (MP.R.opt h2 (MP.iterOf .zip [d1, d2] h2)) R (Zw cs W σ) := g1'
    obtain ⟨q, e, g3⟩ := g2.opt
    have r1' := r1.keep hr1.mut k2
    rcases iter_zip e with ⟨xs, ys, rfl, rfl, rfl⟩ | ⟨xs, ys, e1, e2, rfl⟩
    · cases r1' with
      | tup q1 r3 =>
      cases r2 with
      | tup q2 r4 =>
      exact ⟨_, _, _, _, rfl, .inr ⟨q1, q2, g3 _ m2 H2 (.refl _ _) hr2 (wk_zipT fun m h H k hr => ⟨⟨_, SqT.keepW hr2.mut k q1, r3.keepW hr2.mut k⟩, ⟨_, SqT.keepW hr2.mut k q2, r4.keepW hr2.mut k⟩⟩)⟩⟩
    · obtain ⟨a, rfl, ⟨vs, q1⟩, L1⟩ := list_later hr2 r1' e1
      obtain ⟨b, rfl, ⟨us, q2⟩, L2⟩ := list_later hr2 r2 e2
      refine ⟨_, _, _, _, rfl, .inl ⟨q1, q2, g3 _ m2 H2 (.refl _ _) hr2 (wk_zip fun m h H k hr hg => ?_)⟩⟩
      rw [gdOk_append, Bool.and_eq_true] at hg
      exact ⟨L1 m h H k hr hg.1, L2 m h H k hr hg.2⟩
/-- what is walked, from its parts -/
theorem simI {ik : MP.ItK} {ia : MP.E} {tg pi : Expr} (ih : ∀ a, sizeOf a < sizeOf ia → ∀ pe, TrE tb N sc fb a pe → SimE tb N cs Φ G k sc fb a pe) (h : TrI tb N sc fb ik ia tg pi) : SimI tb N cs Φ G k sc fb ik ia tg pi := by
  cases h with
  | gen h => exact simI_gen (ih _ (by simp; omega) _ h)
  | rng mm gl h hl =>
    cases h with
    | nil => simp at hl
    | cons h q =>
    cases q with
    | nil => exact simI_rng1 mm gl (h.nostar) (ih _ (by simp; omega) _ h)
    | cons h2 q =>
    cases q with
    | nil => exact simI_rng2 mm gl h.nostar h2.nostar (ih _ (by simp; omega) _ h) (ih _ (by simp; omega) _ h2)
    | cons h3 q => simp at hl
  | enum mm gl h => exact simI_enum mm gl h.nostar (ih _ (by simp; omega) _ h)
  | zip mm gl h q => exact simI_zip mm gl h.nostar q.nostar (ih _ (by simp; omega) _ h) (ih _ (by simp; omega) _ q)
end
end MPS
namespace MPS
open PySem PySem.Spec PyProof.Rows L2 PySem.W
/-! ### targets of names -/
mutual
def gOf (K : PySem.W.Frag) : MP.E → TG
  | .var i => gName i
  | .tup es => gTup K (MP.elen es) (gsOf K es)
  | _ => fun _ _ _ _ => False
def gsOf (K : PySem.W.Frag) : MP.E → TGs
  | .nil => gNil
  | .cons a r => gCons (gOf K a) (gsOf K r)
  | _ => fun _ _ _ _ => False
end
section
variable {N : List Str} {sc : Scope} {fb : Str → Bool} {k : Nat} {X : Cx}
theorem TrT.each {e : MP.E} {pe : Expr} (h : TrT N sc fb e pe) (es : List Expr) (env : Env) : assignEach (pe :: es) env = (false, assign pe env) :: assignEach es env := by cases h <;> rfl
theorem TrTs.len : ∀ {e : MP.E} {pes : List Expr}, TrTs N sc fb e pes → ∀ env, (assignEach pes env).length = MP.elen e ∧ (assignEach pes env).findIdx? (·.1) = none
  | _, _, .nil, _ => ⟨rfl, rfl⟩
  | _, _, .cons h q, env => by
    rw [h.each]
    obtain ⟨h1, h2⟩ := TrTs.len q env
    exact ⟨by simp [h1, MP.elen], by rw [List.findIdx?_cons]; simp [h2]⟩
theorem loc_of {x : Str} (h : locB sc x = true) : Loc sc x := by
  unfold locB at h
  split at h
  · rename_i e; exact .inl e
  · rename_i e; exact .inr e
  · cases h
mutual
theorem pgOf (c : Cg X N sc fb k) : ∀ {tg : MP.E} {ptg : Expr}, TrT N sc fb tg ptg → PG X ptg (gOf X.K tg)
  | _, _, .var h l f => pg_name (by rw [c.nn]; exact c.nd) (by rw [c.nn]; exact h) (by rw [c.sc]; exact loc_of l) (by rw [c.fb, c.sc]; exact f)
  | _, _, .tup h => pg_tup c.calm (pgsOf c h) (h.len _).1 (h.len _).2
theorem pgsOf (c : Cg X N sc fb k) : ∀ {tg : MP.E} {pts : List Expr}, TrTs N sc fb tg pts → PGs X pts (gsOf X.K tg)
  | _, _, .nil => pgs_nil
  | _, _, .cons h q => pgs_cons (pgOf c h) (pgsOf c q) (by rw [h.each]; rfl)
end
end
/-- outside S nothing has changed -/
def Out (S : List Nat) (σ σ' : L2.St) : Prop := σ'.length = σ.length ∧ ∀ j, j ∉ S → σ'[j]? = σ[j]?
theorem Out.refl (S : List Nat) (σ : L2.St) : Out S σ σ := ⟨rfl, fun _ _ => rfl⟩
theorem wipe_ext {σ σ' : L2.St} (S : List Nat) (h : Out S σ σ') : wipe σ' S = wipe σ S := by
  apply List.ext_getElem?
  intro j
  by_cases hj : j ∈ S
  · have : ∀ (τ : L2.St) (T : List Nat), j ∈ T → (wipe τ T)[j]? = if j < τ.length then some none else none := fun τ T => by
      induction T with
      | nil => intro h; cases h
      | cons v vs ih =>
        intro h
        unfold wipe
        by_cases hv : v = j
        · subst hv
          by_cases hl : v < τ.length
          · rw [List.getElem?_set_self (by rw [wipe_length]; exact hl), if_pos hl]
          · rw [List.getElem?_eq_none (by rw [List.length_set, wipe_length]; omega), if_neg hl]
        · rw [List.getElem?_set_ne hv]
          exact ih ((List.mem_cons.mp h).resolve_left (Ne.symm hv))
    rw [this _ _ hj, this _ _ hj, h.1]
  · rw [wipe_out hj, wipe_out hj, h.2 j hj]
theorem Out.wipe (S : List Nat) (σ : L2.St) : Out S σ (wipe σ S) := ⟨wipe_length _ _, fun j hj => wipe_out hj⟩
theorem Out.trans {S : List Nat} {a b c : L2.St} (h : Out S a b) (g : Out S b c) : Out S a c := ⟨g.1.trans h.1, fun j hj => (g.2 j hj).trans (h.2 j hj)⟩
theorem Out.mono {S T : List Nat} {a b : L2.St} (h : Out S a b) (st : ∀ i ∈ S, i ∈ T) : Out T a b := ⟨h.1, fun j hj => h.2 j fun z => hj (st j z)⟩
section
variable {K : PySem.W.Frag} {m m' : Pl} {H H' : Hp} {h h' : MP.Heap}
theorem EnvR.clr {env : MP.Env} {σ : L2.St} (e : EnvR K m H env σ) : ∀ S : List Nat, EnvR K m H (MP.clr env S) (wipe σ S)
  | [] => e
  | v :: vs => by
    have ih := EnvR.clr e vs
    refine ⟨by simp [MP.clr, L2.wipe, ih.1], fun j d e1 e2 => ?_⟩
    unfold MP.clr at e1
    unfold L2.wipe
    by_cases hj : v = j
    · subst hj
      by_cases hl : v < (MP.clr env vs).length
      · rw [List.getElem?_set_self hl] at e1; cases e1; exact absurd rfl e2
      · rw [List.getElem?_eq_none (by rw [List.length_set]; omega)] at e1; cases e1
    · rw [List.getElem?_set_ne hj] at e1 ⊢
      exact ih.2 j d e1 e2
mutual
theorem bind_ok : ∀ {tg : MP.E} {d : MP.D} {v : V} {env env' : MP.Env} {σ : L2.St} {Q : L2.St → Hp → Prop}, EnvR K m H env σ → Rel K m H d v → MP.bindT tg d env = some env' → (∀ σ', EnvR K m H env' σ' → Out (MP.tgI tg) σ σ' → Q σ' H) → gOf K tg v σ H Q
  | .var i, d, v, env, env', σ, Q, er, r, e, q => by
    unfold MP.bindT at e
    split at e
    · rename_i hi
      cases e
      refine q _ (er.set r hi) ⟨List.length_set, fun j hj => ?_⟩
      rw [List.getElem?_set_ne]
      intro z; exact hj (by simp [MP.tgI, z])
    · cases e
  | .tup es, .tup ds, v, env, env', σ, Q, er, r, e, q => by
    cases r with
    | tup h1 r =>
    unfold MP.bindT at e
    have := binds_ok er r e q
    exact ⟨_, _, rfl, h1, this.1, this.2⟩
theorem binds_ok : ∀ {tg : MP.E} {ds : List MP.D} {vs : List V} {env env' : MP.Env} {σ : L2.St} {Q : L2.St → Hp → Prop}, EnvR K m H env σ → Rels K m H ds vs → MP.bindTs tg ds env = some env' → (∀ σ', EnvR K m H env' σ' → Out (MP.tgI tg) σ σ' → Q σ' H) → vs.length = MP.elen tg ∧ gsOf K tg vs σ H Q
  | .nil, [], _, env, env', σ, Q, er, .nil, e, q => by
    unfold MP.bindTs at e; cases e
    exact ⟨rfl, rfl, q σ er (.refl _ _)⟩
  | .cons a r, d :: ds, _ :: vs, env, env', σ, Q, er, .cons r1 r2, e, q => by
    unfold MP.bindTs at e
    rw [Option.bind_eq_some_iff] at e
    obtain ⟨env1, e1, e2⟩ := e
    have hl : vs.length = MP.elen r := by
      have : ∀ {tg : MP.E} {ds : List MP.D} {env env' : MP.Env}, MP.bindTs tg ds env = some env' → ds.length = MP.elen tg := by
        intro tg
        induction tg with
        | nil => intro ds env env' e; cases ds with | nil => rfl | cons _ _ => simp [MP.bindTs] at e
        | cons a r iha ihr =>
          intro ds env env' e
          cases ds with
          | nil => simp [MP.bindTs] at e
          | cons d ds =>
            unfold MP.bindTs at e
            rw [Option.bind_eq_some_iff] at e
            obtain ⟨env1, e1, e2⟩ := e
            simp [MP.elen, ihr e2]
        | _ => intro ds env env' e; simp [MP.bindTs] at e
      rw [← r2.length]; exact this e2
    refine ⟨by simp [MP.elen, hl], _, _, rfl, bind_ok er r1 e1 fun σ1 er1 o1 => ?_⟩
    refine (binds_ok er1 r2 e2 fun σ2 er2 o2 => q σ2 er2 ?_).2
    exact (o1.mono (by intro i hi; simp [MP.tgI, hi])).trans (o2.mono (by intro i hi; simp [MP.tgI, hi]))
end
end
end MPS
namespace MPS
open PySem PySem.Spec PyProof.Rows L2 PySem.W
/-! ### a list that is being made -/
/-- a step that also writes the list at D -/
structure Kd (D : Addr) (m : Pl) (H : Hp) (m' : Pl) (H' : Hp) : Prop where
  pre : ∃ t, m'.at_ = m.at_ ++ t
  ban : m'.ban = m.ban
  keep : ∀ a o, H a = some o → a ∉ m.at_ → a ≠ D → H' a = some o ∧ a ∉ m'.at_
theorem Kp.d {D : Addr} {m m' : Pl} {H H' : Hp} (k : Kp m H m' H') : Kd D m H m' H' := ⟨k.pre, k.ban, fun a o h n _ => k.keep a o h n⟩
theorem Kd.refl {D : Addr} {m : Pl} {H : Hp} : Kd D m H m H := (Kp.refl m H).d
theorem Kd.trans {D : Addr} {m m1 m2 : Pl} {H H1 H2 : Hp} (a : Kd D m H m1 H1) (b : Kd D m1 H1 m2 H2) : Kd D m H m2 H2 := by
  obtain ⟨t, e1⟩ := a.pre
  obtain ⟨u, e2⟩ := b.pre
  refine ⟨⟨t ++ u, by rw [e2, e1]; simp⟩, b.ban.trans a.ban, fun x o h n nd => ?_⟩
  obtain ⟨h1, n1⟩ := a.keep x o h n nd
  exact b.keep x o h1 n1 nd
theorem Kd.w {D : Addr} {m m' : Pl} {H H' : Hp} (k : Kd D m H m' H') (hD : D ∈ m.ban) : Kw m H m' H' :=
  ⟨fun n a h => by obtain ⟨t, e⟩ := k.pre; rw [e, List.getElem?_append_left (List.getElem?_eq_some_iff.mp h).1]; exact h, fun a o h n nb => by
    have := k.keep a o h n (fun z => nb (z ▸ hD))
    exact ⟨this.1, this.2, by rw [k.ban]; exact nb⟩⟩
theorem Kd.write {D : Addr} {m : Pl} {H : Hp} {o : HO} : Kd D m H m (upd H D o) := ⟨⟨[], by simp⟩, rfl, fun a u h n nd => ⟨by rw [upd_ne nd]; exact h, n⟩⟩
section
variable {K : PySem.W.Frag} {m m' : Pl} {H H' : Hp} {h h' : MP.Heap}
theorem EnvR.keepW {env : MP.Env} {σ : L2.St} (e : EnvR K m H env σ) (hr : HR K m h H) (k : Kw m H m' H') : EnvR K m' H' env σ :=
  ⟨e.1, fun i d e1 e2 => let ⟨v, e3, r⟩ := e.2 i d e1 e2; ⟨v, e3, r.keepW hr.mut k⟩⟩
theorem HR.hide (r : HR K m h H) {D : Addr} {vs : List V} (hD : H D = none) : HR K (m.hide D) h (upd H D (.lst vs)) ∧ Kw m H (m.hide D) (upd H D (.lst vs)) := by
  have k : Kw m H (m.hide D) (upd H D (.lst vs)) := ⟨fun n a e => e, fun a o e n nb => ⟨by rw [upd_ne (ne_of_none e hD)]; exact e, n, by simp [nb, ne_of_none e hD]⟩⟩
  refine ⟨⟨r.len, r.nd, fun n a ob e1 e2 => (r.ob n a ob e1 e2).keepAt r.mut k (upd_ne fun z => ?_), fun a ha => ?_⟩, k⟩
  · subst z; exact r.free hD (List.mem_of_getElem? e1)
  · rcases List.mem_cons.mp ha with z | ha
    · subst z; exact ⟨by rw [upd_same]; trivial, r.free hD⟩
    · obtain ⟨e, n⟩ := r.bn a ha
      exact ⟨by rw [upd_ne (mutO_ne e hD)]; exact e, n⟩
theorem HR.banWrite (r : HR K m h H) {D : Addr} {vs : List V} (hD : D ∈ m.ban) : HR K m h (upd H D (.lst vs)) := by
  have k : Kw m H m (upd H D (.lst vs)) := (Kd.write (D := D)).w hD
  refine ⟨r.len, r.nd, fun n a ob e1 e2 => (r.ob n a ob e1 e2).keepAt r.mut k (upd_ne fun z => ?_), fun a ha => ?_⟩
  · subst z; exact (r.bn a hD).2 (List.mem_of_getElem? e1)
  · obtain ⟨e, n⟩ := r.bn a ha
    by_cases z : a = D
    · subst z; exact ⟨by rw [upd_same]; trivial, n⟩
    · exact ⟨by rw [upd_ne z]; exact e, n⟩
/-- the list at D so far -/
structure Acc (K : PySem.W.Frag) (D : Addr) (m : Pl) (h : MP.Heap) (H : Hp) (acc : List MP.D) : Prop where
  hr : HR K m h H
  ban : D ∈ m.ban
  at_ : ∃ vs, H D = some (.lst vs) ∧ Rels K m H acc vs
theorem Acc.step {D : Addr} {acc : List MP.D} (a : Acc K D m h H acc) (k : Kp m H m' H') (hr : HR K m' h' H') : Acc K D m' h' H' acc := by
  obtain ⟨vs, e, r⟩ := a.at_
  exact ⟨hr, by rw [k.ban]; exact a.ban, vs, (k.keep _ _ e (a.hr.bn D a.ban).2).1, r.keep a.hr.mut k⟩
theorem Acc.push {D : Addr} {acc : List MP.D} {vs : List V} {d : MP.D} {v : V} (a : Acc K D m h H acc) (e : H D = some (.lst vs)) (r : Rel K m H d v) : Acc K D m h (upd H D (.lst (vs ++ [v]))) (acc ++ [d]) := by
  obtain ⟨us, e', q⟩ := a.at_
  rw [e] at e'; cases e'
  have k : Kw m H m (upd H D (.lst (vs ++ [v]))) := (Kd.write (D := D)).w a.ban
  exact ⟨a.hr.banWrite a.ban, a.ban, _, upd_same, (q.keepW a.hr.mut k).append (.cons (r.keepW a.hr.mut k) .nil)⟩
end
/-! ### tests of a clause -/
def PTR (X : Cx) (ifs : List Expr) : TT := fun σ H Q => ∀ pins s, Inv X pins σ H s → wpAny (model X.prog X.w) X.A (forIn ifs true fun c r => if r = true then do let ok ← isTrue c X.env (eval c X.env); pure (ForInStep.yield ok) else pure (ForInStep.yield r)) (TP X pins σ Q) X.xe s
theorem ptsr (X : Cx) (ifs : List Expr) : PTs X ifs (PTR X ifs) := ⟨fun pins s σ H Q I h => h pins s I⟩
theorem PTR.of {X : Cx} {ifs : List Expr} {σ : L2.St} {H : Hp} {t : TT} {Q : Bool → Hp → Prop} (h : PTs X ifs t) (q : t σ H Q) : PTR X ifs σ H Q := fun pins s I => h.run pins s σ H Q I q
def SimC (tb : Tb) (N : List Str) (cs : List Addr) (Φ : Nat → List MP.D → MP.Heap → MP.R MP.D) (G : List MP.D) (k : Nat) (sc : Scope) (fb : Str → Bool) (e : MP.E) (ifs : List Expr) : Prop := ∀ (X : Cx), Cg X N sc fb k → WldX tb cs Φ G k X → ∀ (W : WX), Takes X W → ∀ (env : MP.Env) (h : MP.Heap) (m : Pl) (σ : L2.St) (H : Hp) (Q : Bool → Hp → Prop),
  EnvR X.K m H env σ → HR X.K m h H → Gd X.K relB m H (tE Φ G e env h) Q (Zw cs W σ) → PTR X ifs σ H Q
section
variable {tb : Tb} {N : List Str} {cs : List Addr} {Φ : Nat → List MP.D → MP.Heap → MP.R MP.D} {G : List MP.D} {k : Nat}
variable {sc : Scope} {fb : Str → Bool}
theorem simC {c : MP.E} {ifs : List Expr} (ih : ∀ pe, TrE tb N sc fb c pe → SimT tb N cs Φ G k sc fb c pe) (h : TrC tb N sc fb c ifs) : SimC tb N cs Φ G k sc fb c ifs := by
  cases h with
  | none => exact fun X c w W tk env h m σ H Q er hr g => PTR.of pts_nil (g true m H (.refl _ _) hr rfl)
  | one h => exact fun X c w W tk env hp m σ H Q er hr g => PTR.of (pts_one (ptr X _)) (ih _ h X c w W tk env hp m σ H Q er hr g)
/-- the context of a comprehension's block -/
abbrev BX (X : Cx) (scope : Scope) (s0 : Shared) (H0 : Hp) (C : Addr) (cl : List (Str × Addr)) (fp : List Addr) : Cx := X.blk s0 H0 scope (compEnvC scope cl C X.env) fp
theorem Cg.blk {X : Cx} (c : Cg X N sc fb k) (scope : Scope) (s0 : Shared) (H0 : Hp) (C : Addr) (cl : List (Str × Addr)) (fp : List Addr) : Cg (BX X scope s0 H0 C cl fp) N (relS scope sc) (cfb scope) k :=
  ⟨c.calm, c.room, c.nd, c.nn, by have := c.sc; subst this; rfl, rfl⟩
def teB (X : Cx) (scope : Scope) (pe : Expr) : TE := fun σ H Q => ∀ s0 H0 C cl fp, ER (BX X scope s0 H0 C cl fp) pe σ H Q
def ttB (X : Cx) (scope : Scope) (ifs : List Expr) : TT := fun σ H Q => ∀ s0 H0 C cl fp, PTR (BX X scope s0 H0 C cl fp) ifs σ H Q
def tiB (X : Cx) (scope : Scope) (tg pi : Expr) : TI := fun σ H Q => ∀ s0 H0 C cl fp, IR (BX X scope s0 H0 C cl fp) tg pi σ H Q
theorem calm_ok {α β : Type} {r : MP.R α} {f : α → MP.Heap → MP.R β} {b : β} {h : MP.Heap} (e : r.calm.bind f = .ok b h) : ∃ a h1, r = .ok a h1 ∧ f a h1 = .ok b h := by
  cases r with
  | ok a h1 => exact ⟨a, h1, rfl, e⟩
  | exc c h1 => cases e
  | bad => cases e
/-- one turn of the last clause -/
theorem elem_step {X : Cx} {tg c el : MP.E} {ifs : List Expr} {pel : Expr} {scope : Scope} {D : Addr} (cg : Cg X N sc fb k) (w : WldX tb cs Φ G k X)
    (sc' : SimC tb N cs Φ G k (relS scope sc) (cfb scope) c ifs) (se : SimE tb N cs Φ G k (relS scope sc) (cfb scope) el pel)
    {env : MP.Env} {m : Pl} {h h' : MP.Heap} {H : Hp} {σ : L2.St} {d : MP.D} {v : V} {acc : List MP.D} {o : Option MP.D} {P : L2.St → Prop} {Nx : Hp → Prop}
    (er : EnvR X.K m H env σ) (ac : Acc X.K D m h H acc) (r : Rel X.K m H d v) (e : MP.turnL Φ G tg c el env d h = .ok o h') (hz : acc.length + o.toList.length ≤ MP.SZ)
    (hP : ∀ σ2, Out (MP.tgI tg) σ σ2 → P σ2) (hN : ∀ m' H', Kd D m H m' H' → Acc X.K D m' h' H' (acc ++ o.toList) → Nx H') :
    gOf X.K tg v σ H fun σ2 H2 => P σ2 ∧ ttB X scope ifs σ2 H2 fun b H3 => if b = true then teB X scope pel σ2 H3 fun y H4 => ∃ acc, H4 D = some (.lst acc) ∧ acc.length < sizeLine ∧ Nx (upd H4 D (.lst (acc ++ [y]))) else Nx H3 := by
  unfold MP.turnL at e
  split at e
  · cases e
  rename_i env' e1
  obtain ⟨b, h1, e2, e⟩ := calm_ok e
  refine bind_ok er r e1 fun σ2 er2 o2 => ⟨hP σ2 o2, fun s0 H0 C cl fp => ?_⟩
  refine sc' _ (cg.blk scope s0 H0 C cl fp) w _ takes0 env' h m σ2 H _ er2 ac.hr ?_
  have e2 : tE Φ G c env' h = .ok b h1 := e2
  rw [e2]
  rintro b' m1 H1 k1 hr1 rfl
  cases b with
  | false =>
    simp only [Bool.false_eq_true, if_false] at e ⊢
    cases e
    exact hN m1 H1 k1.d (by rw [show acc ++ (none : Option MP.D).toList = acc from by simp]; exact ac.step k1 hr1)
  | true =>
    simp only [if_true] at e ⊢
    obtain ⟨y, h2, e3, e⟩ := calm_ok e
    cases e
    intro s0' H0' C' cl' fp'
    refine se _ (cg.blk scope s0' H0' C' cl' fp') w _ takes0 env' h1 m1 σ2 H1 _ (er2.keep ac.hr k1) hr1 ?_
    rw [e3]
    intro u m2 H2 k2 hr2 r2
    have ac2 := (ac.step k1 hr1).step k2 hr2
    obtain ⟨vs, e4, q4⟩ := ac2.at_
    refine ⟨vs, e4, ?_, hN m2 _ ((k1.trans k2).d.trans .write) (ac2.push e4 r2)⟩
    have : acc.length + 1 ≤ MP.SZ := hz
    rw [← q4.length]
    exact this
theorem compL_cons {f : MP.D → MP.Heap → MP.R (Option MP.D)} {g : MP.Gd} {x : MP.D} {xs : List MP.D} {h hE : MP.Heap} {ys : List MP.D} (e : MP.compL f g (x :: xs) h = .ok ys hE) :
    MP.gdOk h g = true ∧ ∃ o h1 ys', f x h = .ok o h1 ∧ MP.compL f g xs h1 = .ok ys' hE ∧ ys = o.toList ++ ys' := by
  unfold MP.compL at e
  split at e
  · rename_i hg
    cases e1 : f x h with
    | ok o h1 =>
      rw [e1] at e
      simp only [MP.R.bind] at e
      cases e2 : MP.compL f g xs h1 with
      | ok ys' h2 =>
        rw [e2] at e
        cases o <;> (cases e; exact ⟨hg, _, h1, ys', rfl, e2, rfl⟩)
      | exc c h2 => rw [e2] at e; cases e
      | bad => rw [e2] at e; cases e
    | exc c h1 => rw [e1] at e; cases e
    | bad => rw [e1] at e; cases e
  · cases e
theorem compL_nil {f : MP.D → MP.Heap → MP.R (Option MP.D)} {g : MP.Gd} {h hE : MP.Heap} {ys : List MP.D} (e : MP.compL f g [] h = .ok ys hE) : MP.gdOk h g = true ∧ ys = [] ∧ hE = h := by
  unfold MP.compL at e
  split at e
  · rename_i hg; cases e; exact ⟨hg, rfl, rfl⟩
  · cases e
theorem compL2_cons {f : MP.D → MP.Heap → MP.R (List MP.D)} {g : MP.Gd} {x : MP.D} {xs : List MP.D} {h hE : MP.Heap} {ys : List MP.D} (e : MP.compL2 f g (x :: xs) h = .ok ys hE) :
    MP.gdOk h g = true ∧ ∃ o h1 ys', f x h = .ok o h1 ∧ MP.compL2 f g xs h1 = .ok ys' hE ∧ ys = o ++ ys' := by
  unfold MP.compL2 at e
  split at e
  · rename_i hg
    cases e1 : f x h with
    | ok o h1 =>
      rw [e1] at e
      simp only [MP.R.bind] at e
      cases e2 : MP.compL2 f g xs h1 with
      | ok ys' h2 =>
        rw [e2] at e
        cases e; exact ⟨hg, _, h1, ys', rfl, e2, rfl⟩
      | exc c h2 => rw [e2] at e; cases e
      | bad => rw [e2] at e; cases e
    | exc c h1 => rw [e1] at e; cases e
    | bad => rw [e1] at e; cases e
  · cases e
theorem compL2_nil {f : MP.D → MP.Heap → MP.R (List MP.D)} {g : MP.Gd} {h hE : MP.Heap} {ys : List MP.D} (e : MP.compL2 f g [] h = .ok ys hE) : MP.gdOk h g = true ∧ ys = [] ∧ hE = h := by
  unfold MP.compL2 at e
  split at e
  · rename_i hg; cases e; exact ⟨hg, rfl, rfl⟩
  · cases e
theorem compL_calm {f : MP.D → MP.Heap → MP.R (Option MP.D)} {g : MP.Gd} (hf : ∀ x h c h', f x h ≠ .exc c h') : ∀ {xs : List MP.D} {h : MP.Heap} {c h'}, MP.compL f g xs h ≠ .exc c h'
  | [], h, c, h' => by unfold MP.compL; split <;> simp
  | x :: xs, h, c, h' => by
    unfold MP.compL
    split
    · cases e1 : f x h with
      | ok o h1 =>
        simp only [MP.R.bind]
        cases e2 : MP.compL f g xs h1 with
        | ok ys h2 => simp
        | exc c h2 => exact absurd e2 (compL_calm hf)
        | bad => simp
      | exc c h1 => exact absurd e1 (hf _ _ _ _)
      | bad => simp [MP.R.bind]
    · simp
theorem compL2_calm {f : MP.D → MP.Heap → MP.R (List MP.D)} {g : MP.Gd} (hf : ∀ x h c h', f x h ≠ .exc c h') : ∀ {xs : List MP.D} {h : MP.Heap} {c h'}, MP.compL2 f g xs h ≠ .exc c h'
  | [], h, c, h' => by unfold MP.compL2; split <;> simp
  | x :: xs, h, c, h' => by
    unfold MP.compL2
    split
    · cases e1 : f x h with
      | ok o h1 =>
        simp only [MP.R.bind]
        cases e2 : MP.compL2 f g xs h1 with
        | ok ys h2 => simp
        | exc c h2 => exact absurd e2 (compL2_calm hf)
        | bad => simp
      | exc c h1 => exact absurd e1 (hf _ _ _ _)
      | bad => simp [MP.R.bind]
    · simp
theorem turnL_calm {tg c el : MP.E} {env : MP.Env} {x : MP.D} {h h' : MP.Heap} {q : Nat} : MP.turnL Φ G tg c el env x h ≠ .exc q h' := by
  unfold MP.turnL
  split
  · simp
  · rename_i env' _
    cases (MP.eE Φ G c env' h).bind MP.tru with
    | ok b h1 =>
      simp only [MP.R.calm, MP.R.bind]
      cases b with
      | true =>
        simp only [if_true]
        cases MP.eE Φ G el env' h1 <;> simp
      | false => simp
    | exc c h1 => simp [MP.R.calm, MP.R.bind]
    | bad => simp [MP.R.calm, MP.R.bind]
theorem turnL2_calm {g : MP.Gd} {tg c tg1 : MP.E} {k1 : MP.ItK} {ia1 c1 el : MP.E} {env : MP.Env} {x : MP.D} {h h' : MP.Heap} {q : Nat} : MP.turnL2 Φ G g tg c tg1 k1 ia1 c1 el env x h ≠ .exc q h' := by
  unfold MP.turnL2
  split
  · simp
  · rename_i env' _
    cases (MP.eE Φ G c env' h).bind MP.tru with
    | ok b h1 =>
      simp only [MP.R.calm, MP.R.bind]
      cases b with
      | true =>
        simp only [if_true]
        cases MP.eE Φ G ia1 env' h1 with
        | ok ds h2 =>
          simp only
          split
          · simp
          · exact compL_calm fun _ _ _ _ => turnL_calm
        | exc c h1 => simp
        | bad => simp
      | false => simp
    | exc c h1 => simp [MP.R.calm, MP.R.bind]
    | bad => simp [MP.R.calm, MP.R.bind]
/-- the list is whole -/
theorem acc_done {K : PySem.W.Frag} {imm : Bool} {m1 mc : Pl} {H1 Hc : Hp} {h1 hc : MP.Heap} {D : Addr} {acc : List MP.D} {Q : VK} {Z : Nat → Hp → Prop} (hr1 : HR K m1 h1 H1) (hD : H1 D = none) (kd : Kd D (m1.hide D) (upd H1 D (.lst [])) mc Hc) (ac : Acc K D mc hc Hc acc)
    (g : Gd K (Rel K) m1 H1 (MP.newL imm acc hc) Q Z) : Q (.ref D) Hc := by
  obtain ⟨vs, e, q⟩ := ac.at_
  have hban : mc.ban = D :: m1.ban := kd.ban
  have hDa : D ∉ mc.at_ := (ac.hr.bn D ac.ban).2
  have hDb : D ∉ m1.ban := hr1.freeB hD
  have kk : ∀ a o, H1 a = some o → a ∉ m1.at_ → Hc a = some o ∧ a ∉ mc.at_ ∧ a ≠ D := fun a o h n => by
    have nd : a ≠ D := ne_of_none h hD
    have := kd.keep a o (by rw [upd_ne nd]; exact h) n nd
    exact ⟨this.1, this.2, nd⟩
  obtain ⟨t, hpre⟩ := kd.pre
  have hpre : mc.at_ = m1.at_ ++ t := hpre
  unfold MP.newL at g
  split at g
  · cases imm with
    | true =>
      simp only [if_true] at g
      have kw : Kw mc Hc ⟨mc.at_, m1.ban⟩ Hc := ⟨fun n a h => h, fun a o h n nb => ⟨h, n, by rw [hban] at nb; exact fun z => nb (List.mem_cons_of_mem _ z)⟩⟩
      refine g _ ⟨mc.at_, m1.ban⟩ Hc ⟨⟨t, hpre⟩, rfl, fun a o h n => ⟨(kk a o h n).1, (kk a o h n).2.1⟩⟩ ⟨ac.hr.len, ac.hr.nd, fun n a ob e1 e2 => (ac.hr.ob n a ob e1 e2).keepAt ac.hr.mut kw rfl, fun a ha => ac.hr.bn a (by rw [hban]; exact List.mem_cons_of_mem _ ha)⟩ (.lst e hDa hDb (q.keepW ac.hr.mut kw))
    | false =>
      simp only [Bool.false_eq_true, if_false] at g
      have kw : Kw mc Hc ⟨mc.at_ ++ [D], m1.ban⟩ Hc := ⟨fun n a h => by
        show (mc.at_ ++ [D])[n]? = _
        rw [List.getElem?_append_left (List.getElem?_eq_some_iff.mp h).1]; exact h, fun a o h n nb => ⟨h, by
          rw [hban] at nb
          simp only [List.mem_cons, not_or] at nb
          simp [n, nb.1], by rw [hban] at nb; exact fun z => nb (List.mem_cons_of_mem _ z)⟩⟩
      refine g _ ⟨mc.at_ ++ [D], m1.ban⟩ Hc ⟨⟨t ++ [D], by simp [hpre]⟩, rfl, fun a o h n => ⟨(kk a o h n).1, by simp [(kk a o h n).2.1, (kk a o h n).2.2]⟩⟩ ?_ (.ref ?_)
      · refine ⟨by simp [ac.hr.len], ?_, fun n a ob e1 e2 => ?_, fun a ha => ?_⟩
        · show (mc.at_ ++ [D]).Nodup
          rw [List.nodup_append]
          exact ⟨ac.hr.nd, by simp, fun a ha b hb => by simp at hb; subst hb; exact fun z => hDa (z ▸ ha)⟩
        · have e1' : (mc.at_ ++ [D])[n]? = some a := e1
          by_cases hn : n < mc.at_.length
          · rw [List.getElem?_append_left hn] at e1'
            rw [List.getElem?_append_left (by rw [← ac.hr.len]; exact hn)] at e2
            exact (ac.hr.ob n a ob e1' e2).keepAt ac.hr.mut kw rfl
          · have hn' : n = mc.at_.length := by
              have := (List.getElem?_eq_some_iff.mp e1').1
              simp at this; omega
            subst hn'
            simp at e1'
            rw [ac.hr.len] at e2
            simp at e2
            subst e1' e2
            exact ⟨vs, e, q.keepW ac.hr.mut kw⟩
        · obtain ⟨z1, z2⟩ := ac.hr.bn a (by rw [hban]; exact List.mem_cons_of_mem _ ha)
          refine ⟨z1, ?_⟩
          simp only [List.mem_append, List.mem_singleton, not_or]
          exact ⟨z2, fun z => hDb (z ▸ ha)⟩
      · show (mc.at_ ++ [D])[hc.length]? = _
        rw [← ac.hr.len]; simp
  · exact g.elim
end
end MPS
namespace MPS
open PySem PySem.Spec PyProof.Rows L2 PySem.W
section
variable {tb : Tb} {N : List Str} {cs : List Addr} {Φ : Nat → List MP.D → MP.Heap → MP.R MP.D} {G : List MP.D} {k : Nat}
variable {sc : Scope} {fb : Str → Bool}
theorem eE_lc' {imm : Bool} {tg c el : MP.E} {ik : MP.ItK} {ia : MP.E} {env : MP.Env} {h : MP.Heap} : MP.eE Φ G (.lc imm tg ik ia c el) env h = (iE Φ G ik ia env h).bind fun p h1 => (MP.compL (MP.turnL Φ G tg c el (MP.clr env (MP.tgI tg))) p.2 p.1 h1).bind fun ys h2 => MP.newL imm ys h2 := by
  rw [MP.eE_lc]
  unfold iE
  cases MP.eE Φ G ia env h with
  | ok ds h1 =>
    simp only [MP.R.bind]
    cases MP.iterOf ik (MP.args ds) h1 <;> rfl
  | exc c h1 => rfl
  | bad => rfl
theorem eE_lc2' {imm : Bool} {tg c tg1 c1 el : MP.E} {ik ik1 : MP.ItK} {ia ia1 : MP.E} {env : MP.Env} {h : MP.Heap} : MP.eE Φ G (.lc2 imm tg ik ia c tg1 ik1 ia1 c1 el) env h = (iE Φ G ik ia env h).bind fun p h1 => (MP.compL2 (MP.turnL2 Φ G p.2 tg c tg1 ik1 ia1 c1 el (MP.clr env (MP.tgI tg ++ MP.tgI tg1))) p.2 p.1 h1).bind fun ys h2 => MP.newL imm ys h2 := by
  rw [MP.eE_lc2]
  unfold iE
  cases MP.eE Φ G ia env h with
  | ok ds h1 =>
    simp only [MP.R.bind]
    cases MP.iterOf ik (MP.args ds) h1 <;> rfl
  | exc c h1 => rfl
  | bad => rfl
theorem newL_len {imm : Bool} {K : PySem.W.Frag} {m : Pl} {H : Hp} {xs : List MP.D} {h : MP.Heap} {Q : VK} {Z : Nat → Hp → Prop} (g : Gd K (Rel K) m H (MP.newL imm xs h) Q Z) : xs.length ≤ MP.SZ := by
  unfold MP.newL at g
  split at g
  · assumption
  · exact g.elim
theorem tlc_sound {imm : Bool} {tg : MP.E} {ik : MP.ItK} {ia c el : MP.E} {ptg pit : Expr} {ifs : List Expr} {pel : Expr} {scope : Scope} {own : List (Str × Nat)}
    (si : SimI tb N cs Φ G k sc fb ik ia ptg pit) (hb : blkC N sc scope own = true) (ho : own.map (·.2) = MP.tgI tg)
    (ht : TrT N (relS scope sc) (cfb scope) tg ptg) (sc' : SimC tb N cs Φ G k (relS scope sc) (cfb scope) c ifs) (se : SimE tb N cs Φ G k (relS scope sc) (cfb scope) el pel)
    {X : Cx} (cg : Cg X N sc fb k) (w : WldX tb cs Φ G k X) {W : WX} (tk : Takes X W) {env : MP.Env} {hp : MP.Heap} {m : Pl} {σ : L2.St} {H : Hp} {Q : VK} (er : EnvR X.K m H env σ) (hr : HR X.K m hp H) (g : Gd X.K (Rel X.K) m H (MP.eE Φ G (.lc imm tg ik ia c el) env hp) Q (Zw cs W σ)) :
    tLc (IR X ptg pit) (gOf X.K tg) (ttB X scope ifs) (teB X scope pel) (own.map (·.2)) σ H Q := by
    rw [eE_lc'] at g
    rw [ho]
    refine si X cg w W tk env hp m σ H _ er hr (g.bind fun p h1 J m1 H1 _ k1 hr1 wk g1 => ?_)
    obtain ⟨xs, gd⟩ := p
    intro D hD
    dsimp only at g1
    cases e1 : MP.compL (MP.turnL Φ G tg c el (MP.clr env (MP.tgI tg))) gd xs h1 with
    | exc q h2 => exact absurd e1 (compL_calm fun _ _ _ _ => turnL_calm)
    | bad => rw [e1] at g1; exact g1.elim
    | ok ysA hE =>
    rw [e1] at g1
    have g1 : Gd X.K (Rel X.K) m1 H1 (MP.newL imm ysA hE) Q (Zw cs W σ) := g1
    have hz := newL_len g1
    obtain ⟨hr2, kw2⟩ := hr1.hide (vs := []) hD
    refine ⟨fun i n H' => n = xs.length - i ∧ i ≤ xs.length ∧ ∃ mc hc acc ys', Kd D (m1.hide D) (upd H1 D (.lst [])) mc H' ∧ Acc X.K D mc hc H' acc ∧ MP.compL (MP.turnL Φ G tg c el (MP.clr env (MP.tgI tg))) gd (xs.drop i) hc = .ok ys' hE ∧ ysA = acc ++ ys',
      ⟨xs.length, by simp, Nat.zero_le _, m1.hide D, h1, [], ysA, .refl, ⟨hr2, List.mem_cons_self, [], upd_same, .nil⟩, by rw [List.drop_zero]; exact e1, rfl⟩, ?_⟩
    rintro i n H' ⟨rfl, hi, mc, hc, acc, ys', kd, ac, e2, e3⟩
    have kw : Kw m1 H1 mc H' := kw2.trans (kd.w List.mem_cons_self)
    by_cases hlt : i < xs.length
    · right
      rw [List.drop_eq_getElem_cons hlt] at e2
      obtain ⟨hg, o, h2, ys2, e4, e5, rfl⟩ := compL_cons e2
      obtain ⟨wk1, _⟩ := wk mc hc H' kw ac.hr hg
      obtain ⟨go, wy⟩ := wk1 i xs[i] (List.getElem?_eq_getElem hlt)
      refine ⟨go, fun H'' => ∃ mc hc acc ys', Kd D (m1.hide D) (upd H1 D (.lst [])) mc H'' ∧ Acc X.K D mc hc H'' acc ∧ MP.compL (MP.turnL Φ G tg c el (MP.clr env (MP.tgI tg))) gd (xs.drop (i + 1)) hc = .ok ys' hE ∧ ysA = acc ++ ys',
        fun H'' hN => ⟨xs.length - (i + 1), by omega, rfl, hlt, hN⟩, fun x H2 hy => ?_⟩
      obtain ⟨k2, hr2', rx⟩ := wy x H2 hy
      have ac2 := ac.step k2 hr2'
      refine elem_step cg w sc' se ((((er.keep hr k1).keepW hr1 kw).keep ac.hr k2).clr (MP.tgI tg)) ac2 rx e4 ?_ (fun σ2 o2 => wipe_ext _ ((Out.wipe _ σ).trans o2)) fun m' H'' kd' ac' => ⟨m', h2, _, ys2, kd.trans (k2.d.trans kd'), ac', e5, by rw [e3, List.append_assoc]⟩
      rw [e3] at hz
      simp only [List.length_append] at hz
      omega
    · left
      have hi' : i = xs.length := by omega
      subst hi'
      rw [List.drop_length] at e2
      obtain ⟨hg, rfl, rfl⟩ := compL_nil e2
      obtain ⟨_, st⟩ := wk mc hE H' kw ac.hr hg
      rw [List.append_nil] at e3
      rw [e3] at g1
      exact ⟨st, acc_done hr1 hD kd ac g1⟩
theorem simE_lc {imm : Bool} {tg : MP.E} {ik : MP.ItK} {ia c el : MP.E} {ptg pit : Expr} {ifs : List Expr} {pel : Expr} {scope : Scope} {own : List (Str × Nat)} {pos : Pos} (hf : ∀ (env : Env) x, foldedSetIterable pit env x = pure x)
    (si : SimI tb N cs Φ G k sc fb ik ia ptg pit) (hb : blkC N sc scope own = true) (ho : own.map (·.2) = MP.tgI tg)
    (ht : TrT N (relS scope sc) (cfb scope) tg ptg) (sc' : SimC tb N cs Φ G k (relS scope sc) (cfb scope) c ifs) (se : SimE tb N cs Φ G k (relS scope sc) (cfb scope) el pel) :
    SimE tb N cs Φ G k sc fb (.lc imm tg ik ia c el) (.ListComp pel [⟨ptg, pit, ifs, 0⟩] scope pos) :=
  fun X cg w W tk env hp m σ H Q er hr g => by
    refine ER.of (pe_lc (g := gOf X.K tg) (tt := ttB X scope ifs) (te := teB X scope pel) (own := own) cg.calm (by rw [cg.nn]; exact cg.nd) (pir X ptg pit) (by rw [cg.nn, cg.sc]; exact blkOk_by hb)
      (fun s H C cl fp => pgOf (cg.blk scope s H C cl fp) ht) (fun s H C cl fp => ⟨fun pins s' σ H' Q I h => h s H C cl fp pins s' I⟩) (fun s H C cl fp => ⟨fun pins s' σ H' Q I h => h s H C cl fp pins s' I⟩) (hf _)) ?_
    exact tlc_sound si hb ho ht sc' se cg w tk er hr g
end
end MPS
namespace MPS
open PySem PySem.Spec PyProof.Rows L2 PySem.W
section
variable {tb : Tb} {N : List Str} {cs : List Addr} {Φ : Nat → List MP.D → MP.Heap → MP.R MP.D} {G : List MP.D} {k : Nat}
variable {sc : Scope} {fb : Str → Bool}
theorem tlc2_sound {imm : Bool} {tg tg1 : MP.E} {ik ik1 : MP.ItK} {ia ia1 c c1 el : MP.E} {ptg ptg1 pit pit1 : Expr} {ifs ifs1 : List Expr} {pel : Expr} {scope : Scope} {own : List (Str × Nat)}
    (si : SimI tb N cs Φ G k sc fb ik ia ptg pit) (hb : blkC N sc scope own = true) (ho : own.map (·.2) = MP.tgI tg ++ MP.tgI tg1)
    (ht : TrT N (relS scope sc) (cfb scope) tg ptg) (sc' : SimC tb N cs Φ G k (relS scope sc) (cfb scope) c ifs) (si1 : SimI tb N cs Φ G k (relS scope sc) (cfb scope) ik1 ia1 ptg1 pit1)
    (ht1 : TrT N (relS scope sc) (cfb scope) tg1 ptg1) (sc1 : SimC tb N cs Φ G k (relS scope sc) (cfb scope) c1 ifs1) (se : SimE tb N cs Φ G k (relS scope sc) (cfb scope) el pel)
    {X : Cx} (cg : Cg X N sc fb k) (w : WldX tb cs Φ G k X) {W : WX} (tk : Takes X W) {env : MP.Env} {hp : MP.Heap} {m : Pl} {σ : L2.St} {H : Hp} {Q : VK} (er : EnvR X.K m H env σ) (hr : HR X.K m hp H) (g : Gd X.K (Rel X.K) m H (MP.eE Φ G (.lc2 imm tg ik ia c tg1 ik1 ia1 c1 el) env hp) Q (Zw cs W σ)) :
    tLc2 (IR X ptg pit) (gOf X.K tg) (ttB X scope ifs) (tiB X scope ptg1 pit1) (gOf X.K tg1) (ttB X scope ifs1) (teB X scope pel) (own.map (·.2)) (MP.tgI tg1) σ H Q := by
    rw [eE_lc2'] at g
    rw [ho]
    generalize hS : MP.tgI tg ++ MP.tgI tg1 = S at g ⊢
    have S1 : ∀ i ∈ MP.tgI tg, i ∈ S := by subst hS; intro i hi; exact List.mem_append_left _ hi
    refine si X cg w W tk env hp m σ H _ er hr (g.bind fun p h1 J m1 H1 _ k1 hr1 wk g1 => ?_)
    obtain ⟨xs, gd⟩ := p
    intro D hD
    dsimp only at g1
    cases e1 : MP.compL2 (MP.turnL2 Φ G gd tg c tg1 ik1 ia1 c1 el (MP.clr env S)) gd xs h1 with
    | exc q h2 => exact absurd e1 (compL2_calm fun _ _ _ _ => turnL2_calm)
    | bad => rw [e1] at g1; exact g1.elim
    | ok ysA hE =>
    rw [e1] at g1
    have g1 : Gd X.K (Rel X.K) m1 H1 (MP.newL imm ysA hE) Q (Zw cs W σ) := g1
    have hz := newL_len g1
    obtain ⟨hr2, kw2⟩ := hr1.hide (vs := []) hD
    refine ⟨fun i n H' => n = xs.length - i ∧ i ≤ xs.length ∧ ∃ mc hc acc ys', Kd D (m1.hide D) (upd H1 D (.lst [])) mc H' ∧ Acc X.K D mc hc H' acc ∧ MP.compL2 (MP.turnL2 Φ G gd tg c tg1 ik1 ia1 c1 el (MP.clr env S)) gd (xs.drop i) hc = .ok ys' hE ∧ ysA = acc ++ ys',
      ⟨xs.length, by simp, Nat.zero_le _, m1.hide D, h1, [], ysA, .refl, ⟨hr2, List.mem_cons_self, [], upd_same, .nil⟩, by rw [List.drop_zero]; exact e1, rfl⟩, ?_⟩
    rintro i n H' ⟨rfl, hi, mc, hc, acc, ys', kd, ac, e2, e3⟩
    have kw : Kw m1 H1 mc H' := kw2.trans (kd.w List.mem_cons_self)
    by_cases hlt : i < xs.length
    · right
      rw [List.drop_eq_getElem_cons hlt] at e2
      obtain ⟨hg, ob, h2, ys2, e4, e5, rfl⟩ := compL2_cons e2
      obtain ⟨wk1, _⟩ := wk mc hc H' kw ac.hr hg
      obtain ⟨go, wy⟩ := wk1 i xs[i] (List.getElem?_eq_getElem hlt)
      refine ⟨go, fun H'' => ∃ mc hc acc ys', Kd D (m1.hide D) (upd H1 D (.lst [])) mc H'' ∧ Acc X.K D mc hc H'' acc ∧ MP.compL2 (MP.turnL2 Φ G gd tg c tg1 ik1 ia1 c1 el (MP.clr env S)) gd (xs.drop (i + 1)) hc = .ok ys' hE ∧ ysA = acc ++ ys',
        fun H'' hN => ⟨xs.length - (i + 1), by omega, rfl, hlt, hN⟩, fun x H2 hy => ?_⟩
      obtain ⟨k2, hr2', rx⟩ := wy x H2 hy
      have ac2 := ac.step k2 hr2'
      have er2 := (((er.keep hr k1).keepW hr1 kw).keep ac.hr k2).clr S
      unfold MP.turnL2 at e4
      split at e4
      · cases e4
      rename_i env' e6
      obtain ⟨b, h3, e7, e4⟩ := calm_ok e4
      refine bind_ok er2 rx e6 fun σ2 er3 o2 => ⟨wipe_ext _ ((Out.wipe _ σ).trans (o2.mono S1)), fun s0 H0 C cl fp => ?_⟩
      refine sc' _ (cg.blk scope s0 H0 C cl fp) w _ takes0 env' hc mc σ2 H2 _ er3 ac2.hr ?_
      have e7 : tE Φ G c env' hc = .ok b h3 := e7
      rw [e7]
      rintro b' m3 H3 k3 hr3 rfl
      have ac3 := ac2.step k3 hr3
      have er4 := er3.keep ac2.hr k3
      cases b with
      | false =>
        simp only [Bool.false_eq_true, if_false] at e4 ⊢
        cases e4
        exact ⟨m3, _, acc, ys2, kd.trans (k2.d.trans k3.d), ac3, e5, by simpa using e3⟩
      | true =>
        simp only [if_true] at e4 ⊢
        obtain ⟨ds, h4, e8, e4⟩ := calm_ok e4
        split at e4
        · cases e4
        rename_i xs1 gd1 e9
        intro s0' H0' C' cl' fp'
        refine si1 _ (cg.blk scope s0' H0' C' cl' fp') w _ takes0 env' h3 m3 σ2 H3 _ er4 hr3 ?_
        have e10 : iE Φ G ik1 ia1 env' h3 = .ok (xs1, gd1) h4 := by
          unfold iE
          rw [e8]
          show MP.R.opt h4 (MP.iterOf ik1 (MP.args ds) h4) = _
          rw [e9]; rfl
        rw [e10]
        intro J1 m4 H4 k4 hr4 wk4
        have ac4 := ac3.step k4 hr4
        have er5 := (er4.keep hr3 k4)
        refine ⟨fun j n H' => n = xs1.length - j ∧ j ≤ xs1.length ∧ ∃ mi hi acci ysi, Kd D m4 H4 mi H' ∧ Acc X.K D mi hi H' acci ∧ MP.compL (MP.turnL Φ G tg1 c1 el (MP.clr env' (MP.tgI tg1))) (gd ++ gd1) (xs1.drop j) hi = .ok ysi h2 ∧ acc ++ ob = acci ++ ysi,
          ⟨xs1.length, by simp, Nat.zero_le _, m4, h4, acc, ob, .refl, ac4, by rw [List.drop_zero]; exact e4, rfl⟩, ?_⟩
        rintro j n H5 ⟨rfl, hj, mi, hi5, acci, ysi, kdi, aci, f2, f3⟩
        have kwi : Kw m4 H4 mi H5 := kdi.w ac4.ban
        by_cases hlj : j < xs1.length
        · right
          rw [List.drop_eq_getElem_cons hlj] at f2
          obtain ⟨hg5, o, h6, ys6, f4, f5, rfl⟩ := compL_cons f2
          rw [gdOk_append, Bool.and_eq_true] at hg5
          obtain ⟨wk5, _⟩ := wk4 mi hi5 H5 kwi aci.hr hg5.2
          obtain ⟨go5, wy5⟩ := wk5 j xs1[j] (List.getElem?_eq_getElem hlj)
          refine ⟨go5, fun H'' => ∃ mi hi acci ysi, Kd D m4 H4 mi H'' ∧ Acc X.K D mi hi H'' acci ∧ MP.compL (MP.turnL Φ G tg1 c1 el (MP.clr env' (MP.tgI tg1))) (gd ++ gd1) (xs1.drop (j + 1)) hi = .ok ysi h2 ∧ acc ++ ob = acci ++ ysi,
            fun H'' hN => ⟨xs1.length - (j + 1), by omega, rfl, hlj, hN⟩, fun x5 H6 hy5 => ?_⟩
          obtain ⟨k6, hr6, rx6⟩ := wy5 x5 H6 hy5
          have ac6 := aci.step k6 hr6
          refine elem_step cg w sc1 se (((er5.keepW hr4 kwi).keep aci.hr k6).clr (MP.tgI tg1)) ac6 rx6 f4 ?_ (fun σ3 o3 => wipe_ext _ ((Out.wipe _ σ2).trans o3)) fun m' H'' kd' ac' => ⟨m', h6, _, ys6, kdi.trans (k6.d.trans kd'), ac', f5, by rw [f3, List.append_assoc]⟩
          rw [e3, ← List.append_assoc, f3] at hz
          simp only [List.length_append] at hz
          omega
        · left
          have hj' : j = xs1.length := by omega
          subst hj'
          rw [List.drop_length] at f2
          obtain ⟨hg5, rfl, rfl⟩ := compL_nil f2
          rw [gdOk_append, Bool.and_eq_true] at hg5
          obtain ⟨_, st⟩ := wk4 mi h2 H5 kwi aci.hr hg5.2
          rw [List.append_nil] at f3
          refine ⟨st, mi, h2, acci, ys2, ?_, aci, e5, by rw [e3, ← List.append_assoc, f3]⟩
          exact kd.trans (k2.d.trans (k3.d.trans (k4.d.trans kdi)))
    · left
      have hi' : i = xs.length := by omega
      subst hi'
      rw [List.drop_length] at e2
      obtain ⟨hg, rfl, rfl⟩ := compL2_nil e2
      obtain ⟨_, st⟩ := wk mc hE H' kw ac.hr hg
      rw [List.append_nil] at e3
      rw [e3] at g1
      exact ⟨st, acc_done hr1 hD kd ac g1⟩
theorem simE_lc2 {imm : Bool} {tg tg1 : MP.E} {ik ik1 : MP.ItK} {ia ia1 c c1 el : MP.E} {ptg ptg1 pit pit1 : Expr} {ifs ifs1 : List Expr} {pel : Expr} {scope : Scope} {own : List (Str × Nat)} {pos : Pos} (hf : ∀ (env : Env) x, foldedSetIterable pit env x = pure x) (hf1 : ∀ (env : Env) x, foldedSetIterable pit1 env x = pure x)
    (si : SimI tb N cs Φ G k sc fb ik ia ptg pit) (hb : blkC N sc scope own = true) (ho : own.map (·.2) = MP.tgI tg ++ MP.tgI tg1)
    (ht : TrT N (relS scope sc) (cfb scope) tg ptg) (sc' : SimC tb N cs Φ G k (relS scope sc) (cfb scope) c ifs) (si1 : SimI tb N cs Φ G k (relS scope sc) (cfb scope) ik1 ia1 ptg1 pit1)
    (ht1 : TrT N (relS scope sc) (cfb scope) tg1 ptg1) (sc1 : SimC tb N cs Φ G k (relS scope sc) (cfb scope) c1 ifs1) (se : SimE tb N cs Φ G k (relS scope sc) (cfb scope) el pel) :
    SimE tb N cs Φ G k sc fb (.lc2 imm tg ik ia c tg1 ik1 ia1 c1 el) (.ListComp pel [⟨ptg, pit, ifs, 0⟩, ⟨ptg1, pit1, ifs1, 0⟩] scope pos) :=
  fun X cg w W tk env hp m σ H Q er hr g => by
    refine ER.of (pe_lc2 (g := gOf X.K tg) (g1 := gOf X.K tg1) (tt := ttB X scope ifs) (tt1 := ttB X scope ifs1) (wi1 := tiB X scope ptg1 pit1) (te := teB X scope pel) (own := own) (vs1 := MP.tgI tg1) cg.calm (by rw [cg.nn]; exact cg.nd) (pir X ptg pit) (by rw [cg.nn, cg.sc]; exact blkOk_by hb) (by rw [ho]; intro i hi; exact List.mem_append_right _ hi)
      (fun s H C cl fp => pgOf (cg.blk scope s H C cl fp) ht) (fun s H C cl fp => ⟨fun pins s' σ H' Q I h => h s H C cl fp pins s' I⟩) (fun s H C cl fp => ⟨fun pins s' σ H' Q I h => h s H C cl fp pins s' I⟩)
      (fun s H C cl fp => pgOf (cg.blk scope s H C cl fp) ht1) (fun s H C cl fp => ⟨fun pins s' σ H' Q I h => h s H C cl fp pins s' I⟩) (fun s H C cl fp => ⟨fun pins s' σ H' Q I h => h s H C cl fp pins s' I⟩) (hf _) hf1) ?_
    exact tlc2_sound si hb ho ht sc' si1 ht1 sc1 se cg w tk er hr g
end
end MPS
namespace MPS
open PySem PySem.Spec PyProof.Rows L2 PySem.W
section
variable {tb : Tb} {N : List Str} {cs : List Addr} {Φ : Nat → List MP.D → MP.Heap → MP.R MP.D} {G : List MP.D} {k : Nat}
theorem simE_con {sc : Scope} {fb : Str → Bool} {d : MP.D} {pe : Expr} (h : ∀ X : Cx, ∃ v, PE X pe (tC v) ∧ ∀ m H, Rel X.K m H d v) : SimE tb N cs Φ G k sc fb (.con d) pe :=
  fun X c w W tk env hp m σ H Q er hr g => by
    obtain ⟨v, h1, h2⟩ := h X
    rw [MP.eE_con] at g
    exact ER.of h1 (g.here hr (h2 m H))
theorem main_IH : ∀ n : Nat, IH tb N cs Φ G k n := fun n => by
  induction n with
  | zero => exact fun a ha => absurd ha (Nat.not_lt_zero _)
  | succ n ihn =>
    intro e hn0 sc fb pe h
    have ih : ∀ a : MP.E, sizeOf a < sizeOf e → ∀ {sc fb pe}, TrE tb N sc fb a pe → SimE tb N cs Φ G k sc fb a pe ∧ SimT tb N cs Φ G k sc fb a pe ∧ (∀ op ps pos, pe = .BoolOp op ps pos → SimW tb N cs Φ G k sc fb a pe) := fun a ha _ _ _ ht => ihn a (by omega) _ _ _ ht
    have ihA : ∀ {sc fb es pes}, sizeOf es < sizeOf e → TrA tb N sc fb es pes → SimA tb N cs Φ G k sc fb es pes := fun hs ht => simA (fun a ha pe q => (ih a (by omega) q).1) ht
    have ihO : ∀ {sc fb es pes}, sizeOf es < sizeOf e → TrO tb N sc fb es pes → SimO tb N cs Φ G k sc fb es pes := fun hs ht => by
      cases ht with
      | none => exact simO_none
      | some h => exact simO_some (ih _ hs h).1
    have ihI : ∀ {sc fb ik ia tg pi}, sizeOf ia < sizeOf e → TrI tb N sc fb ik ia tg pi → SimI tb N cs Φ G k sc fb ik ia tg pi := fun hs ht => simI (fun a ha pe q => (ih a (by omega) q).1) ht
    have ihC : ∀ {sc fb c ifs}, sizeOf c < sizeOf e → TrC tb N sc fb c ifs → SimC tb N cs Φ G k sc fb c ifs := fun hs ht => simC (fun pe q => (ih _ hs q).2.1) ht
    have pl : SimE tb N cs Φ G k sc fb e pe → (∀ env whole, isTrue pe env whole = (do let v ← whole; standAt pe.pos; holding [v] (truthy v))) → (∀ op ps pos, pe ≠ .BoolOp op ps pos) → SimE tb N cs Φ G k sc fb e pe ∧ SimT tb N cs Φ G k sc fb e pe ∧ (∀ op ps pos, pe = .BoolOp op ps pos → SimW tb N cs Φ G k sc fb e pe) :=
      fun h1 h2 h3 => ⟨h1, simT_plain h1 h2, fun op ps pos z => absurd z (h3 op ps pos)⟩
    cases h with
    | var h v n => exact pl (simE_var h v n) (fun _ _ => rfl) (by intros; simp)
    | non => exact pl (simE_con fun X => ⟨.non, pe_non, fun _ _ => .non⟩) (fun _ _ => rfl) (by intros; simp)
    | bl => exact pl (simE_con fun X => ⟨_, pe_bl, fun _ _ => .bl _⟩) (fun _ _ => rfl) (by intros; simp)
    | int => exact pl (simE_con fun X => ⟨_, pe_int, fun _ _ => .int _⟩) (fun _ _ => rfl) (by intros; simp)
    | str => exact pl (simE_con fun X => ⟨_, pe_str, fun _ _ => .str _⟩) (fun _ _ => rfl) (by intros; simp)
    | glo h g n => exact pl (simE_glo h g n) (fun _ _ => rfl) (by intros; simp)
    | tup h hz => exact pl (simE_tup h (ihA (by simp) h) hz) (fun _ _ => rfl) (by intros; simp)
    | lst h => exact pl (simE_lst (ihA (by simp) h)) (fun _ _ => rfl) (by intros; simp)
    | bin ha hb => exact pl (simE_bin (ih _ (by simp; omega) ha).1 (ih _ (by simp; omega) hb).1) (fun _ _ => rfl) (by intros; simp)
    | neg ha => exact pl (simE_neg (ih _ (by simp) ha).1) (fun _ _ => rfl) (by intros; simp)
    | cmp ha hb =>
      have a := (ih _ (by simp; omega) ha).1
      have b := (ih _ (by simp; omega) hb).1
      exact ⟨simE_cmp (hb.noset _) a b, simT_cmp (hb.noset _) a b, fun op ps pos z => by cases z⟩
    | chn ha hb hc =>
      have a := (ih _ (by simp; omega) ha).1
      have b := (ih _ (by simp; omega) hb).1
      have d := (ih _ (by simp; omega) hc).1
      exact ⟨simE_chn (hc.noset _) a b d, simT_chn (hc.noset _) a b d, fun op ps pos z => by cases z⟩
    | and2 ha hr =>
      have a := ih _ (by simp; omega) ha
      have r := ih _ (by simp; omega) hr
      have w := simW_and a.2.1 (r.2.2 _ _ _ rfl)
      exact ⟨simE_and a.1 r.1, fun X c w' W tk env hp m σ H Q er hr g => (w X c w' W tk env hp m σ H Q er hr g).tr, fun _ _ _ _ => w⟩
    | or2 ha hr =>
      have a := ih _ (by simp; omega) ha
      have r := ih _ (by simp; omega) hr
      have w := simW_or a.2.1 (r.2.2 _ _ _ rfl)
      exact ⟨simE_or a.1 r.1, fun X c w' W tk env hp m σ H Q er hr g => (w X c w' W tk env hp m σ H Q er hr g).tr, fun _ _ _ _ => w⟩
    | @one _ _ _ op _ pos ha =>
      have a := ih _ (by simp) ha
      have w := simW_one (op := op) (pos := pos) a.2.1
      exact ⟨simE_one a.1, fun X c w' W tk env hp m σ H Q er hr g => (w X c w' W tk env hp m σ H Q er hr g).tr, fun _ _ _ _ => w⟩
    | nt ha =>
      have a := ih _ (by simp) ha
      exact ⟨simE_nt a.1, simT_nt a.2.1, fun op ps pos z => by cases z⟩
    | ite hc ha hb =>
      have c := ih _ (by simp; omega) hc
      have a := ih _ (by simp; omega) ha
      have b := ih _ (by simp; omega) hb
      exact ⟨simE_ite c.2.1 a.1 b.1, simT_ite c.2.1 a.2.1 b.2.1, fun op ps pos z => by cases z⟩
    | idx ha hb => exact pl (simE_idx hb.plain (ih _ (by simp; omega) ha).1 (ih _ (by simp; omega) hb).1) (fun _ _ => rfl) (by intros; simp)
    | slc ha hl hh => exact pl (simE_slc (ih _ (by simp; omega) ha).1 (ihO (by simp; omega) hl) (ihO (by simp; omega) hh)) (fun _ _ => rfl) (by intros; simp)
    | rev ha => exact pl (simE_rev (ih _ (by simp) ha).1) (fun _ _ => rfl) (by intros; simp)
    | call h g n ha => exact pl (simE_call h g n ha (ihA (by simp; omega) ha)) (fun _ _ => rfl) (by intros; simp)
    | blt h mm g ha => exact pl (simE_blt h mm g ha (ihA (by simp; omega) ha)) (fun _ _ => rfl) (by intros; simp)
    | isi mm g m2 g2 ha => exact pl (simE_isi mm g m2 g2 ha.nostar (ih _ (by simp; omega) ha).1) (fun _ _ => rfl) (by intros; simp)
    | lrg mm g m2 g2 ha hl =>
      cases ha with
      | nil => simp at hl
      | cons h q =>
      cases q with
      | nil => exact pl (simE_lrg1 mm g m2 g2 h.nostar (ih _ (by simp; omega) h).1) (fun _ _ => rfl) (by intros; simp)
      | cons h2 q =>
      cases q with
      | nil => exact pl (simE_lrg2 mm g m2 g2 h.nostar h2.nostar (ih _ (by simp; omega) h).1 (ih _ (by simp; omega) h2).1) (fun _ _ => rfl) (by intros; simp)
      | cons h3 q => simp at hl
    | mth ho ha hl hn => exact pl (simE_mth ho.base hl hn ha (ih _ (by simp; omega) ho).1 (ihA (by simp; omega) ha)) (fun _ _ => rfl) (by intros; simp)
    | mth0 ho hl => exact pl (simE_mth0 ho.base hl (ih _ (by simp; omega) ho).1) (fun _ _ => rfl) (by intros; simp)
    | lc hi hb ho ht hc he => exact pl (simE_lc (fun env => hi.fold env) (ihI (by simp; omega) hi) hb ho ht (ihC (by simp; omega) hc) (ih _ (by simp; omega) he).1) (fun _ _ => rfl) (by intros; simp)
    | lc2 hi hb ho ht hc hi1 ht1 hc1 he => exact pl (simE_lc2 (fun env => hi.fold env) (fun env => hi1.fold env) (ihI (by simp; omega) hi) hb ho ht (ihC (by simp; omega) hc) (ihI (by simp; omega) hi1) ht1 (ihC (by simp; omega) hc1) (ih _ (by simp; omega) he).1) (fun _ _ => rfl) (by intros; simp)
variable {sc : Scope} {fb : Str → Bool}
theorem simE {e : MP.E} {pe : Expr} (h : TrE tb N sc fb e pe) : SimE tb N cs Φ G k sc fb e pe := (main_IH _ e (Nat.lt_succ_self _) sc fb pe h).1
theorem simT {e : MP.E} {pe : Expr} (h : TrE tb N sc fb e pe) : SimT tb N cs Φ G k sc fb e pe := (main_IH _ e (Nat.lt_succ_self _) sc fb pe h).2.1
theorem simAs {e : MP.E} {pes : List Expr} (h : TrA tb N sc fb e pes) : SimA tb N cs Φ G k sc fb e pes := simA (fun a _ pe q => simE q) h
theorem simIt {ik : MP.ItK} {ia : MP.E} {tg pi : Expr} (h : TrI tb N sc fb ik ia tg pi) : SimI tb N cs Φ G k sc fb ik ia tg pi := simI (fun a _ pe q => simE q) h
end
end MPS
namespace MPS
open PySem PySem.Spec PyProof.Rows L2 PySem.W
/-! ### stores that change their order -/
/-- name = comprehension, in place -/
def swB (sc : Scope) (x : Str) (p : Pos) (e : Expr) : Bool := match (match e with
    | .ListComp _ _ s _ | .SetComp _ _ s _ | .DictComp _ _ _ s _ => some s
    | _ => none) with
  | none => false
  | some s => decide (sc.names.lookup x = some .local) && p.line == e.pos.line && !(s.names.any fun (n, k) => n == x && (k == .local || k == .cell))
theorem blockKind_fn {env : Env} (hk : env.scope.kind = .function) : env.blockKind = .function := by unfold Env.blockKind; rw [hk]; rfl
theorem swB_eq {sc : Scope} {x : Str} {p : Pos} {e : Expr} {l : Nat} {env : Env} (he : env.scope = sc) (hk : env.scope.kind = .function) : swapsWith e (some (.Name x p)) l env = pure (swB sc x p e) := by
  subst he
  have hb := blockKind_fn hk
  have key : ∀ (s : Scope) (q : Pos), (env.blockKind == .function && env.kindOf x == some .local && p.line == q.line && !(s.names.any fun (n, k) => n == x && (k == .local || k == .cell))) =
      (decide (env.scope.names.lookup x = some .local) && p.line == q.line && !(s.names.any fun (n, k) => n == x && (k == .local || k == .cell))) := fun s q => by
    rw [hb]
    have : (env.kindOf x == some .local) = decide (env.scope.names.lookup x = some .local) := by
      unfold Env.kindOf
      by_cases h : env.scope.names.lookup x = some .local
      · rw [h]; rfl
      · rw [decide_eq_false h]
        cases q : env.scope.names.lookup x with
        | none => rfl
        | some v =>
          cases v <;> first | rfl | exact absurd q h
    rw [this]; rfl
  unfold swapsWith swB
  cases e <;> first
    | rfl
    | (show (pure _ : Sem Bool) = pure _; exact congrArg pure (key _ _))
def swStar (vs : List Expr) : Bool := vs.any fun | .Starred .. => true | _ => false
def swN (sc : Scope) (ts : List Expr) : List Str := ts.filterMap fun
  | .Name id pos => if sc.names.lookup id == some .local && pos.line == (ts.head?.map (·.pos.line)).getD 0 then some id else none
  | _ => none
/-- a, b = x, y -/
def swP (sc : Scope) (ts vs : List Expr) : Option (Option (List Str)) :=
  if (!(ts.length == 2 || ts.length == 3) || vs.length != ts.length) = true then some none
  else if swStar vs = true then some none
  else if ((swN sc ts).length != ts.length || (swN sc ts).eraseDups.length != (swN sc ts).length) = true then some none
  else if vs.all (foldedForSure 8) = true then some none
  else if vs.all (constantsAlone 8) = true then none
  else some (some (swN sc ts))
theorem swP_eq {sc : Scope} {ts vs : List Expr} {k k2 : Nat} {p p2 : Pos} {env : Env} {r : Option (List Str)} (he : env.scope = sc) (hk : env.scope.kind = .function) (h : swP sc ts vs = some r) : swappedStores [.Tuple ts k p] (.Tuple vs k2 p2) env = pure r := by
  subst he
  have hb := blockKind_fn hk
  unfold swappedStores
  simp only [hb]
  have hk' : ∀ id, env.kindOf id = env.scope.names.lookup id := fun id => rfl
  simp only [hk']
  unfold swP at h
  by_cases h1 : (!(ts.length == 2 || ts.length == 3) || vs.length != ts.length) = true
  · rw [if_pos h1] at h; cases h
    exact if_pos (by rw [Bool.or_eq_true]; exact .inl h1)
  rw [if_neg h1] at h
  refine (if_neg (by rw [Bool.or_eq_true]; intro z; rcases z with z | z <;> first | exact h1 z | cases z)).trans ?_
  by_cases h2 : swStar vs = true
  · rw [if_pos h2] at h; cases h
    exact if_pos h2
  rw [if_neg h2] at h
  refine (if_neg h2).trans ?_
  by_cases h3 : ((swN env.scope ts).length != ts.length || (swN env.scope ts).eraseDups.length != (swN env.scope ts).length) = true
  · rw [if_pos h3] at h; cases h
    exact if_pos h3
  rw [if_neg h3] at h
  refine (if_neg h3).trans ?_
  by_cases h4 : vs.all (foldedForSure 8) = true
  · rw [if_pos h4] at h; cases h
    exact if_pos h4
  rw [if_neg h4] at h
  refine (if_neg h4).trans ?_
  by_cases h5 : vs.all (constantsAlone 8) = true
  · rw [if_pos h5] at h; cases h
  rw [if_neg h5] at h; cases h
  exact if_neg h5
/-- a tuple as target: nothing is swapped -/
def swG (sc : Scope) (t e : Expr) : Bool := match t, e with
  | .Tuple ts _ _, .Tuple vs _ _ => decide (swP sc ts vs = some none)
  | .Tuple _ _ _, _ => true
  | .Subscript _ _ _, _ => true
  | _, _ => false
theorem swG_eq {sc : Scope} {t e : Expr} {env : Env} {l : Nat} (he : env.scope = sc) (hk : env.scope.kind = .function) (h : swG sc t e = true) : swapsWithSole [t] e l env = pure false ∧ swappedStores [t] e env = pure none := by
  unfold swG at h
  split at h
  · exact ⟨rfl, swP_eq he hk (of_decide_eq_true h)⟩
  · rename_i h1
    refine ⟨by cases e <;> rfl, ?_⟩
    cases e <;> first | rfl | exact absurd rfl (h1 _ _ _)
  · refine ⟨by cases e <;> rfl, by cases e <;> rfl⟩
  · cases h
def nolc : Expr → Bool
  | .ListComp .. => false
  | .SetComp .. => false
  | .DictComp .. => false
  | _ => true
theorem nolc_eq {e : Expr} {l : Nat} {env : Env} (h : nolc e = true) : swapsWith e none l env = pure false := by
  cases e <;> first | rfl | cases h
/-! ### which statement a term stands for -/
section
variable (tb : Tb) (N : List Str) (sc : Scope) (fb : Str → Bool)
mutual
inductive TrG : MP.E → Expr → Prop
  | var {i x pos} (h : N[i]? = some x) (l : locB sc x = true) (f : fb x = true ∨ sc.names.lookup x = some .local) : TrG (.var i) (.Name x pos)
  | tup {es pes k pos} (h : TrGs es pes) : TrG (.tup es) (.Tuple pes k pos)
  | idx {a b pa pb pos} (ha : TrE tb N sc fb a pa) (hb : TrE tb N sc fb b pb) : TrG (.idx a b) (.Subscript pa pb pos)
inductive TrGs : MP.E → List Expr → Prop
  | nil : TrGs .nil []
  | cons {a r pa pr} (h : TrG a pa) (q : TrGs r pr) : TrGs (.cons a r) (pa :: pr)
end
mutual
inductive TrS : MP.S → Stmt → Prop
  | pass {pos} : TrS .pass (.Pass pos)
  | asgV {i x e pe p pos} (h : N[i]? = some x) (l : locB sc x = true) (f : fb x = true ∨ sc.names.lookup x = some .local) (he : TrE tb N sc fb e pe) (hs : swB sc x p pe = false) : TrS (.asg (.var i) e) (.Assign [.Name x p] pe pos)
  | asgL {i x e pe p pos} (h : N[i]? = some x) (l : sc.names.lookup x = some .local) (he : TrE tb N sc fb e pe) (hs : swB sc x p pe = true) : TrS (.asg (.var i) e) (.Assign [.Name x p] pe pos)
  | asgG {t e pt pe pos} (ht : TrG tb N sc fb t pt) (he : TrE tb N sc fb e pe) (hs : swG sc pt pe = true) : TrS (.asg t e) (.Assign [pt] pe pos)
  | par {i j es x y px py kt pt a b k2 pt2 pos} (hi : N[i]? = some x) (hj : N[j]? = some y) (hij : i ≠ j) (hx : sc.names.lookup x = some .local) (hy : sc.names.lookup y = some .local) (ha : TrA tb N sc fb es [a, b])
      (hw : swP sc [.Name x px, .Name y py] [a, b] = some (some [x, y])) : TrS (.par [i, j] es) (.Assign [.Tuple [.Name x px, .Name y py] kt pt] (.Tuple [a, b] k2 pt2) pos)
  | par3 {i j l es x y z px py pz kt pt a b c k2 pt2 pos} (hi : N[i]? = some x) (hj : N[j]? = some y) (hl : N[l]? = some z) (hij : i ≠ j) (hil : i ≠ l) (hjl : j ≠ l) (hx : sc.names.lookup x = some .local) (hy : sc.names.lookup y = some .local) (hz : sc.names.lookup z = some .local) (ha : TrA tb N sc fb es [a, b, c])
      (hw : swP sc [.Name x px, .Name y py, .Name z pz] [a, b, c] = some (some [x, y, z])) : TrS (.par [i, j, l] es) (.Assign [.Tuple [.Name x px, .Name y py, .Name z pz] kt pt] (.Tuple [a, b, c] k2 pt2) pos)
  | augV {o i x e pe p pos} (h : N[i]? = some x) (l : locB sc x = true) (f : fb x = true ∨ sc.names.lookup x = some .local) (n : nmB x = true) (he : TrE tb N sc fb e pe) : TrS (.aug o (.var i) e) (.AugAssign (.Name x p) (bop o) pe pos)
  | augI {o a b e pa pb pe p pos} (ha : TrE tb N sc fb a pa) (hb : TrE tb N sc fb b pb) (he : TrE tb N sc fb e pe) (hsl : (match pb with | .Slice .. => false | _ => true) = true) : TrS (.aug o (.idx a b) e) (.AugAssign (.Subscript pa pb p) (bop o) pe pos)
  | exp {e pe pos} (he : TrE tb N sc fb e pe) (hn : nolc pe = true) : TrS (.exp e) (.Expr pe pos)
  | ite {c a b pc pa pb pos} (hc : TrE tb N sc fb c pc) (ha : TrB a pa) (hb : TrB b pb) : TrS (.ite c a b) (.If pc pa pb pos)
  | whl {c b pc pb pos} (hc : TrE tb N sc fb c pc) (hb : TrB b pb) : TrS (.whl c b) (.While pc pb [] pos)
  | for {t k ia b pt pi pb pos} (ht : TrT N sc fb t pt) (hi : TrI tb N sc fb k ia pt pi) (hb : TrB b pb) : TrS (.for t k ia b) (.For pt pi pb [] pos)
  | ret {e pe pos} (he : TrE tb N sc fb e pe) : TrS (.ret e) (.Return (some pe) pos)
  | retN {pos} : TrS .retN (.Return none pos)
  | brk {pos} : TrS .brk (.Break pos)
  | cnt {pos} : TrS .cnt (.Continue pos)
  | bad {st} : TrS .bad st
inductive TrB : MP.S → List Stmt → Prop
  | nil : TrB .nil []
  | cons {a r pa pr} (h : TrS a pa) (q : TrB r pr) : TrB (.cons a r) (pa :: pr)
end
end
end MPS
namespace MPS
open PySem PySem.Spec PyProof.Rows L2 PySem.W
/-! ### readings of statements -/
inductive FlV where
  | nxt (σ : L2.St) | ret (v : V) | brk (σ : L2.St) | cnt (σ : L2.St)
def relF (K : PySem.W.Frag) : Pl → Hp → MP.Fl → FlV → Prop := fun m H f g => match f, g with
  | .nxt env, .nxt σ => EnvR K m H env σ
  | .ret d, .ret v => Rel K m H d v
  | .brk env, .brk σ => EnvR K m H env σ
  | .cnt env, .cnt σ => EnvR K m H env σ
  | _, _ => False
def atE (D : Ends) : FlV → Hp → Prop
  | .nxt σ, H => D.nx σ H
  | .ret v, H => D.rt v H
  | .brk σ, H => D.bk σ H
  | .cnt σ, H => D.ct σ H
def SR (X : Cx) (st : Stmt) : TS := fun D σ H => ∀ pins s, Inv X pins σ H s → wpAny (model X.prog X.w) X.A (exec st X.env) (SP X pins D) X.xe s
def SRs (X : Cx) (st : List Stmt) : TS := fun D σ H => ∀ pins s, Inv X pins σ H s → wpAny (model X.prog X.w) X.A (execs st X.env) (SP X pins D) X.xe s
theorem psr (X : Cx) (st : Stmt) : PS X st (SR X st) := ⟨fun pins s σ H D I h => h pins s I⟩
theorem pssr (X : Cx) (st : List Stmt) : PSs X st (SRs X st) := ⟨fun pins s σ H D I h => h pins s I⟩
theorem SR.of {X : Cx} {st : Stmt} {D : Ends} {σ : L2.St} {H : Hp} {t : TS} (h : X.env.scope.kind = .function → PS X st t) (q : t D σ H) : SR X st D σ H := fun pins s I => (h I.ok.kind).run pins s σ H D I q
theorem SRs.of {X : Cx} {st : List Stmt} {D : Ends} {σ : L2.St} {H : Hp} {t : TS} (h : PSs X st t) (q : t D σ H) : SRs X st D σ H := fun pins s I => h.run pins s σ H D I q
theorem SR.len {X : Cx} {st : Stmt} {D : Ends} {σ : L2.St} {H : Hp} (h : σ.length = X.N.length → SR X st D σ H) : SR X st D σ H := fun pins s I => h I.len pins s I
theorem SRs.len {X : Cx} {st : List Stmt} {D : Ends} {σ : L2.St} {H : Hp} (h : σ.length = X.N.length → SRs X st D σ H) : SRs X st D σ H := fun pins s I => h I.len pins s I
theorem ER.len {X : Cx} {e : Expr} {σ : L2.St} {H : Hp} {Q : VK} (h : σ.length = X.N.length → ER X e σ H Q) : ER X e σ H Q := fun pins s I => h I.len pins s I
theorem TR.len {X : Cx} {e : Expr} {σ : L2.St} {H : Hp} {Q : Bool → Hp → Prop} (h : σ.length = X.N.length → TR X e σ H Q) : TR X e σ H Q := fun pins s I => h I.len pins s I
theorem AR.len {X : Cx} {e : List Expr} {σ : L2.St} {H : Hp} {Q : List V → Hp → Prop} (h : σ.length = X.N.length → AR X e σ H Q) : AR X e σ H Q := fun pos pins s I => h I.len pos pins s I
theorem IR.len {X : Cx} {tg e : Expr} {σ : L2.St} {H : Hp} {R : It → Hp → Prop} (h : σ.length = X.N.length → IR X tg e σ H R) : IR X tg e σ H R := fun pins s I => h I.len pins s I
/-- the exceptions' wish, at any slots -/
def ZW (X : Cx) (cs : List Addr) (W : WX) (Z : Nat → Hp → Prop) : Prop := ∀ σ, σ.length = X.N.length → ∀ c H', Z c H' → Zw cs W σ c H'
theorem Gd.z {K : PySem.W.Frag} {α β : Type} {rl : Pl → Hp → α → β → Prop} {m : Pl} {H : Hp} {r : MP.R α} {Q : β → Hp → Prop} {Z Z' : Nat → Hp → Prop} (g : Gd K rl m H r Q Z) (h : ∀ c H', Z c H' → Z' c H') : Gd K rl m H r Q Z' := by
  cases r with
  | ok d h1 => exact g
  | exc c h1 => exact fun m2 H2 k2 hr => h _ _ (g m2 H2 k2 hr)
  | bad => exact g
section
variable (tb : Tb) (N : List Str) (cs : List Addr) (Φ : Nat → List MP.D → MP.Heap → MP.R MP.D) (G : List MP.D) (k : Nat) (sc : Scope) (fb : Str → Bool) (Wf : Nat)
def SimS (e : MP.S) (st : Stmt) : Prop := ∀ (X : Cx), Cg X N sc fb k → WldX tb cs Φ G k X → ∀ (W : WX), Takes X W → PassesOwn (model X.prog X.w) X.A X.env X.xe → ∀ (Z : Nat → Hp → Prop), ZW X cs W Z → ∀ (env : MP.Env) (h : MP.Heap) (m : Pl) (σ : L2.St) (H : Hp) (D : Ends),
  EnvR X.K m H env σ → HR X.K m h H → Gd X.K (relF X.K) m H (MP.eS Φ G Wf e env h) (atE D) Z → SR X st D σ H
def SimB (e : MP.S) (st : List Stmt) : Prop := ∀ (X : Cx), Cg X N sc fb k → WldX tb cs Φ G k X → ∀ (W : WX), Takes X W → PassesOwn (model X.prog X.w) X.A X.env X.xe → ∀ (Z : Nat → Hp → Prop), ZW X cs W Z → ∀ (env : MP.Env) (h : MP.Heap) (m : Pl) (σ : L2.St) (H : Hp) (D : Ends),
  EnvR X.K m H env σ → HR X.K m h H → Gd X.K (relF X.K) m H (MP.eS Φ G Wf e env h) (atE D) Z → SRs X st D σ H
end
/-! ### targets of any form -/
def GR (X : Cx) (tg : Expr) : TG := fun v σ H Q => ∀ pins s u, Inv X pins σ H s → RelV v u → wpAny (model X.prog X.w) X.A (assign tg X.env u) (fun _ s' => ∃ σ' H', Inv X pins σ' H' s' ∧ Q σ' H') X.xe s
theorem pgr (X : Cx) (tg : Expr) : PG X tg (GR X tg) := ⟨fun pins s σ H v u Q I r h => h pins s u I r⟩
theorem GR.of {X : Cx} {tg : Expr} {v : V} {σ : L2.St} {H : Hp} {t : TG} {Q : L2.St → Hp → Prop} (h : PG X tg t) (q : t v σ H Q) : GR X tg v σ H Q := fun pins s u I r => h.run pins s σ H v u Q I r q
theorem GR.len {X : Cx} {tg : Expr} {v : V} {σ : L2.St} {H : Hp} {Q : L2.St → Hp → Prop} (h : σ.length = X.N.length → GR X tg v σ H Q) : GR X tg v σ H Q := fun pins s u I r => h I.len pins s u I r
def GRs (X : Cx) (ts : List Expr) : TGs := fun vs σ H Q => ∀ pins s us, Inv X pins σ H s → Vals vs us → wpAny (model X.prog X.w) X.A (assignInOrder ((assignEach ts X.env).map (·.2)) us) (fun _ s' => ∃ σ' H', Inv X pins σ' H' s' ∧ Q σ' H') X.xe s
theorem pgsr (X : Cx) (ts : List Expr) : PGs X ts (GRs X ts) := ⟨fun pins s σ H vs us Q I r h => h pins s us I r⟩
theorem GRs.of {X : Cx} {ts : List Expr} {vs : List V} {σ : L2.St} {H : Hp} {t : TGs} {Q : L2.St → Hp → Prop} (h : PGs X ts t) (q : t vs σ H Q) : GRs X ts vs σ H Q := fun pins s us I r => h.run pins s σ H vs us Q I r q
def relEn (K : PySem.W.Frag) : Pl → Hp → MP.Env → L2.St → Prop := fun m H env σ => EnvR K m H env σ
section
variable {tb : Tb} {N : List Str} {cs : List Addr} {Φ : Nat → List MP.D → MP.Heap → MP.R MP.D} {G : List MP.D} {k : Nat} {sc : Scope} {fb : Str → Bool}
theorem TrG.each {e : MP.E} {pe : Expr} (h : TrG tb N sc fb e pe) (es : List Expr) (env : Env) : assignEach (pe :: es) env = (false, assign pe env) :: assignEach es env := by cases h <;> rfl
theorem TrGs.len : ∀ {e : MP.E} {pes : List Expr}, TrGs tb N sc fb e pes → ∀ env, (assignEach pes env).length = MP.elen e ∧ (assignEach pes env).findIdx? (·.1) = none
  | _, _, .nil, _ => ⟨rfl, rfl⟩
  | _, _, .cons h q, env => by
    rw [h.each]
    obtain ⟨h1, h2⟩ := TrGs.len q env
    exact ⟨by simp [h1, MP.elen], by rw [List.findIdx?_cons]; simp [h2]⟩
theorem assign_idx {o i : Expr} {pos : Pos} {env : Env} (h : (match i with | .Slice .. => false | _ => true) = true) (v : Value) : assign (.Subscript o i pos) env v = (do
      let ov ← holding [v] (eval o env)
      let iv ← holding [v, ov] (eval i env)
      standAt pos
      holding [v, ov, iv] (setItem ov iv v)
      release [v, ov, iv] []) := by
  cases i <;> first | rfl | cases h
end
end MPS
namespace MPS
open PySem PySem.Spec PyProof.Rows L2 PySem.W
section
variable {tb : Tb} {N : List Str} {cs : List Addr} {Φ : Nat → List MP.D → MP.Heap → MP.R MP.D} {G : List MP.D} {k : Nat} {sc : Scope} {fb : Str → Bool}
mutual
theorem simG {X : Cx} (c : Cg X N sc fb k) (w : WldX tb cs Φ G k X) {W : WX} (tk : Takes X W) {Z : Nat → Hp → Prop} (zw : ZW X cs W Z) : ∀ {tg : MP.E} {ptg : Expr} {d : MP.D} {v : V} {env : MP.Env} {h : MP.Heap} {m : Pl} {σ : L2.St} {H : Hp} {Q : L2.St → Hp → Prop},
    TrG tb N sc fb tg ptg → EnvR X.K m H env σ → HR X.K m h H → Rel X.K m H d v → Gd X.K (relEn X.K) m H (MP.setT Φ G tg d env h) Q Z → GR X ptg v σ H Q
  | _, _, d, v, env, h, m, σ, H, Q, .var hN l f, er, hr, r, g => by
    refine GR.of (pg_name (by rw [c.nn]; exact c.nd) (by rw [c.nn]; exact hN) (by rw [c.sc]; exact loc_of l) (by rw [c.fb, c.sc]; exact f)) ?_
    unfold MP.setT at g
    split at g
    · rename_i hi
      exact g _ m H (.refl _ _) hr (er.set r hi)
    · exact g.elim
  | .tup es, _, d, v, env, h, m, σ, H, Q, .tup ht, er, hr, r, g => by
    cases d with
    | tup ds =>
      unfold MP.setT at g
      split at g
      · rename_i hl
        cases r with
        | tup h1 rs =>
        refine GR.of (pg_tup c.calm (pgsr X _) (ht.len _).1 (ht.len _).2) ⟨_, _, rfl, h1, by rw [← rs.length]; exact hl, ?_⟩
        exact simGs c w tk zw ht er hr rs g
      · exact g.elim
    | _ => unfold MP.setT at g; exact g.elim
  | .idx a b, _, d, v, env, h, m, σ, H, Q, .idx ha hb, er, hr, r, g => GR.len fun hl => by
    have g : Gd X.K (relEn X.K) m H ((MP.eE Φ G a env h).bind fun x h1 => (MP.eE Φ G b env h1).bind fun y h2 => (MP.setL x y d h2).bind fun _ h3 => .ok env h3) Q Z := by
      unfold MP.setT at g; exact g
    refine GR.of (pg_sub (per X _) (per X _) (setV X) (assign_idx (by cases hb <;> rfl))) ?_
    refine simE ha X c w W tk env h m σ H _ er hr ((g.bind fun d1 h1 v1 m1 H1 _ k1 hr1 r1 g1 => ?_).z (zw σ hl))
    refine simE hb X c w W tk env h1 m1 σ H1 _ (er.keep hr k1) hr1 ((g1.bind fun d2 h2 v2 m2 H2 _ k2 hr2 r2 g2 => ?_).z (zw σ hl))
    refine setL_sound (Q := fun _ H3 => Q σ H3) (Z := Z) hr2 (r1.keep hr1.mut k2) r2 ((r.keep hr.mut k1).keep hr1.mut k2) (g2.bind fun _ h3 _ m3 H3 _ k3 hr3 _ g3 => ?_)
    exact g3 σ m3 H3 (.refl _ _) hr3 (((er.keep hr k1).keep hr1 k2).keep hr2 k3)
theorem simGs {X : Cx} (c : Cg X N sc fb k) (w : WldX tb cs Φ G k X) {W : WX} (tk : Takes X W) {Z : Nat → Hp → Prop} (zw : ZW X cs W Z) : ∀ {tg : MP.E} {pts : List Expr} {ds : List MP.D} {vs : List V} {env : MP.Env} {h : MP.Heap} {m : Pl} {σ : L2.St} {H : Hp} {Q : L2.St → Hp → Prop},
    TrGs tb N sc fb tg pts → EnvR X.K m H env σ → HR X.K m h H → Rels X.K m H ds vs → Gd X.K (relEn X.K) m H (MP.setTs Φ G tg ds env h) Q Z → GRs X pts vs σ H Q
  | _, _, ds, vs, env, h, m, σ, H, Q, .nil, er, hr, rs, g => by
    cases rs with
    | nil =>
      refine GRs.of pgs_nil ⟨rfl, ?_⟩
      unfold MP.setTs at g
      exact g σ m H (.refl _ _) hr er
    | cons r1 r2 => unfold MP.setTs at g; exact g.elim
  | .cons a r, _, ds, vs, env, h, m, σ, H, Q, .cons ha hq, er, hr, rs, g => by
    cases rs with
    | nil => unfold MP.setTs at g; exact g.elim
    | cons r1 r2 =>
      refine GRs.of (pgs_cons (pgr X _) (pgsr X _) (by rw [ha.each]; rfl)) ⟨_, _, rfl, ?_⟩
      unfold MP.setTs at g
      refine simG c w tk zw ha er hr r1 (g.bind fun env1 h1 σ1 m1 H1 _ k1 hr1 er1 g1 => ?_)
      exact simGs c w tk zw hq er1 hr1 (r2.keep hr.mut k1) g1
end
/-! ### item of a list, by values -/
def GetV (X : Cx) : V → V → Hp → VK → Prop := fun o i H Q => ∀ (pins : List (Addr × Obj)) (s : Shared) (σ : L2.St) (ov iv : Value), Inv X pins σ H s → RelV o ov → RelV i iv → wpAny (model X.prog X.w) X.A (getItem ov iv) (EP X pins σ Q) X.xe s
theorem getV (X : Cx) : PGet X (GetV X) := fun pins s σ H o i ov iv Q I ro ri h => h pins s σ ov iv I ro ri
theorem get_list {X : Cx} : PGet X (rIxL X.K) := by
  intro pins s σ H x y v u Q I rx ry h
  obtain ⟨p, xs, i, z, rfl, rfl, hq, he, q⟩ := h
  cases rx
  obtain ⟨t, rfl⟩ := ry
  obtain ⟨its, r, pl, hz⟩ := I.list hq
  obtain ⟨j, h1, h2, h3, h4, h5⟩ := atI_get he
  obtain ⟨w, ew, rw'⟩ := r.get h2
  have hl := r.length
  have hn := line63
  have fin : EP X pins σ Q w s := ⟨z, H, I, rw', q⟩
  by_cases h0 : 0 ≤ i
  · have hj : i.toNat = j := by
      rw [seqIndex_of h0 h5] at h1
      exact Option.some.inj h1
    exact wpAny_getItem_list pl.isList h0 (by omega) (by rw [hj]; simpa using ew) fin
  · have hj : (i + (its.toArray.size : Int)).toNat = j := by
      rw [seqIndex_neg (by omega) h4] at h1
      rw [List.size_toArray, ← hl]
      exact Option.some.inj h1
    exact wpAny_getItem_list_neg pl.isList (by omega) (by rw [List.size_toArray] <;> omega) (by omega) (by rw [hj]; simpa using ew) fin
theorem getL_sound {X : Cx} {d1 d2 d : MP.D} {v1 v2 : V} {m : Pl} {H : Hp} {h : MP.Heap} {Q : VK} (hr : HR X.K m h H) (r1 : Rel X.K m H d1 v1) (r2 : Rel X.K m H d2 v2) (e : MP.opI d1 d2 h = some d) (hL : ∃ n, d1 = .ref n) (q : ∀ v, Rel X.K m H d v → Q v H) : GetV X v1 v2 H Q := by
  obtain ⟨n, rfl⟩ := hL
  cases r1 with
  | ref h1 =>
  unfold MP.opI at e
  cases d2 with
  | int i =>
    cases r2
    simp only at e
    split at e
    · rename_i xs e1
      obtain ⟨a, vs, e2, e3, r⟩ := hr.lst e1
      rw [h1] at e2; cases e2
      obtain ⟨v, e4, rv⟩ := r.at e
      exact fun pins s σ ov iv I ro ri => get_list pins s σ H _ _ ov iv Q I ro ri ⟨_, _, _, v, rfl, rfl, .of e3, e4, q v rv⟩
    · cases e
  | _ => simp at e
/-! ### op= -/
def IpV (X : Cx) (op : Operator) : TIp := fun x y H Q => ∀ (pins : List (Addr × Obj)) (s : Shared) (σ : L2.St) (v u : Value), Inv X pins σ H s → RelV x v → RelV y u → wpAny (model X.prog X.w) X.A (inplaceOp op v u) (EP X pins σ Q) X.xe s
theorem ipV (X : Cx) (op : Operator) : PIp X op (IpV X op) := fun pins s σ H x y v u Q I rx ry h => h pins s σ v u I rx ry
theorem augI_sound {X : Cx} {o : MP.BOp} {d1 d2 d : MP.D} {v1 v2 : V} {m : Pl} {H : Hp} {Q : VK} (r1 : Rel X.K m H d1 v1) (r2 : Rel X.K m H d2 v2) (e : MP.augI o d1 d2 = some d) (q : ∀ v, Rel X.K m H d v → Q v H) : IpV X (bop o) v1 v2 H Q := by
  unfold MP.augI at e
  split at e
  · cases e; cases r1; cases r2
    exact fun pins s σ v u I rx ry => ip_add pins s σ H _ _ v u Q I rx ry ⟨_, _, rfl, rfl, q _ (.int _)⟩
  · cases e; cases r1; cases r2
    exact fun pins s σ v u I rx ry => ip_sub pins s σ H _ _ v u Q I rx ry ⟨_, _, rfl, rfl, q _ (.int _)⟩
  · split at e
    · rename_i hm
      cases e; cases r1; cases r2
      intro pins s σ v u I rx ry
      obtain ⟨t, rfl⟩ := rx
      obtain ⟨t', rfl⟩ := ry
      refine imul_int ⟨.int _, H, I.tok _, ⟨_, rfl⟩, q _ (.int _)⟩ ?_
      simp only [MP.mulOk, Bool.or_eq_true, Bool.and_eq_true] at hm
      rcases hm with (hm | hm) | ⟨h1, h2⟩
      · exact CMul.ok (.inl (smallI_spec hm))
      · exact CMul.ok (.inr (smallI_spec hm))
      · simp only [MP.wideI, decide_eq_true_eq] at h1 h2
        exact CMulW.ok (wide_mul h1 h2 (by decide) (by decide) (by decide))
    · cases e
  · cases e
end
end MPS
namespace MPS
open PySem PySem.Spec PyProof.Rows L2 PySem.W
section
variable {tb : Tb} {N : List Str} {cs : List Addr} {Φ : Nat → List MP.D → MP.Heap → MP.R MP.D} {G : List MP.D} {k : Nat} {sc : Scope} {fb : Str → Bool} {Wf : Nat}
theorem gd_next {K : PySem.W.Frag} {m : Pl} {H : Hp} {h : MP.Heap} {env : MP.Env} {σ : L2.St} {D : Ends} {Z : Nat → Hp → Prop} (g : Gd K (relF K) m H (.ok (.nxt env) h) (atE D) Z) (hr : HR K m h H) (er : EnvR K m H env σ) : D.nx σ H := g (.nxt σ) m H (.refl _ _) hr er
/-- the body's ends, in a block -/
theorem simSs {a r : MP.S} {pa : Stmt} {pr : List Stmt} (sa : SimS tb N cs Φ G k sc fb Wf a pa) (sr : SimB tb N cs Φ G k sc fb Wf r pr) : SimB tb N cs Φ G k sc fb Wf (.cons a r) (pa :: pr) :=
  fun X c w W tk po Z zw env h m σ H D er hr g => by
    refine SRs.of (pss_cons (psr X _) (pssr X _)) ?_
    rw [MP.eS_cons] at g
    refine sa X c w W tk po Z zw env h m σ H _ er hr (g.bind fun f h1 f' m1 H1 _ k1 hr1 r1 g1 => ?_)
    cases f <;> cases f' <;> first | exact r1.elim | skip
    · exact sr X c w W tk po Z zw _ h1 m1 _ H1 D r1 hr1 g1
    · exact g1 (.ret _) m1 H1 (.refl _ _) hr1 r1
    · exact g1 (.brk _) m1 H1 (.refl _ _) hr1 r1
    · exact g1 (.cnt _) m1 H1 (.refl _ _) hr1 r1
theorem simS_asgV {i : Nat} {x : Str} {e : MP.E} {pe : Expr} {p pos : Pos} (h : N[i]? = some x) (l : locB sc x = true) (f : fb x = true ∨ sc.names.lookup x = some .local) (he : TrE tb N sc fb e pe) (hs : swB sc x p pe = false) : SimS tb N cs Φ G k sc fb Wf (.asg (.var i) e) (.Assign [.Name x p] pe pos) :=
  fun X c w W tk po Z zw env hp m σ H D er hr g => SR.len fun hl => by
    refine SR.of (fun hk => ps_set (by rw [c.nn]; exact c.nd) (by rw [c.nn]; exact h) (by rw [c.sc]; exact loc_of l) (per X pe) (by rw [swB_eq c.sc hk, hs]) (by rw [c.fb, c.sc]; exact f)) ?_
    rw [MP.eS_asg] at g
    refine simE he X c w W tk env hp m σ H _ er hr ((g.bind fun d h1 v m1 H1 _ k1 hr1 r1 g1 => ?_).z (zw σ hl))
    unfold MP.setT at g1
    split at g1
    · rename_i hi
      exact gd_next g1 hr1 ((er.keep hr k1).set r1 hi)
    · exact g1.elim
theorem simS_asgL {i : Nat} {x : Str} {e : MP.E} {pe : Expr} {p pos : Pos} (h : N[i]? = some x) (l : sc.names.lookup x = some .local) (he : TrE tb N sc fb e pe) (hs : swB sc x p pe = true) : SimS tb N cs Φ G k sc fb Wf (.asg (.var i) e) (.Assign [.Name x p] pe pos) :=
  fun X c w W tk po Z zw env hp m σ H D er hr g => SR.len fun hl => by
    rw [MP.eS_asg] at g
    have fin : ∀ d h1 v m1 H1, MP.eE Φ G e env hp = .ok d h1 → Kp m H m1 H1 → HR X.K m1 h1 H1 → Rel X.K m1 H1 d v → Gd X.K (relF X.K) m1 H1 ((MP.setT Φ G (.var i) d env h1).bind fun env h2 => .ok (.nxt env) h2) (atE D) Z → gName i v σ H1 D.nx := fun d h1 v m1 H1 _ k1 hr1 r1 g1 => by
      unfold MP.setT at g1
      split at g1
      · rename_i hi
        exact gd_next g1 hr1 ((er.keep hr k1).set r1 hi)
      · exact g1.elim
    have hsw : ∀ hk : X.env.scope.kind = .function, swapsWith pe (some (.Name x p)) pos.line X.env = pure true := fun hk => by rw [swB_eq c.sc hk, hs]
    have hN : X.N.Nodup := by rw [c.nn]; exact c.nd
    have hy : X.N[i]? = some x := by rw [c.nn]; exact h
    have hyl : X.env.scope.names.lookup x = some .local := by rw [c.sc]; exact l
    cases he with
    | @lc _ _ imm tg ik ia cc el ptg pit ifs pel scope own cpos hi hb ho ht hc he =>
      refine SR.of (fun hk => ps_setLc (g := gOf X.K tg) (tt := ttB X scope ifs) (te := teB X scope pel) (own := own) c.calm hN hy hyl (hsw hk) (pir X ptg pit) (by rw [c.nn, c.sc]; exact blkOk_by hb)
        (fun s H C cl fp => pgOf (c.blk scope s H C cl fp) ht) (fun s H C cl fp => ⟨fun pins s' σ H' Q I h => h s H C cl fp pins s' I⟩) (fun s H C cl fp => ⟨fun pins s' σ H' Q I h => h s H C cl fp pins s' I⟩) (hi.fold _)) ?_
      exact tlc_sound (simIt hi) hb ho ht (simC (fun pe q => simT q) hc) (simE he) c w tk er hr ((g.bind fin).z (zw σ hl))
    | @lc2 _ _ imm tg ik ia cc tg1 ik1 ia1 c1 el ptg pit ifs ptg1 pit1 ifs1 pel scope own cpos hi hb ho ht hc hi1 ht1 hc1 he =>
      refine SR.of (fun hk => ps_setLc2 (g := gOf X.K tg) (g1 := gOf X.K tg1) (tt := ttB X scope ifs) (tt1 := ttB X scope ifs1) (wi1 := tiB X scope ptg1 pit1) (te := teB X scope pel) (own := own) (vs1 := MP.tgI tg1) c.calm hN hy hyl (hsw hk) (pir X ptg pit) (by rw [c.nn, c.sc]; exact blkOk_by hb) (by rw [ho]; intro i hi; exact List.mem_append_right _ hi)
        (fun s H C cl fp => pgOf (c.blk scope s H C cl fp) ht) (fun s H C cl fp => ⟨fun pins s' σ H' Q I h => h s H C cl fp pins s' I⟩) (fun s H C cl fp => ⟨fun pins s' σ H' Q I h => h s H C cl fp pins s' I⟩)
        (fun s H C cl fp => pgOf (c.blk scope s H C cl fp) ht1) (fun s H C cl fp => ⟨fun pins s' σ H' Q I h => h s H C cl fp pins s' I⟩) (fun s H C cl fp => ⟨fun pins s' σ H' Q I h => h s H C cl fp pins s' I⟩) (hi.fold _) (fun env => hi1.fold env)) ?_
      exact tlc2_sound (simIt hi) hb ho ht (simC (fun pe q => simT q) hc) (simIt hi1) ht1 (simC (fun pe q => simT q) hc1) (simE he) c w tk er hr ((g.bind fin).z (zw σ hl))
    | _ => simp [swB] at hs
theorem simS_asgG {t : MP.E} {pt : Expr} {e : MP.E} {pe : Expr} {pos : Pos} (ht : TrG tb N sc fb t pt) (he : TrE tb N sc fb e pe) (hs : swG sc pt pe = true) : SimS tb N cs Φ G k sc fb Wf (.asg t e) (.Assign [pt] pe pos) :=
  fun X c w W tk po Z zw env hp m σ H D er hr g => SR.len fun hl => by
    refine SR.of (fun hk => ps_asg (per X pe) (pgr X pt) (swG_eq c.sc hk hs).1 (swG_eq (l := 0) c.sc hk hs).2 (by rw [ht.each]; rfl)) ?_
    rw [MP.eS_asg] at g
    refine simE he X c w W tk env hp m σ H _ er hr ((g.bind fun d h1 v m1 H1 _ k1 hr1 r1 g1 => ?_).z (zw σ hl))
    refine simG c w tk zw ht (er.keep hr k1) hr1 r1 (g1.bind fun env2 h2 σ2 m2 H2 _ k2 hr2 er2 g2 => ?_)
    exact gd_next g2 hr2 er2
theorem rels2 {K : PySem.W.Frag} {m : Pl} {H : Hp} {a b : MP.D} {vs : List V} (r : Rels K m H [a, b] vs) : ∃ u v, vs = [u, v] ∧ Rel K m H a u ∧ Rel K m H b v := by
  cases r with
  | cons ru r =>
  cases r with
  | cons rv r =>
  cases r
  exact ⟨_, _, rfl, ru, rv⟩
theorem rels3 {K : PySem.W.Frag} {m : Pl} {H : Hp} {a b c : MP.D} {vs : List V} (r : Rels K m H [a, b, c] vs) : ∃ u v w, vs = [u, v, w] ∧ Rel K m H a u ∧ Rel K m H b v ∧ Rel K m H c w := by
  cases r with
  | cons ru r =>
  obtain ⟨v, w, rfl, rv, rw'⟩ := rels2 r
  exact ⟨_, _, _, rfl, ru, rv, rw'⟩
theorem setN2 {i j : Nat} {ds : List MP.D} {env env' : MP.Env} (e : MP.setN [i, j] ds env = some env') : ∃ a b, ds = [a, b] ∧ i < env.length ∧ j < env.length ∧ env' = (env.set i a).set j b := by
  cases ds with
  | nil => simp [MP.setN] at e
  | cons a ds =>
  cases ds with
  | nil => simp [MP.setN] at e
  | cons b ds =>
  cases ds with
  | cons d ds => simp [MP.setN] at e
  | nil =>
    unfold MP.setN at e
    split at e
    · rename_i h1
      unfold MP.setN at e
      split at e
      · rename_i h2
        unfold MP.setN at e
        cases e
        exact ⟨a, b, rfl, h1, by simpa using h2, rfl⟩
      · cases e
    · cases e
theorem setN3 {i j l : Nat} {ds : List MP.D} {env env' : MP.Env} (e : MP.setN [i, j, l] ds env = some env') : ∃ a b d, ds = [a, b, d] ∧ i < env.length ∧ j < env.length ∧ l < env.length ∧ env' = ((env.set i a).set j b).set l d := by
  cases ds with
  | nil => simp [MP.setN] at e
  | cons a ds =>
    unfold MP.setN at e
    split at e
    · rename_i h1
      obtain ⟨b, d, rfl, h2, h3, rfl⟩ := setN2 e
      exact ⟨a, b, d, rfl, h1, by simpa using h2, by simpa using h3, rfl⟩
    · cases e
theorem simS_par {i j : Nat} {es : MP.E} {x y : Str} {px py pt pt2 pos : Pos} {kt k2 : Nat} {a b : Expr} (hi : N[i]? = some x) (hj : N[j]? = some y) (hij : i ≠ j) (hx : sc.names.lookup x = some .local) (hy : sc.names.lookup y = some .local) (ha : TrA tb N sc fb es [a, b])
    (hw : swP sc [.Name x px, .Name y py] [a, b] = some (some [x, y])) : SimS tb N cs Φ G k sc fb Wf (.par [i, j] es) (.Assign [.Tuple [.Name x px, .Name y py] kt pt] (.Tuple [a, b] k2 pt2) pos) :=
  fun X c w W tk po Z zw env hp m σ H D er hr g => SR.len fun hl => by
    refine SR.of (fun hk => ps_par c.calm (by rw [c.nn]; exact c.nd) (by rw [c.nn]; exact hi) (by rw [c.nn]; exact hj) hij (by rw [c.sc]; exact hx) (by rw [c.sc]; exact hy) (par X _) (swP_eq c.sc hk hw)) ?_
    rw [MP.eS_par] at g
    refine simAs ha X c w W tk env hp m σ H _ er hr ((gd_args g fun ds h1 vs m1 H1 _ k1 hr1 r1 g1 => ?_).z (zw σ hl))
    obtain ⟨env', e, g2⟩ := g1.optBind
    obtain ⟨u, v, e1, h2, h3, rfl⟩ := setN2 e
    have e1 : ds = [u, v] := e1
    subst e1
    obtain ⟨u1, v1, rfl, ru, rv⟩ := rels2 r1
    exact ⟨_, _, rfl, gd_next g2 hr1 (((er.keep hr k1).set ru h2).set rv (by simpa using h3))⟩
theorem simS_par3 {i j l : Nat} {es : MP.E} {x y z : Str} {px py pz pt pt2 pos : Pos} {kt k2 : Nat} {a b d : Expr} (hi : N[i]? = some x) (hj : N[j]? = some y) (hl' : N[l]? = some z) (hij : i ≠ j) (hil : i ≠ l) (hjl : j ≠ l) (hx : sc.names.lookup x = some .local) (hy : sc.names.lookup y = some .local) (hz : sc.names.lookup z = some .local) (ha : TrA tb N sc fb es [a, b, d])
    (hw : swP sc [.Name x px, .Name y py, .Name z pz] [a, b, d] = some (some [x, y, z])) : SimS tb N cs Φ G k sc fb Wf (.par [i, j, l] es) (.Assign [.Tuple [.Name x px, .Name y py, .Name z pz] kt pt] (.Tuple [a, b, d] k2 pt2) pos) :=
  fun X c w W tk po Z zw env hp m σ H D er hr g => SR.len fun hl => by
    refine SR.of (fun hk => ps_par3 c.calm (by rw [c.nn]; exact c.nd) (by rw [c.nn]; exact hi) (by rw [c.nn]; exact hj) (by rw [c.nn]; exact hl') hij hil hjl (by rw [c.sc]; exact hx) (by rw [c.sc]; exact hy) (by rw [c.sc]; exact hz) (par X _) (swP_eq c.sc hk hw)) ?_
    rw [MP.eS_par] at g
    refine simAs ha X c w W tk env hp m σ H _ er hr ((gd_args g fun ds h1 vs m1 H1 _ k1 hr1 r1 g1 => ?_).z (zw σ hl))
    obtain ⟨env', e, g2⟩ := g1.optBind
    obtain ⟨u, v, t, e1, h2, h3, h4, rfl⟩ := setN3 e
    have e1 : ds = [u, v, t] := e1
    subst e1
    obtain ⟨u1, v1, t1, rfl, ru, rv, rt⟩ := rels3 r1
    exact ⟨_, _, _, rfl, gd_next g2 hr1 ((((er.keep hr k1).set ru h2).set rv (by simpa using h3)).set rt (by simpa using h4))⟩
theorem simS_augV {o : MP.BOp} {i : Nat} {x : Str} {e : MP.E} {pe : Expr} {p pos : Pos} (h : N[i]? = some x) (l : locB sc x = true) (f : fb x = true ∨ sc.names.lookup x = some .local) (he : TrE tb N sc fb e pe) : SimS tb N cs Φ G k sc fb Wf (.aug o (.var i) e) (.AugAssign (.Name x p) (bop o) pe pos) :=
  fun X c w W tk po Z zw env hp m σ H D er hr g => SR.len fun hl => by
    refine SR.of (fun hk => ps_aug (by rw [c.nn]; exact c.nd) (by rw [c.nn]; exact h) (by rw [c.sc]; exact loc_of l) (per X pe) (ipV X _) (by rw [c.fb, c.sc]; exact f)) ?_
    rw [MP.eS_augV, MP.eE_var] at g
    split at g
    · exact g.elim
    · rename_i d hd e
      obtain ⟨v, e1, r⟩ := er.2 i _ e hd
      refine ⟨v, e1, ?_⟩
      have g : Gd X.K (relF X.K) m H ((MP.eE Φ G _ env hp).bind fun y h2 => (MP.R.opt h2 (MP.augI o d y)).bind fun z h3 => if i < env.length then .ok (.nxt (env.set i z)) h3 else .bad) (atE D) Z := g
      refine simE he X c w W tk env hp m σ H _ er hr ((g.bind fun y h1 v1 m1 H1 _ k1 hr1 r1 g1 => ?_).z (zw σ hl))
      obtain ⟨z, e2, g2⟩ := g1.optBind
      refine augI_sound (r.keep hr.mut k1) r1 e2 fun u ru => ?_
      split at g2
      · rename_i hi
        exact gd_next g2 hr1 ((er.keep hr k1).set ru hi)
      · exact g2.elim
    · exact g.elim
theorem simS_augI {o : MP.BOp} {a b e : MP.E} {pa pb pe : Expr} {p pos : Pos} (ha : TrE tb N sc fb a pa) (hb : TrE tb N sc fb b pb) (he : TrE tb N sc fb e pe) : SimS tb N cs Φ G k sc fb Wf (.aug o (.idx a b) e) (.AugAssign (.Subscript pa pb p) (bop o) pe pos) :=
  fun X c w W tk po Z zw env hp m σ H D er hr g => SR.len fun hl => by
    refine SR.of (fun hk => ps_augS (per X _) (per X _) (getV X) (per X _) (ipV X _) (setV X) (fun ov iv new => by cases hb <;> rfl)) ?_
    rw [MP.eS_augI] at g
    refine simE ha X c w W tk env hp m σ H _ er hr ((g.bind fun d1 h1 v1 m1 H1 _ k1 hr1 r1 g1 => ?_).z (zw σ hl))
    have er1 := er.keep hr k1
    refine simE hb X c w W tk env h1 m1 σ H1 _ er1 hr1 ((g1.bind fun d2 h2 v2 m2 H2 _ k2 hr2 r2 g2 => ?_).z (zw σ hl))
    have er2 := er1.keep hr1 k2
    obtain ⟨y, e3, g3⟩ := g2.optBind
    have r1' := r1.keep hr1.mut k2
    have hL : ∃ n, d1 = .ref n := by
      rw [Option.bind_eq_some_iff] at e3
      obtain ⟨_, q, _⟩ := e3
      unfold MP.isL at q
      split at q
      · exact ⟨_, rfl⟩
      · cases q
    have e3 : MP.opI d1 d2 h2 = some y := by
      rw [Option.bind_eq_some_iff] at e3
      exact e3.choose_spec.2
    refine getL_sound hr2 r1' r2 e3 hL fun v3 r3 => ?_
    refine simE he X c w W tk env h2 m2 σ H2 _ er2 hr2 ((g3.bind fun d4 h4 v4 m4 H4 _ k4 hr4 r4 g4 => ?_).z (zw σ hl))
    obtain ⟨u, e5, g5⟩ := g4.optBind
    refine augI_sound (r3.keep hr2.mut k4) r4 e5 fun v5 r5 => ?_
    refine setL_sound (Q := fun _ H6 => D.nx σ H6) (Z := Z) hr4 (r1'.keep hr2.mut k4) (r2.keep hr2.mut k4) r5 (g5.bind fun _ h6 _ m6 H6 _ k6 hr6 _ g6 => ?_)
    exact gd_next g6 hr6 ((er2.keep hr2 k4).keep hr4 k6)
end
end MPS
namespace MPS
open PySem PySem.Spec PyProof.Rows L2 PySem.W
section
variable {tb : Tb} {N : List Str} {cs : List Addr} {Φ : Nat → List MP.D → MP.Heap → MP.R MP.D} {G : List MP.D} {k : Nat} {sc : Scope} {fb : Str → Bool} {Wf : Nat}
theorem simS_exp {e : MP.E} {pe : Expr} {pos : Pos} (he : TrE tb N sc fb e pe) (hn : nolc pe = true) : SimS tb N cs Φ G k sc fb Wf (.exp e) (.Expr pe pos) :=
  fun X c w W tk po Z zw env hp m σ H D er hr g => SR.len fun hl => by
    refine SR.of (fun hk => ps_expr (per X pe) (nolc_eq hn)) ?_
    rw [MP.eS_exp] at g
    refine simE he X c w W tk env hp m σ H _ er hr ((g.bind fun d h1 v m1 H1 _ k1 hr1 r1 g1 => ?_).z (zw σ hl))
    exact gd_next g1 hr1 (er.keep hr k1)
theorem tru_bind {α : Type} {e : MP.E} {env : MP.Env} {h : MP.Heap} {f : Bool → MP.Heap → MP.R α} : ((MP.eE Φ G e env h).bind fun x h1 => (MP.tru x h1).bind f) = (tE Φ G e env h).bind f := by
  unfold tE
  cases MP.eE Φ G e env h <;> rfl
theorem simS_ite {e : MP.E} {a b : MP.S} {pe : Expr} {pa pb : List Stmt} {pos : Pos} (he : TrE tb N sc fb e pe) (sa : SimB tb N cs Φ G k sc fb Wf a pa) (sb : SimB tb N cs Φ G k sc fb Wf b pb) : SimS tb N cs Φ G k sc fb Wf (.ite e a b) (.If pe pa pb pos) :=
  fun X c w W tk po Z zw env hp m σ H D er hr g => SR.len fun hl => by
    refine SR.of (fun hk => ps_if (ptr X pe) (pssr X _) (pssr X _)) ?_
    rw [MP.eS_ite, tru_bind] at g
    refine simT he X c w W tk env hp m σ H _ er hr ((g.bind fun q h1 q' m1 H1 _ k1 hr1 r1 g1 => ?_).z (zw σ hl))
    cases r1
    cases q with
    | true =>
      simp only [if_true] at g1 ⊢
      exact sa X c w W tk po Z zw env h1 m1 σ H1 D (er.keep hr k1) hr1 g1
    | false =>
      simp only [Bool.false_eq_true, if_false] at g1 ⊢
      exact sb X c w W tk po Z zw env h1 m1 σ H1 D (er.keep hr k1) hr1 g1
theorem simS_ret {e : MP.E} {pe : Expr} {pos : Pos} (he : TrE tb N sc fb e pe) : SimS tb N cs Φ G k sc fb Wf (.ret e) (.Return (some pe) pos) :=
  fun X c w W tk po Z zw env hp m σ H D er hr g => SR.len fun hl => by
    refine SR.of (fun hk => ps_ret (per X pe)) ?_
    rw [MP.eS_ret] at g
    refine simE he X c w W tk env hp m σ H _ er hr ((g.bind fun d h1 v m1 H1 _ k1 hr1 r1 g1 => ?_).z (zw σ hl))
    exact g1 (.ret v) m1 H1 (.refl _ _) hr1 r1
theorem simS_whl {e : MP.E} {b : MP.S} {pe : Expr} {pb : List Stmt} {pos : Pos} (he : TrE tb N sc fb e pe) (sb : SimB tb N cs Φ G k sc fb Wf b pb) : SimS tb N cs Φ G k sc fb Wf (.whl e b) (.While pe pb [] pos) :=
  fun X c w W tk po Z zw env hp m σ H D er hr g pins s I => by
    refine (SR.of (fun hk => ps_while po (ptr X pe) (pssr X _)) ?_ : SR X (.While pe pb [] pos) D σ H) pins s I
    rw [MP.eS_whl] at g
    refine ⟨fun n σ' H' => ∃ m' h' env', EnvR X.K m' H' env' σ' ∧ HR X.K m' h' H' ∧ Gd X.K (relF X.K) m' H' (MP.loop (fun env h => (MP.eE Φ G e env h).bind fun x h1 => MP.tru x h1) (fun env h => MP.eS Φ G Wf b env h) n env' h') (atE D) Z, ⟨Wf, m, hp, env, er, hr, g⟩, ?_⟩
    rintro n σ1 H1 ⟨m1, h1, env1, er1, hr1, g1⟩
    refine TR.len fun hl => ?_
    cases n with
    | zero => unfold MP.loop at g1; exact g1.elim
    | succ n =>
      unfold MP.loop at g1
      refine simT he X c w W tk env1 h1 m1 σ1 H1 _ er1 hr1 (((show Gd X.K (relF X.K) m1 H1 ((tE Φ G e env1 h1).bind _) _ Z from g1).bind fun q h2 q' m2 H2 _ k2 hr2 r2 g2 => ?_).z (zw σ1 hl))
      cases r2
      have er2 := er1.keep hr1 k2
      cases q with
      | false =>
        simp only [Bool.false_eq_true, if_false] at g2 ⊢
        exact gd_next g2 hr2 er2
      | true =>
        simp only [if_true] at g2 ⊢
        refine ⟨fun σ' H' => ∃ m' h' env', EnvR X.K m' H' env' σ' ∧ HR X.K m' h' H' ∧ Gd X.K (relF X.K) m' H' (MP.loop (fun env h => (MP.eE Φ G e env h).bind fun x h1 => MP.tru x h1) (fun env h => MP.eS Φ G Wf b env h) n env' h') (atE D) Z, fun σ' H' z => ⟨n, Nat.lt_succ_self n, z⟩, ?_⟩
        refine sb X c w W tk po Z zw env1 h2 m2 σ1 H2 _ er2 hr2 (g2.bind fun f h3 f' m3 H3 _ k3 hr3 r3 g3 => ?_)
        cases f <;> cases f' <;> first | exact r3.elim | skip
        · exact ⟨m3, h3, _, r3, hr3, g3⟩
        · exact g3 (.ret _) m3 H3 (.refl _ _) hr3 r3
        · exact gd_next g3 hr3 r3
        · exact ⟨m3, h3, _, r3, hr3, g3⟩
theorem simS_for {t : MP.E} {ik : MP.ItK} {ia : MP.E} {b : MP.S} {pt pi : Expr} {pb : List Stmt} {pos : Pos} (ht : TrT N sc fb t pt) (hi : TrI tb N sc fb ik ia pt pi) (sb : SimB tb N cs Φ G k sc fb Wf b pb) : SimS tb N cs Φ G k sc fb Wf (.for t ik ia b) (.For pt pi pb [] pos) :=
  fun X c w W tk po Z zw env hp m σ H D er hr g => SR.len fun hl => by
    refine SR.of (fun hk => ps_for po c.calm (pir X pt pi) (pgOf c ht) (pssr X _) (hi.fold _)) ?_
    have e0 : MP.eS Φ G Wf (.for t ik ia b) env hp = (iE Φ G ik ia env hp).bind fun p h1 => MP.forL (fun x env h => MP.R.opt h (MP.bindT t x env)) (fun env h => MP.eS Φ G Wf b env h) p.2 p.1 env h1 := by
      rw [MP.eS_for]
      unfold iE
      cases MP.eE Φ G ia env hp with
      | ok ds h1 =>
        simp only [MP.R.bind]
        cases MP.iterOf ik (MP.args ds) h1 <;> rfl
      | exc cc h1 => rfl
      | bad => rfl
    rw [e0] at g
    refine simIt hi X c w W tk env hp m σ H _ er hr ((g.bind fun p h1 J m1 H1 _ k1 hr1 wk g1 => ?_).z (zw σ hl))
    obtain ⟨xs, gd⟩ := p
    refine ⟨fun i n σ' H' => n = xs.length - i ∧ i ≤ xs.length ∧ ∃ m' h' env', EnvR X.K m' H' env' σ' ∧ HR X.K m' h' H' ∧ Kp m1 H1 m' H' ∧ Gd X.K (relF X.K) m' H' (MP.forL (fun x env h => MP.R.opt h (MP.bindT t x env)) (fun env h => MP.eS Φ G Wf b env h) gd (xs.drop i) env' h') (atE D) Z,
      ⟨xs.length, by simp, Nat.zero_le _, m1, h1, env, er.keep hr k1, hr1, .refl _ _, by rw [List.drop_zero]; exact g1⟩, ?_⟩
    rintro i n σ' H' ⟨rfl, hi', mc, hc, envc, erc, hrc, kc, gc⟩
    by_cases hlt : i < xs.length
    · right
      rw [List.drop_eq_getElem_cons hlt] at gc
      unfold MP.forL at gc
      split at gc
      · rename_i hg
        obtain ⟨wk1, _⟩ := wk mc hc H' kc.w hrc hg
        obtain ⟨go, wy⟩ := wk1 i xs[i] (List.getElem?_eq_getElem hlt)
        refine ⟨go, fun σ'' H'' => ∃ m' h' env', EnvR X.K m' H'' env' σ'' ∧ HR X.K m' h' H'' ∧ Kp m1 H1 m' H'' ∧ Gd X.K (relF X.K) m' H'' (MP.forL (fun x env h => MP.R.opt h (MP.bindT t x env)) (fun env h => MP.eS Φ G Wf b env h) gd (xs.drop (i + 1)) env' h') (atE D) Z,
          fun σ'' H'' hN => ⟨xs.length - (i + 1), by omega, rfl, hlt, hN⟩, fun x H2 hy => ?_⟩
        obtain ⟨k2, hr2, rx⟩ := wy x H2 hy
        obtain ⟨env2, e2, g2⟩ := gc.optBind
        refine bind_ok (erc.keep hrc k2) rx e2 fun σ2 er2 _ => ?_
        refine sb X c w W tk po Z zw env2 hc mc σ2 H2 _ er2 hr2 ((Gd.shift (r := (MP.eS Φ G Wf b env2 hc).bind _) k2 g2).bind fun f h3 f' m3 H3 _ k3 hr3 r3 g3 => ?_)
        cases f <;> cases f' <;> first | exact r3.elim | skip
        · exact ⟨m3, h3, _, r3, hr3, kc.trans (k2.trans k3), g3⟩
        · exact g3 (.ret _) m3 H3 (.refl _ _) hr3 r3
        · exact gd_next g3 hr3 r3
        · exact ⟨m3, h3, _, r3, hr3, kc.trans (k2.trans k3), g3⟩
      · exact gc.elim
    · left
      have hi'' : i = xs.length := by omega
      subst hi''
      rw [List.drop_length] at gc
      unfold MP.forL at gc
      split at gc
      · rename_i hg
        exact ⟨(wk mc hc H' kc.w hrc hg).2, gd_next gc hrc erc⟩
      · exact gc.elim
theorem mainS : ∀ (n : Nat) (e : MP.S), sizeOf e < n → (∀ st, TrS tb N sc fb e st → SimS tb N cs Φ G k sc fb Wf e st) ∧ (∀ sts, TrB tb N sc fb e sts → SimB tb N cs Φ G k sc fb Wf e sts) := fun n => by
  induction n with
  | zero => exact fun e h => absurd h (Nat.not_lt_zero _)
  | succ n ih =>
    intro e hn
    refine ⟨fun st h => ?_, fun sts h => ?_⟩
    · cases h with
      | pass => exact fun X c w W tk po Z zw env hp m σ H D er hr g => SR.of (fun _ => ps_pass) (gd_next (by rw [MP.eS_pass] at g; exact g) hr er)
      | asgV h l f he hs => exact simS_asgV h l f he hs
      | asgL h l he hs => exact simS_asgL h l he hs
      | asgG ht he hs => exact simS_asgG ht he hs
      | par hi hj hij hx hy ha hw => exact simS_par hi hj hij hx hy ha hw
      | par3 hi hj hl hij hil hjl hx hy hz ha hw => exact simS_par3 hi hj hl hij hil hjl hx hy hz ha hw
      | augV h l f n he => exact simS_augV h l f he
      | augI ha hb he hsl => exact simS_augI ha hb he
      | exp he hn2 => exact simS_exp he hn2
      | ite hc ha hb => exact simS_ite hc ((ih _ (by simp at hn; omega)).2 _ ha) ((ih _ (by simp at hn; omega)).2 _ hb)
      | whl hc hb => exact simS_whl hc ((ih _ (by simp at hn; omega)).2 _ hb)
      | «for» ht hi hb => exact simS_for ht hi ((ih _ (by simp at hn; omega)).2 _ hb)
      | ret he => exact simS_ret he
      | retN => exact fun X c w W tk po Z zw env hp m σ H D er hr g => SR.of (fun _ => ps_retN) (by rw [MP.eS_retN] at g; exact g (.ret .non) m H (.refl _ _) hr .non)
      | brk => exact fun X c w W tk po Z zw env hp m σ H D er hr g => SR.of (fun _ => ps_break) (by rw [MP.eS_brk] at g; exact g (.brk σ) m H (.refl _ _) hr er)
      | cnt => exact fun X c w W tk po Z zw env hp m σ H D er hr g => SR.of (fun _ => ps_continue) (by rw [MP.eS_cnt] at g; exact g (.cnt σ) m H (.refl _ _) hr er)
      | bad => exact fun X c w W tk po Z zw env hp m σ H D er hr g => by rw [MP.eS_bad] at g; exact g.elim
    · cases h with
      | nil => exact fun X c w W tk po Z zw env hp m σ H D er hr g => SRs.of pss_nil (gd_next (by rw [MP.eS_nil] at g; exact g) hr er)
      | cons ha hr => exact simSs ((ih _ (by simp at hn; omega)).1 _ ha) ((ih _ (by simp at hn; omega)).2 _ hr)
theorem simB {e : MP.S} {sts : List Stmt} (h : TrB tb N sc fb e sts) : SimB tb N cs Φ G k sc fb Wf e sts := (mainS _ e (Nat.lt_succ_self _)).2 sts h
end
end MPS
namespace MPS
open PySem PySem.Spec PyProof.Rows L2 PySem.W
section
variable {K : PySem.W.Frag} {m m' : Pl} {H H' : Hp} {h h' : MP.Heap}
/-! ### places that are behind a call's end forgotten -/
theorem Fz.less (t : List Addr) (e : m'.at_ = m.at_ ++ t) (eb : m'.ban = m.ban) {a : Addr} {vs : List V} (x : Fz K m' H a vs) : Fz K m H a vs := by
  rcases x with ⟨x, n, nb⟩ | x
  · exact .inl ⟨x, fun z => n (by rw [e]; exact List.mem_append_left _ z), by rw [← eb]; exact nb⟩
  · exact .inr x
mutual
theorem Rel.less (t : List Addr) (e : m'.at_ = m.at_ ++ t) (eb : m'.ban = m.ban) : ∀ {d : MP.D} {v : V}, d.low m.at_.length = true → Rel K m' H d v → Rel K m H d v
  | _, _, _, .non => .non
  | _, _, _, .bl b => .bl b
  | _, _, _, .int i => .int i
  | _, _, _, .str x => .str x
  | _, _, l, .tup h r => .tup h (Rels.less t e eb (by simpa [MP.D.low] using l) r)
  | _, _, l, .lst h n nb r => .lst h (fun z => n (by rw [e]; exact List.mem_append_left _ z)) (by rw [← eb]; exact nb) (Rels.less t e eb (by simpa [MP.D.low] using l) r)
  | _, _, l, .frz h r => .frz (h.less t e eb) (Rels.less t e eb (by simpa [MP.D.low] using l) r)
  | .ref n, _, l, .ref h => .ref (by
      have l : n < m.at_.length := by simpa [MP.D.low] using l
      rw [e, List.getElem?_append_left l] at h
      exact h)
theorem Rels.less (t : List Addr) (e : m'.at_ = m.at_ ++ t) (eb : m'.ban = m.ban) : ∀ {ds : List MP.D} {vs : List V}, MP.D.lows m.at_.length ds = true → Rels K m' H ds vs → Rels K m H ds vs
  | _, _, _, .nil => .nil
  | d :: ds, _, l, .cons h r => by
    have l : MP.D.low m.at_.length d = true ∧ MP.D.lows m.at_.length ds = true := by simpa [MP.D.lows] using l
    exact .cons (Rel.less t e eb l.1 h) (Rels.less t e eb l.2 r)
end
theorem gc (hr0 : HR K m h H) (k : Kp m H m' H') (hr : HR K m' h' H') (l : (h'.take h.length).all (MP.Ob.low h.length) = true) : Kp m H m H' ∧ HR K m (h'.take h.length) H' := by
  obtain ⟨t, e⟩ := k.pre
  have hn : m.at_.length = h.length := hr0.len
  have hl : h.length ≤ h'.length := by rw [← hr.len, e, List.length_append, hn]; omega
  refine ⟨⟨⟨[], by simp⟩, rfl, fun a o x n => ⟨(k.keep a o x n).1, n⟩⟩, ⟨by rw [List.length_take, hn]; omega, hr0.nd, fun i a o e1 e2 => ?_, fun a ha => ?_⟩⟩
  · have hi : i < m.at_.length := (List.getElem?_eq_some_iff.mp e1).1
    rw [List.getElem?_take_of_lt (by omega)] at e2
    have low : MP.Ob.low h.length o = true := by
      rw [List.all_eq_true] at l
      apply l
      rw [List.mem_iff_getElem?]
      exact ⟨i, by rw [List.getElem?_take_of_lt (by omega)]; exact e2⟩
    have x := hr.ob i a o (by rw [e, List.getElem?_append_left hi]; exact e1) e2
    cases o with
    | lst xs =>
      obtain ⟨vs, q1, q2⟩ := x
      exact ⟨vs, q1, q2.less t e k.ban (by rw [hn]; exact low)⟩
    | dic _ => exact x.elim
    | set _ => exact x.elim
    | hid => exact x.elim
  · obtain ⟨q1, q2⟩ := hr.bn a (by rw [k.ban]; exact ha)
    exact ⟨q1, fun z => q2 (by rw [e]; exact List.mem_append_left _ z)⟩
theorem gcT (hr0 : HR K m h H) (k : Kp m H m' H') (hr : HR K m' h' H') : ∃ m2, Kp m H m2 H' ∧ HR K m2 (MP.trim h.length h') H' := by
  unfold MP.trim
  split
  · rename_i l
    exact ⟨m, gc hr0 k hr l⟩
  · exact ⟨m', k, hr⟩
theorem start_rel {N : List Str} {ds : List MP.D} {vs : List V} (r : Rels K m H ds vs) {ns : Nat} (hns : ns = N.length) : EnvR K m H (ds ++ List.replicate (ns - ds.length) .und) (L2.start N vs) := by
  subst hns
  refine ⟨by simp [L2.start, r.length], fun i d e1 e2 => ?_⟩
  by_cases hi : i < ds.length
  · rw [List.getElem?_append_left hi] at e1
    obtain ⟨v, e3, rv⟩ := r.get e1
    refine ⟨v, ?_, rv⟩
    unfold L2.start
    rw [List.getElem?_append_left (by rw [List.length_map, ← r.length]; exact hi), List.getElem?_map, e3]
    rfl
  · rw [List.getElem?_append_right (by omega)] at e1
    have := List.mem_of_getElem? e1
    rw [List.mem_replicate] at this
    exact absurd this.2 e2
end
/-! ### defs -/
structure DefOk (K : PySem.W.Frag) (mg : Str → Option Value) (tb : Tb) (x : Str) (fn : MP.Fn) (a : Addr) (fd : FuncData) (st : Stmt) (N ps : List Str) : Prop where
  mg : mg x = some (.ref a)
  bind : Binds K fd ps []
  bindS : ∀ (s : Shared) (us : List Value), us.length = ps.length → BindsTo s fd ⟨us, []⟩ (ps.zip us)
  fun_ : Fun K x x st a fd
  sco : FnScope N ps (defScope st)
  np : fn.np = ps.length
  ns : fn.ns = N.length
  body : TrB tb N (defScope st) (fun _ => true) fn.body (defBody st)
section
variable {P : Program} {w : World} {K : PySem.W.Frag} {mg : Str → Option Value} {base : Heap} {tb : Tb} {cs : List Addr} {fns : List MP.Fn} {G : List MP.D} {Wf : Nat}
theorem def_step {k : Nat} {f : Nat} {x : Str} {fn : MP.Fn} {a : Addr} {fd : FuncData} {st : Stmt} {N ps : List Str} (hf : fns[f]? = some fn) (d : DefOk K mg tb x fn a fd st N ps) (w' : Wld P w K mg base tb cs (MP.callF fns G Wf k) G k) :
    FnOk P w K mg base (L2.CX P w) (k + 1) a fd ps (spF K cs (MP.callF fns G Wf (k + 1) f) ps.length) := by
  refine d.fun_.okX d.sco (fun vs H Q E h => h.1) (fun cdv A outer s H vs Q E hr h => ?_)
  obtain ⟨hl, m, h0, ds, hr0, rs, g⟩ := h
  refine ⟨_, pssr _ _, ?_⟩
  have hds : ds.length = fn.np := by rw [d.np, ← hl]; exact rs.length
  have g : Gd K (Rel K) m H (MP.back h0.length (MP.eS (MP.callF fns G Wf k) G Wf fn.body (ds ++ List.replicate (fn.ns - fn.np) .und) h0)) Q (fun c H' => ∀ C, cs[c]? = some C → E (.ref C) none H') := by
    have e : MP.callF fns G Wf (k + 1) f ds h0 = MP.back h0.length (MP.eS (MP.callF fns G Wf k) G Wf fn.body (ds ++ List.replicate (fn.ns - fn.np) .und) h0) := by
      show (match fns[f]? with | none => _ | some fn => _) = _
      rw [hf]
      show (if ds.length = fn.np then _ else _) = _
      rw [if_pos hds]
    rw [← e]; exact g
  have er : EnvR K m H (ds ++ List.replicate (fn.ns - fn.np) .und) (L2.start N vs) := by rw [← hds]; exact start_rel rs d.ns
  refine simB (Wf := Wf) d.body (cxOf (L2.CX P w) P w K mg base N x (defScope st) a cdv A outer s H E) ⟨rfl, hr, d.sco.nd, rfl, rfl, rfl⟩ w' (fun cls d _ H' => E cls d H') (takes_of rfl rfl rfl rfl) (passes_of rfl) (fun c H' => ∀ C, cs[c]? = some C → E (.ref C) none H') (fun _ _ _ _ z => z) _ h0 m (L2.start N vs) H _ er hr0 ?_
  cases q : MP.eS (MP.callF fns G Wf k) G Wf fn.body (ds ++ List.replicate (fn.ns - fn.np) .und) h0 with
  | ok fl h1 =>
    rw [q] at g
    intro v m1 H1 k1 hr1 r1
    cases fl <;> cases v <;> first | exact r1.elim | skip
    · obtain ⟨m2, k2, hr2⟩ := gcT hr0 k1 hr1
      exact g .non m2 H1 k2 hr2 .non
    · rename_i dd vv
      have r1 : Rel K m1 H1 dd vv := r1
      unfold MP.back at g
      simp only at g
      split at g
      · rename_i l
        rw [Bool.and_eq_true] at l
        obtain ⟨k2, hr2⟩ := gc hr0 k1 hr1 l.2
        obtain ⟨t, e⟩ := k1.pre
        exact g vv m H1 k2 hr2 (r1.less t e k1.ban (by rw [hr0.len]; exact l.1))
      · exact g vv m1 H1 k1 hr1 r1
    · exact g.elim
    · exact g.elim
  | exc c h1 =>
    rw [q] at g
    intro m1 H1 k1 hr1
    obtain ⟨m2, k2, hr2⟩ := gcT hr0 k1 hr1
    exact g m2 H1 k2 hr2
  | bad => rw [q] at g; exact g.elim
structure Txt (K : PySem.W.Frag) (mg : Str → Option Value) (tb : Tb) (fns : List MP.Fn) (G : List MP.D) (pss : List (List Str)) : Prop where
  fns : ∀ (f : Nat) (x : Str), tb.fn[f]? = some x → ∃ fn a fd st N ps, fns[f]? = some fn ∧ pss[f]? = some ps ∧ DefOk K mg tb x fn a fd st N ps
  glo : ∀ (j : Nat) (x : Str), tb.gn[j]? = some x → ∃ (d : MP.D) (u : Value) (v : V), G[j]? = some d ∧ mg x = some u ∧ RelV v u ∧ ∀ m H, Rel K m H d v
  blt : ∀ x ∈ tb.bl, mg x = none
theorem callF_len {k f : Nat} {fn : MP.Fn} (hf : fns[f]? = some fn) {ds : List MP.D} {h : MP.Heap} (e : MP.callF fns G Wf k f ds h ≠ .bad) : ds.length = fn.np := by
  cases k with
  | zero => exact absurd rfl e
  | succ k =>
    by_cases hd : ds.length = fn.np
    · exact hd
    · refine absurd ?_ e
      show (match fns[f]? with | none => _ | some fn => _) = _
      rw [hf]
      show (if ds.length = fn.np then _ else _) = _
      rw [if_neg hd]
theorem wld {pss : List (List Str)} (T : Txt K mg tb fns G pss) : ∀ k, Wld P w K mg base tb cs (MP.callF fns G Wf k) G k := fun k => by
  induction k with
  | zero =>
    refine ⟨fun f x e => ?_, T.glo, T.blt⟩
    obtain ⟨fn, a, fd, st, N, ps, hf, _, d⟩ := T.fns f x e
    refine ⟨a, fd, ps, d.mg, d.fun_.kp, d.bind, ⟨fun vs H Q E h => h.1, fun A outer s H args us vs Q E hr he hb hv hs => ?_⟩, fun ds h e => by rw [← d.np]; exact callF_len hf e⟩
    obtain ⟨_, m, h, ds, _, _, g⟩ := hs
    exact g.elim
  | succ k ih =>
    refine ⟨fun f x e => ?_, T.glo, T.blt⟩
    obtain ⟨fn, a, fd, st, N, ps, hf, _, d⟩ := T.fns f x e
    exact ⟨a, fd, ps, d.mg, d.fun_.kp, d.bind, def_step hf d ih, fun ds h e => by rw [← d.np]; exact callF_len hf e⟩
/-- the law's promise: the list of intsOf that is handed in, True -/
theorem law_sp {fL Kk : Nat} (L : ∀ ns : List Int, ns.length ≤ 63 → ∃ h', MP.callF fns G Wf Kk fL [.frz (ns.map .int)] [] = .ok (.bl true) h') (H : Hp) (a : Addr) (ns : List Int) (hl : ns.length ≤ 63) (hS : SqL K H a (ns.map V.int)) :
    spF K [] (MP.callF fns G Wf Kk fL) 1 [.ref a] H (fun v _ => v = .bl true) fun _ _ _ => False := by
  obtain ⟨h', e⟩ := L ns hl
  refine ⟨rfl, ⟨[], []⟩, [], [.frz (ns.map .int)], ⟨rfl, List.nodup_nil, fun n a o e => by simp at e, fun a ha => by simp at ha⟩, .cons (.frz ?_ (rels_ints ns)) .nil, ?_⟩
  · rcases hS with x | x
    · exact .inl ⟨x, by simp, by simp⟩
    · exact .inr x
  · rw [e]
    intro v m' H' _ _ r
    cases r; rfl
end
end MPS
namespace MPS
open PySem PySem.Spec PyProof.Rows L2 PySem.W
/-! ### the translation, checked -/
section
variable (tb : Tb) (N : List Str)
def chkA (f : MP.E → Expr → Bool) : MP.E → List Expr → Bool
  | .nil, [] => true
  | .cons a r, pa :: pr => f a pa && chkA f r pr
  | _, _ => false
def chkO (f : MP.E → Expr → Bool) (e : MP.E) : Option Expr → Bool
  | none => (match e with | .con .und => true | _ => false)
  | some pe => f e pe
def chkT : Nat → Scope → (Str → Bool) → MP.E → Expr → Bool
  | 0, _, _, _, _ => false
  | n + 1, sc, fb, e, pe => match e with
    | .var i => (match pe with | .Name x _ => decide (N[i]? = some x) && locB sc x && (fb x || decide (sc.names.lookup x = some .local)) | _ => false)
    | .tup es => (match pe with | .Tuple pes _ _ => chkA (chkT n sc fb) es pes | _ => false)
    | _ => false
def chkC (f : MP.E → Expr → Bool) (e : MP.E) : List Expr → Bool
  | [] => (match e with | .con (.bl true) => true | _ => false)
  | [pe] => f e pe
  | _ => false
def chkI (f : MP.E → Expr → Bool) (sc : Scope) (k : MP.ItK) (ia : MP.E) (tg pi : Expr) : Bool := match k with
  | .gen => (match ia with | .cons a .nil => f a pi | _ => false)
  | .rng => (match pi with | .Call (.Name x _) pes [] _ => decide (x = "range") && decide (("range" : Str) ∈ tb.bl) && glB sc "range" && chkA f ia pes && (pes.length == 1 || pes.length == 2) | _ => false)
  | .enum => (match ia with | .cons a .nil => (match tg with | .Tuple _ _ _ => (match pi with | .Call (.Name x _) [pa] [] _ => decide (x = "enumerate") && decide (("enumerate" : Str) ∈ tb.bl) && glB sc "enumerate" && f a pa | _ => false) | _ => false) | _ => false)
  | .zip => (match ia with | .cons a (.cons b .nil) => (match tg with | .Tuple _ _ _ => (match pi with | .Call (.Name x _) [pa, pb] [] _ => decide (x = "zip") && decide (("zip" : Str) ∈ tb.bl) && glB sc "zip" && f a pa && f b pb | _ => false) | _ => false) | _ => false)
/-- the block's names -/
def ownOf : List Nat → List (Str × Nat)
  | [] => []
  | i :: is => match N[i]? with
    | some x => (x, i) :: ownOf is
    | none => ownOf is
def chkE : Nat → Scope → (Str → Bool) → MP.E → Expr → Bool
  | 0, _, _, _, _ => false
  | n + 1, sc, fb, e, pe => match e with
    | .var i => (match pe with | .Name x _ => decide (N[i]? = some x) && visB sc x && nmB x | _ => false)
    | .con .non => (match pe with | .Constant .none _ _ => true | _ => false)
    | .con (.bl b) => (match pe with | .Constant (.bool c) _ _ => b == c | _ => false)
    | .con (.int i) => (match pe with | .Constant (.int j) _ _ => decide (i = j) | _ => false)
    | .con (.str l) => (match pe with | .Constant (.str x) _ _ => decide (l = x.cps.toList) | _ => false)
    | .glo j => (match pe with | .Name x _ => decide (tb.gn[j]? = some x) && glB sc x && nmB x | _ => false)
    | .tup es => (match pe with | .Tuple pes _ _ => chkA (chkE n sc fb) es pes && decide (pes.length ≤ 1000) | _ => false)
    | .lst _ es => (match pe with | .List pes _ => chkA (chkE n sc fb) es pes | _ => false)
    | .bin o a b => (match pe with | .BinOp pa op pb _ => decide (op = bop o) && chkE n sc fb a pa && chkE n sc fb b pb | _ => false)
    | .neg a => (match pe with | .UnaryOp .USub pa _ => chkE n sc fb a pa | _ => false)
    | .cmp o a b => (match pe with | .Compare pa [op] [pb] _ => decide (op = cop o) && chkE n sc fb a pa && chkE n sc fb b pb | _ => false)
    | .chn o p a b c => (match pe with | .Compare pa [op, oq] [pb, pc] _ => decide (op = cop o) && decide (oq = cop p) && chkE n sc fb a pa && chkE n sc fb b pb && chkE n sc fb c pc | _ => false)
    | .and2 a r => (match pe with | .BoolOp .And (pa :: pb :: ps) pos => chkE n sc fb a pa && chkE n sc fb r (.BoolOp .And (pb :: ps) pos) | _ => false)
    | .or2 a r => (match pe with | .BoolOp .Or (pa :: pb :: ps) pos => chkE n sc fb a pa && chkE n sc fb r (.BoolOp .Or (pb :: ps) pos) | _ => false)
    | .one a => (match pe with | .BoolOp _ [pa] _ => chkE n sc fb a pa | _ => false)
    | .nt a => (match pe with | .UnaryOp .Not pa _ => chkE n sc fb a pa | _ => false)
    | .ite c a b => (match pe with | .IfExp pc pa pb _ => chkE n sc fb c pc && chkE n sc fb a pa && chkE n sc fb b pb | _ => false)
    | .idx a b => (match pe with | .Subscript pa pb _ => chkE n sc fb a pa && chkE n sc fb b pb | _ => false)
    | .slc _ a lo hi => (match pe with | .Subscript pa (.Slice pl ph none _) _ => chkE n sc fb a pa && chkO (chkE n sc fb) lo pl && chkO (chkE n sc fb) hi ph | _ => false)
    | .rev _ a => (match pe with | .Subscript pa (.Slice none none (some (.UnaryOp .USub (.Constant (.int j) _ _) _)) _) _ => decide (j = 1) && chkE n sc fb a pa | _ => false)
    | .call f es => (match pe with | .Call (.Name x _) (pe :: pes) [] _ => decide (tb.fn[f]? = some x) && glB sc x && nmB x && chkA (chkE n sc fb) es (pe :: pes) | _ => false)
    | .blt (.isinst t) es => (match es with | .cons a .nil => (match pe with | .Call (.Name x _) [pa, .Name y _] [] _ => decide (x = "isinstance") && decide (("isinstance" : Str) ∈ tb.bl) && glB sc "isinstance" && decide (y = Str.ofString (tyN t)) && decide (Str.ofString (tyN t) ∈ tb.bl) && glB sc (Str.ofString (tyN t)) && chkE n sc fb a pa | _ => false) | _ => false)
    | .blt (.listR _) es => (match pe with | .Call (.Name x _) [.Call (.Name y _) pes [] _] [] _ => decide (x = "list") && decide (("list" : Str) ∈ tb.bl) && glB sc "list" && decide (y = "range") && decide (("range" : Str) ∈ tb.bl) && glB sc "range" && chkA (chkE n sc fb) es pes && (pes.length == 1 || pes.length == 2) | _ => false)
    | .blt f es => (match plainF f with
      | some (y, _) => (match pe with | .Call (.Name x _) (pe :: pes) [] _ => decide (x = y) && decide (x ∈ tb.bl) && glB sc x && chkA (chkE n sc fb) es (pe :: pes) | _ => false)
      | none => false)
    | .mth f o es => (match pe with
      | .Call (.Attribute po m apos) pes [] pos => decide (m = mtN f) && (apos.endLine == pos.line) && decide (pes.length < 30) && chkE n sc fb o po && chkA (chkE n sc fb) es pes
      | _ => false)
    | .lc _ tg k ia c el => (match pe with
      | .ListComp pel [⟨ptg, pit, ifs, 0⟩] scope _ => chkI tb (chkE n sc fb) sc k ia ptg pit && blkC N sc scope (ownOf N (MP.tgI tg)) && decide ((ownOf N (MP.tgI tg)).map (·.2) = MP.tgI tg) && chkT N n (relS scope sc) (cfb scope) tg ptg && chkC (chkE n (relS scope sc) (cfb scope)) c ifs && chkE n (relS scope sc) (cfb scope) el pel
      | _ => false)
    | .lc2 _ tg k ia c tg1 k1 ia1 c1 el => (match pe with
      | .ListComp pel [⟨ptg, pit, ifs, 0⟩, ⟨ptg1, pit1, ifs1, 0⟩] scope _ => chkI tb (chkE n sc fb) sc k ia ptg pit && blkC N sc scope (ownOf N (MP.tgI tg ++ MP.tgI tg1)) && decide ((ownOf N (MP.tgI tg ++ MP.tgI tg1)).map (·.2) = MP.tgI tg ++ MP.tgI tg1) && chkT N n (relS scope sc) (cfb scope) tg ptg && chkC (chkE n (relS scope sc) (cfb scope)) c ifs &&
          chkI tb (chkE n (relS scope sc) (cfb scope)) (relS scope sc) k1 ia1 ptg1 pit1 && chkT N n (relS scope sc) (cfb scope) tg1 ptg1 && chkC (chkE n (relS scope sc) (cfb scope)) c1 ifs1 && chkE n (relS scope sc) (cfb scope) el pel
      | _ => false)
    | _ => false
end
section
variable {tb : Tb} {N : List Str}
theorem chkA_ok {sc : Scope} {fb : Str → Bool} {f : MP.E → Expr → Bool} (hf : ∀ e pe, f e pe = true → TrE tb N sc fb e pe) : ∀ {es : MP.E} {pes : List Expr}, chkA f es pes = true → TrA tb N sc fb es pes := by
  intro es
  induction es with
  | nil => intro pes h; cases pes with | nil => exact .nil | cons a l => simp [chkA] at h
  | cons a r iha ihr =>
    intro pes h
    cases pes with
    | nil => simp [chkA] at h
    | cons p pr =>
      simp only [chkA, Bool.and_eq_true] at h
      exact .cons (hf _ _ h.1) (ihr h.2)
  | _ => intro pes h; cases pes <;> simp [chkA] at h
theorem chkTs_ok {sc : Scope} {fb : Str → Bool} {f : MP.E → Expr → Bool} (hf : ∀ e pe, f e pe = true → TrT N sc fb e pe) : ∀ {es : MP.E} {pes : List Expr}, chkA f es pes = true → TrTs N sc fb es pes := by
  intro es
  induction es with
  | nil => intro pes h; cases pes with | nil => exact .nil | cons a l => simp [chkA] at h
  | cons a r iha ihr =>
    intro pes h
    cases pes with
    | nil => simp [chkA] at h
    | cons p pr =>
      simp only [chkA, Bool.and_eq_true] at h
      exact .cons (hf _ _ h.1) (ihr h.2)
  | _ => intro pes h; cases pes <;> simp [chkA] at h
theorem chkT_ok : ∀ {n : Nat} {sc : Scope} {fb : Str → Bool} {e : MP.E} {pe : Expr}, chkT N n sc fb e pe = true → TrT N sc fb e pe := by
  intro n
  induction n with
  | zero => intro sc fb e pe h; simp [chkT] at h
  | succ n ih =>
    intro sc fb e pe h
    unfold chkT at h
    split at h
    · split at h
      · simp only [Bool.and_eq_true, Bool.or_eq_true, decide_eq_true_eq] at h
        exact .var h.1.1 h.1.2 h.2
      · cases h
    · split at h
      · exact .tup (chkTs_ok (fun e pe q => ih q) h)
      · cases h
    · cases h
theorem chkO_ok {sc : Scope} {fb : Str → Bool} {f : MP.E → Expr → Bool} (hf : ∀ e pe, f e pe = true → TrE tb N sc fb e pe) {e : MP.E} {pe : Option Expr} (h : chkO f e pe = true) : TrO tb N sc fb e pe := by
  unfold chkO at h
  split at h
  · split at h
    · exact .none
    · cases h
  · exact .some (hf _ _ h)
theorem chkC_ok {sc : Scope} {fb : Str → Bool} {f : MP.E → Expr → Bool} (hf : ∀ e pe, f e pe = true → TrE tb N sc fb e pe) {e : MP.E} {pes : List Expr} (h : chkC f e pes = true) : TrC tb N sc fb e pes := by
  unfold chkC at h
  split at h
  · split at h
    · exact .none
    · cases h
  · exact .one (hf _ _ h)
  · cases h
theorem len12 {l : List Expr} (h : (l.length == 1 || l.length == 2) = true) : l.length = 1 ∨ l.length = 2 := by simpa using h
theorem chkI_ok {sc : Scope} {fb : Str → Bool} {f : MP.E → Expr → Bool} (hf : ∀ e pe, f e pe = true → TrE tb N sc fb e pe) {k : MP.ItK} {ia : MP.E} {tg pi : Expr} (h : chkI tb f sc k ia tg pi = true) : TrI tb N sc fb k ia tg pi := by
  unfold chkI at h
  split at h
  · split at h
    · exact .gen (hf _ _ h)
    · cases h
  · split at h
    · simp only [Bool.and_eq_true, decide_eq_true_eq] at h
      obtain ⟨⟨⟨⟨rfl, h2⟩, h3⟩, h4⟩, h5⟩ := h
      exact .rng h2 h3 (chkA_ok hf h4) (len12 h5)
    · cases h
  · split at h
    · split at h
      · split at h
        · simp only [Bool.and_eq_true, decide_eq_true_eq] at h
          obtain ⟨⟨⟨rfl, h2⟩, h3⟩, h4⟩ := h
          exact .enum h2 h3 (hf _ _ h4)
        · cases h
      · cases h
    · cases h
  · split at h
    · split at h
      · split at h
        · simp only [Bool.and_eq_true, decide_eq_true_eq] at h
          obtain ⟨⟨⟨⟨rfl, h2⟩, h3⟩, h4⟩, h5⟩ := h
          exact .zip h2 h3 (hf _ _ h4) (hf _ _ h5)
        · cases h
      · cases h
    · cases h
theorem chkE_ok : ∀ {n : Nat} {sc : Scope} {fb : Str → Bool} {e : MP.E} {pe : Expr}, chkE tb N n sc fb e pe = true → TrE tb N sc fb e pe := by
  intro n
  induction n with
  | zero => intro sc fb e pe h; simp [chkE] at h
  | succ n ih =>
    intro sc fb e pe h
    have hA : ∀ {sc fb es pes}, chkA (chkE tb N n sc fb) es pes = true → TrA tb N sc fb es pes := fun q => chkA_ok (fun e pe z => ih z) q
    unfold chkE at h
    split at h
    all_goals first | (exact absurd h Bool.false_ne_true) | skip
    · split at h
      · simp only [Bool.and_eq_true, decide_eq_true_eq] at h; exact .var h.1.1 h.1.2 h.2
      · cases h
    · split at h
      · exact .non
      · cases h
    · split at h
      · simp only [beq_iff_eq] at h; subst h; exact .bl
      · cases h
    · split at h
      · simp only [decide_eq_true_eq] at h; subst h; exact .int
      · cases h
    · split at h
      · simp only [decide_eq_true_eq] at h; subst h; exact .str
      · cases h
    · split at h
      · simp only [Bool.and_eq_true, decide_eq_true_eq] at h; exact .glo h.1.1 h.1.2 h.2
      · cases h
    · split at h
      · simp only [Bool.and_eq_true, decide_eq_true_eq] at h; exact .tup (hA h.1) h.2
      · cases h
    · split at h
      · exact .lst (hA h)
      · cases h
    · split at h
      · simp only [Bool.and_eq_true, decide_eq_true_eq] at h
        obtain ⟨⟨rfl, h2⟩, h3⟩ := h
        exact .bin (ih h2) (ih h3)
      · cases h
    · split at h
      · exact .neg (ih h)
      · cases h
    · split at h
      · simp only [Bool.and_eq_true, decide_eq_true_eq] at h
        obtain ⟨⟨rfl, h2⟩, h3⟩ := h
        exact .cmp (ih h2) (ih h3)
      · cases h
    · split at h
      · simp only [Bool.and_eq_true, decide_eq_true_eq] at h
        obtain ⟨⟨⟨⟨rfl, rfl⟩, h2⟩, h3⟩, h4⟩ := h
        exact .chn (ih h2) (ih h3) (ih h4)
      · cases h
    · split at h
      · simp only [Bool.and_eq_true] at h; exact .and2 (ih h.1) (ih h.2)
      · cases h
    · split at h
      · simp only [Bool.and_eq_true] at h; exact .or2 (ih h.1) (ih h.2)
      · cases h
    · split at h
      · exact .one (ih h)
      · cases h
    · split at h
      · exact .nt (ih h)
      · cases h
    · split at h
      · simp only [Bool.and_eq_true] at h; exact .ite (ih h.1.1) (ih h.1.2) (ih h.2)
      · cases h
    · split at h
      · simp only [Bool.and_eq_true] at h; exact .idx (ih h.1) (ih h.2)
      · cases h
    · split at h
      · simp only [Bool.and_eq_true] at h; exact .slc (ih h.1.1) (chkO_ok (fun e pe z => ih z) h.1.2) (chkO_ok (fun e pe z => ih z) h.2)
      · cases h
    · split at h
      · simp only [Bool.and_eq_true, decide_eq_true_eq] at h
        obtain ⟨rfl, h2⟩ := h
        exact .rev (ih h2)
      · cases h
    · split at h
      · simp only [Bool.and_eq_true, decide_eq_true_eq] at h
        exact .call h.1.1.1 h.1.1.2 h.1.2 (hA h.2)
      · cases h
    · split at h
      · split at h
        · simp only [Bool.and_eq_true, decide_eq_true_eq] at h
          obtain ⟨⟨⟨⟨⟨⟨rfl, h2⟩, h3⟩, rfl⟩, h5⟩, h6⟩, h7⟩ := h
          exact .isi h2 h3 h5 h6 (ih h7)
        · cases h
      · cases h
    · split at h
      · simp only [Bool.and_eq_true, decide_eq_true_eq] at h
        obtain ⟨⟨⟨⟨⟨⟨⟨rfl, h2⟩, h3⟩, rfl⟩, h5⟩, h6⟩, h7⟩, h8⟩ := h
        exact .lrg h2 h3 h5 h6 (hA h7) (len12 h8)
      · cases h
    · split at h
      · rename_i y fv hp
        split at h
        · simp only [Bool.and_eq_true, decide_eq_true_eq] at h
          obtain ⟨⟨⟨rfl, h2⟩, h3⟩, h4⟩ := h
          exact .blt hp h2 h3 (hA h4)
        · cases h
      · cases h
    · split at h
      · simp only [Bool.and_eq_true, decide_eq_true_eq] at h
        obtain ⟨⟨⟨⟨rfl, h2⟩, h3⟩, h4⟩, h5⟩ := h
        have := hA h5
        cases this with
        | nil => exact .mth0 (ih h4) h2
        | cons a b => exact .mth (ih h4) (.cons a b) h2 (by simpa using h3)
      · cases h
    · split at h
      · simp only [Bool.and_eq_true, decide_eq_true_eq] at h
        obtain ⟨⟨⟨⟨⟨h1, h2⟩, h3⟩, h4⟩, h5⟩, h6⟩ := h
        exact .lc (chkI_ok (fun e pe z => ih z) h1) h2 h3 (chkT_ok h4) (chkC_ok (fun e pe z => ih z) h5) (ih h6)
      · cases h
    · split at h
      · simp only [Bool.and_eq_true, decide_eq_true_eq] at h
        obtain ⟨⟨⟨⟨⟨⟨⟨⟨h1, h2⟩, h3⟩, h4⟩, h5⟩, h6⟩, h7⟩, h8⟩, h9⟩ := h
        exact .lc2 (chkI_ok (fun e pe z => ih z) h1) h2 h3 (chkT_ok h4) (chkC_ok (fun e pe z => ih z) h5) (chkI_ok (fun e pe z => ih z) h6) (chkT_ok h7) (chkC_ok (fun e pe z => ih z) h8) (ih h9)
      · cases h
end
end MPS
namespace MPS
open PySem PySem.Spec PyProof.Rows L2 PySem.W
section
variable (tb : Tb) (N : List Str)
def locF (sc : Scope) (fb : Str → Bool) (i : Nat) (x : Str) : Bool := decide (N[i]? = some x) && locB sc x && (fb x || decide (sc.names.lookup x = some .local))
def chkG : Nat → Scope → (Str → Bool) → MP.E → Expr → Bool
  | 0, _, _, _, _ => false
  | n + 1, sc, fb, e, pe => match e with
    | .var i => (match pe with | .Name x _ => locF N sc fb i x | _ => false)
    | .tup es => (match pe with | .Tuple pes _ _ => chkA (chkG n sc fb) es pes | _ => false)
    | .idx a b => (match pe with | .Subscript pa pb _ => chkE tb N n sc fb a pa && chkE tb N n sc fb b pb | _ => false)
    | _ => false
def chkB (f : MP.S → Stmt → Bool) : MP.S → List Stmt → Bool
  | .nil, [] => true
  | .cons a r, pa :: pr => f a pa && chkB f r pr
  | _, _ => false
def chkS (M : Nat) : Nat → Scope → (Str → Bool) → MP.S → Stmt → Bool
  | 0, _, _, _, _ => false
  | n + 1, sc, fb, e, st => match e with
    | .bad => true
    | .pass => (match st with | .Pass _ => true | _ => false)
    | .brk => (match st with | .Break _ => true | _ => false)
    | .cnt => (match st with | .Continue _ => true | _ => false)
    | .retN => (match st with | .Return none _ => true | _ => false)
    | .ret e => (match st with | .Return (some pe) _ => chkE tb N M sc fb e pe | _ => false)
    | .exp e => (match st with | .Expr pe _ => chkE tb N M sc fb e pe && nolc pe | _ => false)
    | .ite c a b => (match st with | .If pc pa pb _ => chkE tb N M sc fb c pc && chkB (chkS M n sc fb) a pa && chkB (chkS M n sc fb) b pb | _ => false)
    | .whl c b => (match st with | .While pc pb [] _ => chkE tb N M sc fb c pc && chkB (chkS M n sc fb) b pb | _ => false)
    | .for t k ia b => (match st with | .For pt pi pb [] _ => chkT N M sc fb t pt && chkI tb (chkE tb N M sc fb) sc k ia pt pi && chkB (chkS M n sc fb) b pb | _ => false)
    | .aug o (.var i) e => (match st with | .AugAssign (.Name x _) op pe _ => decide (op = bop o) && locF N sc fb i x && nmB x && chkE tb N M sc fb e pe | _ => false)
    | .aug o (.idx a b) e => (match st with | .AugAssign (.Subscript pa pb _) op pe _ => decide (op = bop o) && chkE tb N M sc fb a pa && chkE tb N M sc fb b pb && chkE tb N M sc fb e pe | _ => false)
    | .par [i, j] es => (match st with | .Assign [.Tuple [.Name x px, .Name y py] _ _] (.Tuple [a, b] _ _) _ => decide (N[i]? = some x) && decide (N[j]? = some y) && decide (i ≠ j) && decide (sc.names.lookup x = some .local) && decide (sc.names.lookup y = some .local) && chkA (chkE tb N M sc fb) es [a, b] && decide (swP sc [.Name x px, .Name y py] [a, b] = some (some [x, y])) | _ => false)
    | .par [i, j, l] es => (match st with | .Assign [.Tuple [.Name x px, .Name y py, .Name z pz] _ _] (.Tuple [a, b, c] _ _) _ => decide (N[i]? = some x) && decide (N[j]? = some y) && decide (N[l]? = some z) && decide (i ≠ j) && decide (i ≠ l) && decide (j ≠ l) && decide (sc.names.lookup x = some .local) && decide (sc.names.lookup y = some .local) && decide (sc.names.lookup z = some .local) && chkA (chkE tb N M sc fb) es [a, b, c] && decide (swP sc [.Name x px, .Name y py, .Name z pz] [a, b, c] = some (some [x, y, z])) | _ => false)
    | .asg t e => (match st with
      | .Assign [pt] pe _ => chkE tb N M sc fb e pe && (match t with
        | .var i => (match pt with | .Name x p => locF N sc fb i x && (!(swB sc x p pe) || decide (sc.names.lookup x = some .local)) | _ => false)
        | t => chkG tb N M sc fb t pt && swG sc pt pe)
      | _ => false)
    | _ => false
end
section
variable {tb : Tb} {N : List Str}
theorem locF_ok {sc : Scope} {fb : Str → Bool} {i : Nat} {x : Str} (h : locF N sc fb i x = true) : N[i]? = some x ∧ locB sc x = true ∧ (fb x = true ∨ sc.names.lookup x = some .local) := by
  unfold locF at h
  simp only [Bool.and_eq_true, Bool.or_eq_true, decide_eq_true_eq] at h
  exact ⟨h.1.1, h.1.2, h.2⟩
theorem chkGs_ok {sc : Scope} {fb : Str → Bool} {f : MP.E → Expr → Bool} (hf : ∀ e pe, f e pe = true → TrG tb N sc fb e pe) : ∀ {es : MP.E} {pes : List Expr}, chkA f es pes = true → TrGs tb N sc fb es pes := by
  intro es
  induction es with
  | nil => intro pes h; cases pes with | nil => exact .nil | cons a l => simp [chkA] at h
  | cons a r iha ihr =>
    intro pes h
    cases pes with
    | nil => simp [chkA] at h
    | cons p pr =>
      simp only [chkA, Bool.and_eq_true] at h
      exact .cons (hf _ _ h.1) (ihr h.2)
  | _ => intro pes h; cases pes <;> simp [chkA] at h
theorem chkG_ok : ∀ {n : Nat} {sc : Scope} {fb : Str → Bool} {e : MP.E} {pe : Expr}, chkG tb N n sc fb e pe = true → TrG tb N sc fb e pe := by
  intro n
  induction n with
  | zero => intro sc fb e pe h; simp [chkG] at h
  | succ n ih =>
    intro sc fb e pe h
    unfold chkG at h
    split at h
    · split at h
      · obtain ⟨h1, h2, h3⟩ := locF_ok h
        exact .var h1 h2 h3
      · cases h
    · split at h
      · exact .tup (chkGs_ok (fun e pe q => ih q) h)
      · cases h
    · split at h
      · simp only [Bool.and_eq_true] at h
        exact .idx (chkE_ok h.1) (chkE_ok h.2)
      · cases h
    · cases h
theorem chkB_ok {sc : Scope} {fb : Str → Bool} {f : MP.S → Stmt → Bool} (hf : ∀ e st, f e st = true → TrS tb N sc fb e st) : ∀ {es : MP.S} {sts : List Stmt}, chkB f es sts = true → TrB tb N sc fb es sts := by
  intro es
  induction es with
  | nil => intro pes h; cases pes with | nil => exact .nil | cons a l => simp [chkB] at h
  | cons a r iha ihr =>
    intro pes h
    cases pes with
    | nil => simp [chkB] at h
    | cons p pr =>
      simp only [chkB, Bool.and_eq_true] at h
      exact .cons (hf _ _ h.1) (ihr h.2)
  | _ => intro pes h; cases pes <;> simp [chkB] at h
theorem TrE.nslice {sc : Scope} {fb : Str → Bool} {e : MP.E} {pe : Expr} (h : TrE tb N sc fb e pe) : (match pe with | .Slice .. => false | _ => true) = true := by cases h <;> rfl
theorem chkS_ok {M : Nat} : ∀ {n : Nat} {sc : Scope} {fb : Str → Bool} {e : MP.S} {st : Stmt}, chkS tb N M n sc fb e st = true → TrS tb N sc fb e st := by
  intro n
  induction n with
  | zero => intro sc fb e pe h; simp [chkS] at h
  | succ n ih =>
    intro sc fb e st h
    have hB : ∀ {sc fb es sts}, chkB (chkS tb N M n sc fb) es sts = true → TrB tb N sc fb es sts := fun q => chkB_ok (fun e pe z => ih z) q
    unfold chkS at h
    split at h
    all_goals first | (exact absurd h Bool.false_ne_true) | skip
    · exact .bad
    · split at h
      · exact .pass
      · cases h
    · split at h
      · exact .brk
      · cases h
    · split at h
      · exact .cnt
      · cases h
    · split at h
      · exact .retN
      · cases h
    · split at h
      · exact .ret (chkE_ok h)
      · cases h
    · split at h
      · simp only [Bool.and_eq_true] at h; exact .exp (chkE_ok h.1) h.2
      · cases h
    · split at h
      · simp only [Bool.and_eq_true] at h; exact .ite (chkE_ok h.1.1) (hB h.1.2) (hB h.2)
      · cases h
    · split at h
      · simp only [Bool.and_eq_true] at h; exact .whl (chkE_ok h.1) (hB h.2)
      · cases h
    · split at h
      · simp only [Bool.and_eq_true] at h; exact .for (chkT_ok h.1.1) (chkI_ok (fun e pe z => chkE_ok z) h.1.2) (hB h.2)
      · cases h
    · split at h
      · simp only [Bool.and_eq_true, decide_eq_true_eq] at h
        obtain ⟨⟨⟨rfl, h2⟩, h3⟩, h4⟩ := h
        obtain ⟨q1, q2, q3⟩ := locF_ok h2
        exact .augV q1 q2 q3 h3 (chkE_ok h4)
      · cases h
    · split at h
      · simp only [Bool.and_eq_true, decide_eq_true_eq] at h
        obtain ⟨⟨⟨rfl, h2⟩, h3⟩, h4⟩ := h
        exact .augI (chkE_ok h2) (chkE_ok h3) (chkE_ok h4) (chkE_ok h3).nslice
      · cases h
    · split at h
      · simp only [Bool.and_eq_true, decide_eq_true_eq] at h
        obtain ⟨⟨⟨⟨⟨⟨h1, h2⟩, h3⟩, h4⟩, h5⟩, h6⟩, h7⟩ := h
        exact .par h1 h2 h3 h4 h5 (chkA_ok (fun e pe z => chkE_ok z) h6) h7
      · cases h
    · split at h
      · simp only [Bool.and_eq_true, decide_eq_true_eq] at h
        obtain ⟨⟨⟨⟨⟨⟨⟨⟨⟨⟨h1, h2⟩, h3⟩, h4⟩, h5⟩, h6⟩, h7⟩, h8⟩, h9⟩, h10⟩, h11⟩ := h
        exact .par3 h1 h2 h3 h4 h5 h6 h7 h8 h9 (chkA_ok (fun e pe z => chkE_ok z) h10) h11
      · cases h
    · split at h
      · rw [Bool.and_eq_true] at h
        obtain ⟨h1, h2⟩ := h
        split at h2
        · split at h2
          · simp only [Bool.and_eq_true, Bool.or_eq_true, Bool.not_eq_true', decide_eq_true_eq] at h2
            obtain ⟨h3, h4⟩ := h2
            obtain ⟨q1, q2, q3⟩ := locF_ok h3
            rename_i x p
            cases hs : swB sc x p _ with
            | false => exact .asgV q1 q2 q3 (chkE_ok h1) hs
            | true => exact .asgL q1 (h4.resolve_left (by rw [hs]; decide)) (chkE_ok h1) hs
          · cases h2
        · rw [Bool.and_eq_true] at h2
          exact .asgG (chkG_ok h2.1) (chkE_ok h1) h2.2
      · cases h
/-! ### a def, checked -/
def scB (N ps : List Str) (sc : Scope) : Bool :=
  decide (sc.kind = .function) && !sc.isCoroutine && !sc.isGenerator && decide N.Nodup && decide (N.take ps.length = ps) && (ps.all fun x => decide (sc.names.lookup x = some .local) || decide (sc.names.lookup x = some .cell)) && (sc.names.all fun y => decide (y.2 ≠ .free))
theorem scB_ok {N ps : List Str} {sc : Scope} (h : scB N ps sc = true) : FnScope N ps sc := by
  unfold scB at h
  simp only [Bool.and_eq_true, decide_eq_true_eq, Bool.not_eq_true', List.all_eq_true, Bool.or_eq_true] at h
  obtain ⟨⟨⟨⟨⟨⟨h1, h2⟩, h3⟩, h4⟩, h5⟩, h6⟩, h7⟩ := h
  exact ⟨h1, h2, h3, h4, h5, h6, fun y hy => h7 y hy⟩
def defB (tb : Tb) (N ps : List Str) (fn : MP.Fn) (st : Stmt) : Bool :=
  scB N ps (defScope st) && decide (fn.np = ps.length) && decide (fn.ns = N.length) && chkB (chkS tb N 100 50 (defScope st) (fun _ => true)) fn.body (defBody st)
theorem def_mk {K : PySem.W.Frag} {h : Heap} {mg : Str → Option Value} {x : Str} {fn : MP.Fn} {f : Addr} {st : Stmt} {N ps : List Str} {oc : Value} {od an : Option Addr} {osl : Array (Option Value)} {kV doc pm cdv ct : Value} (X : K.In h) (G : h.Ns mainGlobals mg)
    (a1 : PySem.W.nsIn K mainGlobals x = some (some (.ref f))) (l : K.lookup f = some ⟨oc, od, .func (PySem.W.fnOf x x (defArgs st) (defBody st) (defScope st) .none kV doc pm an cdv ct), osl⟩) (c : PySem.W.codeIn K cdv x = true) (k : PySem.W.keepIn K (.ref f) = true)
    (hb : defB tb N ps fn st = true) (bd : ∀ (kV doc pm : Value) (an : Option Addr) (cdv ct : Value) (us : List Value), us.length = ps.length → bindArgs (PySem.W.fnOf x x (defArgs st) (defBody st) (defScope st) .none kV doc pm an cdv ct) ⟨us, []⟩ = pure (ps.zip us)) :
    ∃ a fd st N, DefOk K mg tb x fn a fd st N ps := by
  unfold defB at hb
  simp only [Bool.and_eq_true, decide_eq_true_eq] at hb
  obtain ⟨⟨⟨h1, h2⟩, h3⟩, h4⟩ := hb
  have F := fun_mk (st := st) l c k
  exact ⟨f, _, st, N, PySem.W.mg_of X G a1, F.binds bd, fun s us hl => .of_eq (bd kV doc pm an cdv ct us hl), F, scB_ok h1, h2, h3, chkB_ok (fun e st z => chkS_ok z) h4⟩
/-- the defs, one by one -/
inductive AllDef (K : PySem.W.Frag) (mg : Str → Option Value) (tb : Tb) : List Str → List MP.Fn → List (List Str) → Prop
  | nil : AllDef K mg tb [] [] []
  | cons {x xs fn fns ps pss} (h : ∃ a fd st N, DefOk K mg tb x fn a fd st N ps) (r : AllDef K mg tb xs fns pss) : AllDef K mg tb (x :: xs) (fn :: fns) (ps :: pss)
theorem AllDef.get {K : PySem.W.Frag} {mg : Str → Option Value} : ∀ {xs : List Str} {fns : List MP.Fn} {pss : List (List Str)}, AllDef K mg tb xs fns pss → ∀ (f : Nat) (x : Str), xs[f]? = some x → ∃ fn a fd st N ps, fns[f]? = some fn ∧ pss[f]? = some ps ∧ DefOk K mg tb x fn a fd st N ps
  | _, _, _, .nil, f, x, e => by simp at e
  | _, _, _, .cons h r, 0, x, e => by
    simp at e; subst e
    obtain ⟨a, fd, st, N, d⟩ := h
    exact ⟨_, a, fd, st, N, _, rfl, rfl, d⟩
  | _, _, _, .cons h r, f + 1, x, e => by
    obtain ⟨fn, a, fd, st, N, ps, e1, e2, d⟩ := AllDef.get r f x (by simpa using e)
    exact ⟨fn, a, fd, st, N, ps, by simpa using e1, by simpa using e2, d⟩
inductive AllGlo (K : PySem.W.Frag) (mg : Str → Option Value) : List Str → List MP.D → Prop
  | nil : AllGlo K mg [] []
  | cons {x xs d ds} (h : ∃ (u : Value) (v : V), mg x = some u ∧ RelV v u ∧ ∀ m H, Rel K m H d v) (r : AllGlo K mg xs ds) : AllGlo K mg (x :: xs) (d :: ds)
theorem AllGlo.get {K : PySem.W.Frag} {mg : Str → Option Value} : ∀ {xs : List Str} {ds : List MP.D}, AllGlo K mg xs ds → ∀ (j : Nat) (x : Str), xs[j]? = some x → ∃ (d : MP.D) (u : Value) (v : V), ds[j]? = some d ∧ mg x = some u ∧ RelV v u ∧ ∀ m H, Rel K m H d v
  | _, _, .nil, f, x, e => by simp at e
  | _, _, .cons h r, 0, x, e => by
    simp at e; subst e
    obtain ⟨u, v, h⟩ := h
    exact ⟨_, u, v, rfl, h⟩
  | _, _, .cons h r, f + 1, x, e => by
    obtain ⟨d, u, v, e1, h⟩ := AllGlo.get r f x (by simpa using e)
    exact ⟨d, u, v, by simpa using e1, h⟩
theorem glo_int {K : PySem.W.Frag} {h : Heap} {mg : Str → Option Value} {x : Str} {i : Int} {t : Tok} (X : K.In h) (G : h.Ns mainGlobals mg) (a1 : PySem.W.nsIn K mainGlobals x = some (some (.int i t))) : ∃ (u : Value) (v : V), mg x = some u ∧ RelV v u ∧ ∀ m H, Rel K m H (.int i) v :=
  ⟨_, .int i, PySem.W.mg_of X G a1, ⟨t, rfl⟩, fun _ _ => .int i⟩
inductive AllNo (K : PySem.W.Frag) (mg : Str → Option Value) : List Str → Prop
  | nil : AllNo K mg []
  | cons {x xs} (h : mg x = none) (r : AllNo K mg xs) : AllNo K mg (x :: xs)
theorem AllNo.get {K : PySem.W.Frag} {mg : Str → Option Value} {xs : List Str} (h : AllNo K mg xs) : ∀ x ∈ xs, mg x = none := by
  induction h with
  | nil => intro x hx; cases hx
  | cons h r ih =>
    intro x hx
    rcases List.mem_cons.mp hx with z | z
    · subst z; exact h
    · exact ih x z
theorem txt_of {K : PySem.W.Frag} {mg : Str → Option Value} {fns : List MP.Fn} {G : List MP.D} {pss : List (List Str)} (a : AllDef K mg tb tb.fn fns pss) (b : AllGlo K mg tb.gn G) (c : AllNo K mg tb.bl) : Txt K mg tb fns G pss := ⟨a.get, b.get, c.get⟩
end
/-- the law's end -/
theorem walk {tb : Tb} {fns : List MP.Fn} {G : List MP.D} {Wf Kk fL : Nat} {l : PySem.W.OpenLaw} {q : Program} {loose : List Str} {XP : (Str → Option Value) → Heap → Prop} {YP : World → Heap → Prop} {d : DefRec} {K : Params → PySem.W.Frag} (hn : l.most = some 63) (hdf : d.params.defaults = []) (hr : Room Kk callerA)
    (hY : ∀ (w : World) (h : Heap), YP w h → (K w.params).In h) (hfL : tb.fn[fL]? = some d.name) {pss : List (List Str)} {x : Str} (hps : pss[fL]? = some [x])
    (F : ∀ (w : World) (mg : Str → Option Value) (fa : Addr) (h : Heap), (K w.params).In h → h.Ns mainGlobals mg → mg d.name = some (.ref fa) → Txt (K w.params) mg tb fns G pss)
    (L : ∀ ns : List Int, ns.length ≤ 63 → ∃ h', MP.callF fns G Wf Kk fL [.frz (ns.map .int)] [] = .ok (.bl true) h') :
    PySem.W.WalkO q loose XP YP l.row.toRowW d [] (fun f vs => PySem.call f vs) :=
  L2.walk_of (n := 63) (k := Kk) (x := x) (CX := fun w => L2.CX l.prog w) (sp := fun w => spF (K w.params) [] (MP.callF fns G Wf Kk fL) 1) hn (by decide) hdf hr hY
    (fun w mg fa h X Gn hm => by
      have T := F w mg fa h X Gn hm
      obtain ⟨fn, a, fd, st, N, ps, hf, hp, D⟩ := T.fns fL _ hfL
      rw [hps] at hp; cases hp
      have e := D.mg
      rw [hm] at e; cases e
      refine ⟨fd, fun s u => D.bindS s [u] rfl, fun base _ _ => ?_⟩
      cases Kk with
      | zero =>
        refine ⟨fun vs H Q E h => h.1, fun A outer s H args us vs Q E hr he hb hv hs => ?_⟩
        obtain ⟨_, m, h, ds, _, _, g⟩ := hs
        exact g.elim
      | succ k => exact def_step hf D (wld T k))
    (fun w H a ns hl _ hS => law_sp L H a ns hl hS)
    fun w H s e s' z => by
      obtain ⟨_, _, _, _, _, _, _, _, _, _, _, _, z⟩ := z
      exact z
end MPS
/-! What every law draws with: its box and _law_take. Plain Lean. -/
namespace DR
open MP
def bBox : S := (.cons (.ret (.lst false (.cons (.con (.int 0)) (.cons (.con (.int 0)) (.cons (.con (.int 0)) (.cons (.lc true (.var 1) .gen (.cons (.var 0) .nil) (.con (.bl true)) (.blt .abs (.cons (.blt .int (.cons (.var 1) .nil)) .nil))) .nil)))))) .nil)
def t1 : S := (.ite (.cmp .eq (.idx (.var 0) (.con (.int 1))) (.con (.int 0)))
 (.cons (.asg (.var 2) (.idx (.var 0) (.con (.int 2))))
 (.cons (.asg (.var 3) (.con (.int 0)))
 (.cons (.ite (.cmp .lt (.var 2) (.blt .len (.cons (.idx (.var 0) (.con (.int 3))) .nil)))
 (.cons (.asg (.var 3) (.idx (.idx (.var 0) (.con (.int 3))) (.var 2)))
 (.cons (.asg (.idx (.var 0) (.con (.int 1))) (.ite (.cmp .ge (.var 3) (.bin .pow (.con (.int 10)) (.con (.int 18)))) (.con (.int 60)) (.neg (.con (.int 9)))))
 .nil))
 .nil)
 (.cons (.asg (.idx (.var 0) (.con (.int 2))) (.bin (.add true) (.var 2) (.con (.int 1))))
 (.cons (.asg (.idx (.var 0) (.con (.int 0))) (.var 3))
 (.cons (.ite (.cmp .eq (.idx (.var 0) (.con (.int 1))) (.con (.int 0)))
 (.cons (.ret (.con (.int 0)))
 .nil)
 .nil)
 .nil))))))
 .nil)
def t2 : S := (.ite (.cmp .gt (.idx (.var 0) (.con (.int 1))) (.con (.int 0)))
 (.cons (.asg (.var 4) (.bin .mod (.blt .int (.cons (.idx (.var 0) (.con (.int 0))) .nil)) (.var 1)))
 (.cons (.asg (.idx (.var 0) (.con (.int 0))) (.bin .fdiv (.idx (.var 0) (.con (.int 0))) (.var 1)))
 (.cons (.asg (.idx (.var 0) (.con (.int 1))) (.ite (.cmp .gt (.idx (.var 0) (.con (.int 0))) (.con (.int 0))) (.bin .sub (.idx (.var 0) (.con (.int 1))) (.con (.int 1))) (.con (.int 0))))
 (.cons (.ret (.var 4))
 .nil))))
 .nil)
def t3 : S := (.cons (.asg (.idx (.var 0) (.con (.int 1))) (.bin (.add true) (.idx (.var 0) (.con (.int 1))) (.con (.int 1))))
 (.cons (.asg (.idx (.var 0) (.con (.int 0))) (.bin .mod (.blt .int (.cons (.bin (.add true) (.bin (.mul true) (.idx (.var 0) (.con (.int 0))) (.con (.int 48271))) (.bin (.mul true) (.con (.int 69621)) (.bin (.add true) (.idx (.var 0) (.con (.int 1))) (.con (.int 20))))) .nil)) (.con (.int 2147483647))))
 (.cons (.ret (.bin .mod (.bin .mod (.blt .int (.cons (.bin (.add true) (.bin .fdiv (.idx (.var 0) (.con (.int 0))) (.con (.int 7))) (.idx (.var 0) (.con (.int 0)))) .nil)) (.con (.int 1000003))) (.var 1)))
 .nil)))
def bTake : S := .cons t1 (.cons t2 t3)
/-- the heap with the box at b -/
def B (h : Heap) (b : Nat) (v st a : Int) (L : D) : Heap := h.set b (.lst [.int v, .int st, .int a, L])
section
variable {Φ : Nat → List D → Heap → R D} {G : List D} {W : Nat} {h : Heap} {b : Nat} {v st a : Int} {L : D} {env : Env}
theorem B_get (hb : b < h.length) : (B h b v st a L)[b]? = some (.lst [.int v, .int st, .int a, L]) := by unfold B; rw [List.getElem?_set_self hb]
theorem bind_ok {α β : Type} (x : α) (h : Heap) (f : α → Heap → R β) : (R.ok x h).bind f = f x h := rfl
theorem var0 (x : Nat) (r : Env) (h : Heap) : eE Φ G (.var 0) (.ref x :: r) h = .ok (.ref x) h := rfl
theorem var1 (x : D) (m : Int) (r : Env) (h : Heap) : eE Φ G (.var 1) (x :: .int m :: r) h = .ok (.int m) h := rfl
theorem var2 (x y : D) (m : Int) (r : Env) (h : Heap) : eE Φ G (.var 2) (x :: y :: .int m :: r) h = .ok (.int m) h := rfl
theorem var3 (x y z : D) (m : Int) (r : Env) (h : Heap) : eE Φ G (.var 3) (x :: y :: z :: .int m :: r) h = .ok (.int m) h := rfl
theorem var4 (x y z u : D) (m : Int) (r : Env) (h : Heap) : eE Φ G (.var 4) (x :: y :: z :: u :: .int m :: r) h = .ok (.int m) h := rfl
theorem ix (hb : b < h.length) (i : Int) (d : D) (e : atI [D.int v, .int st, .int a, L] i = some d) : eE Φ G (.idx (.var 0) (.con (.int i))) (.ref b :: env) (B h b v st a L) = .ok d (B h b v st a L) := by
  simp only [eE_idx, var0, eE_con, bind_ok]
  unfold opI
  simp only [B_get hb, e]
  rfl
theorem ix0 (hb : b < h.length) : eE Φ G (.idx (.var 0) (.con (.int 0))) (.ref b :: env) (B h b v st a L) = .ok (.int v) (B h b v st a L) := ix hb 0 _ rfl
theorem ix1 (hb : b < h.length) : eE Φ G (.idx (.var 0) (.con (.int 1))) (.ref b :: env) (B h b v st a L) = .ok (.int st) (B h b v st a L) := ix hb 1 _ rfl
theorem ix2 (hb : b < h.length) : eE Φ G (.idx (.var 0) (.con (.int 2))) (.ref b :: env) (B h b v st a L) = .ok (.int a) (B h b v st a L) := ix hb 2 _ rfl
theorem ix3 (hb : b < h.length) : eE Φ G (.idx (.var 0) (.con (.int 3))) (.ref b :: env) (B h b v st a L) = .ok L (B h b v st a L) := ix hb 3 _ rfl
theorem put (hb : b < h.length) (i : Int) (k : Nat) (d : D) (e : ixN 4 i = some k) : setT Φ G (.idx (.var 0) (.con (.int i))) d (.ref b :: env) (B h b v st a L) = .ok (.ref b :: env) (h.set b (.lst ([D.int v, D.int st, D.int a, L].set k d))) := by
  unfold setT
  simp only [var0, eE_con, bind_ok]
  unfold setL
  simp only [B_get hb]
  have : ixN [D.int v, D.int st, D.int a, L].length i = some k := e
  rw [this]
  show R.ok _ (setO (B h b v st a L) b _) = _
  unfold setO B
  rw [List.set_set]
theorem put0 (hb : b < h.length) (x : Int) : setT Φ G (.idx (.var 0) (.con (.int 0))) (.int x) (.ref b :: env) (B h b v st a L) = .ok (.ref b :: env) (B h b x st a L) := put hb 0 0 _ rfl
theorem put1 (hb : b < h.length) (x : Int) : setT Φ G (.idx (.var 0) (.con (.int 1))) (.int x) (.ref b :: env) (B h b v st a L) = .ok (.ref b :: env) (B h b v x a L) := put hb 1 1 _ rfl
theorem put2 (hb : b < h.length) (x : Int) : setT Φ G (.idx (.var 0) (.con (.int 2))) (.int x) (.ref b :: env) (B h b v st a L) = .ok (.ref b :: env) (B h b v st x L) := put hb 2 2 _ rfl
theorem mul1 (x : Int) (h : Heap) : opB (.mul true) (.int x) (.int 48271) h = .ok (.int (x * 48271)) h := by
  have : mulOk x 48271 = true := by unfold mulOk; rw [show smallI 48271 = true from by decide]; simp
  unfold opB
  simp only [this, if_true]
theorem mul2 (x : Int) (h : Heap) : opB (.mul true) (.int 69621) (.int x) h = .ok (.int (69621 * x)) h := by
  have : mulOk 69621 x = true := by unfold mulOk; rw [show smallI 69621 = true from by decide]; simp
  unfold opB
  simp only [this, if_true]
theorem mod1 (x m : Int) (h : Heap) (hm : 0 < m) : opB .mod (.int x) (.int m) h = .ok (.int (x % m)) h := by
  show (if 0 < m then _ else _) = _
  rw [if_pos hm]
theorem div1 (x m : Int) (h : Heap) (hm : 0 < m) (h2 : m < 1073741824) : opB .fdiv (.int x) (.int m) h = .ok (.int (x / m)) h := by
  show (if 0 < m ∧ m < 1073741824 then _ else _) = _
  rw [if_pos ⟨hm, h2⟩]
theorem bl1 (e : E) (f : Blt) (env : Env) (h : Heap) : eE Φ G (.blt f (.cons e .nil)) env h = (eE Φ G e env h).bind fun d h1 => opF f [d] h1 := by
  rw [eE_blt, eE_cons]
  cases eE Φ G e env h <;> rfl
theorem add1 (x y : Int) (h : Heap) : opB (.add true) (.int x) (.int y) h = .ok (.int (x + y)) h := rfl
theorem int1 (x : Int) (h : Heap) : opF .int [.int x] h = .ok (.int x) h := rfl
/-- the third part: the numbers behind the cells -/
theorem t3_ok (hb : b < h.length) {m : Int} (hm : 0 < m) {d2 d3 d4 : D} : ∃ t v' st', eS Φ G W t3 [.ref b, .int m, d2, d3, d4] (B h b v st a L) = .ok (.ret (.int t)) (B h b v' st' a L) ∧ 0 ≤ t ∧ t < m ∧ 0 ≤ v' := by
  have e : eS Φ G W t3 [.ref b, .int m, d2, d3, d4] (B h b v st a L) = .ok (.ret (.int ((((v * 48271 + 69621 * (st + 1 + 20)) % 2147483647 / 7 + (v * 48271 + 69621 * (st + 1 + 20)) % 2147483647) % 1000003) % m))) (B h b ((v * 48271 + 69621 * (st + 1 + 20)) % 2147483647) (st + 1) a L) := by
    unfold t3
    simp only [eS_cons, eS_asg, eS_ret, eE_bin, bl1, ix0 hb, ix1 hb, ix2 hb, var1, eE_con, bind_ok, put0 hb, put1 hb, put2 hb, mul1, mul2, add1, int1, mod1 _ _ _ (show (0 : Int) < 2147483647 by decide), mod1 _ _ _ (show (0 : Int) < 1000003 by decide), mod1 _ _ _ hm, div1 _ 7 _ (by decide) (by decide)]
  exact ⟨_, _, _, e, Int.emod_nonneg _ (by omega), Int.emod_lt_of_pos _ hm, Int.emod_nonneg _ (by decide)⟩
theorem gt1 (x y : Int) (h : Heap) : opC .gt (.int x) (.int y) h = some (decide (y < x)) := rfl
theorem lt1 (x y : Int) (h : Heap) : opC .lt (.int x) (.int y) h = some (decide (x < y)) := rfl
theorem ge1 (x y : Int) (h : Heap) : opC .ge (.int x) (.int y) h = some (decide (y ≤ x)) := rfl
theorem eq1 (x y : Int) (h : Heap) : opC .eq (.int x) (.int y) h = some (x == y) := rfl
theorem sub1 (x y : Int) (h : Heap) : opB .sub (.int x) (.int y) h = .ok (.int (x - y)) h := rfl
theorem tru1 (k : Bool) (h : Heap) : tru (.bl k) h = .ok k h := rfl
theorem opt1 {α : Type} (x : α) (h : Heap) : R.opt h (some x) = .ok x h := rfl
theorem nxt1 (r : S) (env env' : Env) (h h' : Heap) : (match Fl.nxt env' with | .nxt env' => eS Φ G W r env' h' | f => .ok f h') = eS Φ G W r env' h' := rfl
theorem sv2 (d x y z u w : D) (h : Heap) : setT Φ G (.var 2) d [x, y, z, u, w] h = .ok [x, y, d, u, w] h := rfl
theorem sv3 (d x y z u w : D) (h : Heap) : setT Φ G (.var 3) d [x, y, z, u, w] h = .ok [x, y, z, d, w] h := rfl
theorem sv4 (d x y z u w : D) (h : Heap) : setT Φ G (.var 4) d [x, y, z, u, w] h = .ok [x, y, z, u, d] h := rfl
/-- the second part: the places of a great cell -/
theorem t2_ok (hb : b < h.length) {m : Int} (hm : 0 < m) (hm2 : m < 1073741824) (hv : 0 ≤ v) {d2 d3 d4 : D} :
    (st ≤ 0 ∧ eS Φ G W t2 [.ref b, .int m, d2, d3, d4] (B h b v st a L) = .ok (.nxt [.ref b, .int m, d2, d3, d4]) (B h b v st a L)) ∨
    ∃ t v' st', eS Φ G W t2 [.ref b, .int m, d2, d3, d4] (B h b v st a L) = .ok (.ret (.int t)) (B h b v' st' a L) ∧ 0 ≤ t ∧ t < m ∧ 0 ≤ v' := by
  unfold t2
  by_cases hs : 0 < st
  · right
    have hv' : 0 ≤ v / m := Int.ediv_nonneg hv (by omega)
    by_cases hq : 0 < v / m
    · refine ⟨v % m, v / m, st - 1, ?_, Int.emod_nonneg _ (by omega), Int.emod_lt_of_pos _ hm, hv'⟩
      simp only [eS_ite, eS_cons, eS_asg, eS_ret, eE_cmp, eE_ite, eE_bin, bl1, ix0 hb, ix1 hb, ix2 hb, var1, var4, eE_con, bind_ok, opt1, tru1, gt1, hs, decide_true, if_true, int1, mod1 _ _ _ hm, div1 _ _ _ hm hm2, put0 hb, put1 hb, hq, sub1, sv4]
    · refine ⟨v % m, v / m, 0, ?_, Int.emod_nonneg _ (by omega), Int.emod_lt_of_pos _ hm, hv'⟩
      simp only [eS_ite, eS_cons, eS_asg, eS_ret, eE_cmp, eE_ite, eE_bin, bl1, ix0 hb, ix1 hb, ix2 hb, var1, var4, eE_con, bind_ok, opt1, tru1, gt1, hs, decide_true, decide_false, Bool.false_eq_true, if_false, if_true, int1, mod1 _ _ _ hm, div1 _ _ _ hm hm2, put0 hb, put1 hb, hq, sub1, sv4]
  · left
    refine ⟨by omega, ?_⟩
    simp only [eS_ite, eS_nil, eE_cmp, eE_bin, ix1 hb, eE_con, bind_ok, opt1, tru1, gt1, hs, decide_false, Bool.false_eq_true, if_false]
theorem pow1 (h : Heap) : opB .pow (.int 10) (.int 18) h = .ok (.int 1000000000000000000) h := by
  show (if (0 : Int) ≤ 18 ∧ (18 : Int) ≤ 1000 ∧ (10 : Int).natAbs < 18446744073709551616 then R.ok (D.int (10 ^ (18 : Int).toNat)) h else .bad) = _
  rw [if_pos (by decide)]
  rfl
theorem len1 (xs : List D) (h : Heap) : opF .len [.lst xs] h = .ok (.int xs.length) h := rfl
theorem neg9 (env : Env) (h : Heap) : eE Φ G (.neg (.con (.int 9))) env h = .ok (.int (-9)) h := rfl
theorem cell_get {cells : List Int} {i : Int} (h0 : 0 ≤ i) (h1 : i < ((cells.map D.int).length : Int)) : ∃ c, c ∈ cells ∧ opI (.lst (cells.map .int)) (.int i) h = some (.int c) := by
  rw [List.length_map] at h1
  refine ⟨cells[i.toNat]'(by omega), List.getElem_mem _, ?_⟩
  show atI (cells.map D.int) i = _
  unfold atI ixN
  rw [List.length_map, if_pos h0, if_pos h1]
  show (cells.map D.int)[i.toNat]? = _
  rw [List.getElem?_map, List.getElem?_eq_getElem (by omega)]
  rfl
/-- the first part: the next cell -/
theorem t1_ok (hb : b < h.length) {m : Int} {cells : List Int} (hc : ∀ c ∈ cells, 0 ≤ c) (hv : 0 ≤ v) (ha : 0 ≤ a) {d2 d3 d4 : D} :
    (∃ v' st' a', eS Φ G W t1 [.ref b, .int m, d2, d3, d4] (B h b v st a (.lst (cells.map .int))) = .ok (.ret (.int 0)) (B h b v' st' a' (.lst (cells.map .int))) ∧ 0 ≤ v' ∧ 0 ≤ a') ∨
    ∃ d2' d3' v' st' a', eS Φ G W t1 [.ref b, .int m, d2, d3, d4] (B h b v st a (.lst (cells.map .int))) = .ok (.nxt [.ref b, .int m, d2', d3', d4]) (B h b v' st' a' (.lst (cells.map .int))) ∧ 0 ≤ v' ∧ 0 ≤ a' := by
  unfold t1
  by_cases hs : st = 0
  · have hs' : (st == 0) = true := by simpa using hs
    by_cases hlt : a < ((cells.map D.int).length : Int)
    · right
      obtain ⟨c, hcm, hg⟩ := cell_get (h := B h b v st a (.lst (cells.map .int))) ha hlt
      have hg' : ∀ env, eE Φ G (.idx (.idx (.var 0) (.con (.int 3))) (.var 2)) (.ref b :: .int m :: .int a :: env) (B h b v st a (.lst (cells.map .int))) = .ok (.int c) (B h b v st a (.lst (cells.map .int))) := fun env => by
        rw [eE_idx]
        simp only [ix3 hb, bind_ok, var2, hg, opt1]
      by_cases hbig : (1000000000000000000 : Int) ≤ c
      · refine ⟨.int a, .int c, c, 60, a + 1, ?_, hc c hcm, by omega⟩
        simp only [eS_ite, eS_cons, eS_nil, eS_asg, eS_ret, eE_cmp, eE_ite, eE_bin, bl1, hg', ix0 hb, ix1 hb, ix2 hb, ix3 hb, var1, var2, var3, eE_con, bind_ok, opt1, tru1, eq1, lt1, ge1, hs', hlt, hbig, decide_true, if_true, len1, put0 hb, put1 hb, put2 hb, sv2, sv3, add1, pow1, neg9]
        rfl
      · refine ⟨.int a, .int c, c, -9, a + 1, ?_, hc c hcm, by omega⟩
        simp only [eS_ite, eS_cons, eS_nil, eS_asg, eS_ret, eE_cmp, eE_ite, eE_bin, bl1, hg', ix0 hb, ix1 hb, ix2 hb, ix3 hb, var1, var2, var3, eE_con, bind_ok, opt1, tru1, eq1, lt1, ge1, hs', hlt, hbig, decide_true, decide_false, Bool.false_eq_true, if_false, if_true, len1, put0 hb, put1 hb, put2 hb, sv2, sv3, add1, pow1, neg9]
        rfl
    · left
      refine ⟨0, st, a + 1, ?_, by omega, by omega⟩
      simp only [eS_ite, eS_cons, eS_nil, eS_asg, eS_ret, eE_cmp, eE_ite, eE_bin, bl1, ix0 hb, ix1 hb, ix2 hb, ix3 hb, var1, var2, var3, eE_con, bind_ok, opt1, tru1, eq1, lt1, ge1, hs', hlt, decide_true, decide_false, Bool.false_eq_true, if_false, if_true, len1, put0 hb, put1 hb, put2 hb, sv2, sv3, add1]
  · right
    have hs' : (st == 0) = false := by simpa using hs
    refine ⟨d2, d3, v, st, a, ?_, hv, ha⟩
    simp only [eS_ite, eS_nil, eE_cmp, ix1 hb, eE_con, bind_ok, opt1, tru1, eq1, hs', Bool.false_eq_true, if_false]
/-- a number below m is drawn -/
theorem take_body (hb : b < h.length) {m : Int} (hm : 0 < m) (hm2 : m < 1073741824) {cells : List Int} (hc : ∀ c ∈ cells, 0 ≤ c) (hv : 0 ≤ v) (ha : 0 ≤ a) {d2 d3 d4 : D} :
    ∃ t v' st' a', eS Φ G W bTake [.ref b, .int m, d2, d3, d4] (B h b v st a (.lst (cells.map .int))) = .ok (.ret (.int t)) (B h b v' st' a' (.lst (cells.map .int))) ∧ 0 ≤ t ∧ t < m ∧ 0 ≤ v' ∧ 0 ≤ a' := by
  unfold bTake
  rcases t1_ok (Φ := Φ) (G := G) (W := W) (st := st) (m := m) (d2 := d2) (d3 := d3) (d4 := d4) hb hc hv ha with ⟨v', st', a', e, h1, h2⟩ | ⟨d2', d3', v1, st1, a1, e, h1, h2⟩
  · exact ⟨0, v', st', a', by rw [eS_cons, e]; rfl, by omega, hm, h1, h2⟩
  · rw [eS_cons, e]
    rcases t2_ok (Φ := Φ) (G := G) (W := W) (st := st1) (a := a1) (L := .lst (cells.map .int)) (d2 := d2') (d3 := d3') (d4 := d4) hb hm hm2 h1 with ⟨_, e2⟩ | ⟨t, v2, st2, e2, q1, q2, q3⟩
    · obtain ⟨t, v3, st3, e3, q1, q2, q3⟩ := t3_ok (Φ := Φ) (G := G) (W := W) (v := v1) (st := st1) (a := a1) (L := .lst (cells.map .int)) (d2 := d2') (d3 := d3') (d4 := d4) hb hm
      refine ⟨t, v3, st3, a1, ?_, q1, q2, q3, h2⟩
      show eS Φ G W (.cons t2 t3) _ _ = _
      rw [eS_cons, e2]
      exact e3
    · refine ⟨t, v2, st2, a1, ?_, q1, q2, q3, h2⟩
      show eS Φ G W (.cons t2 t3) _ _ = _
      rw [eS_cons, e2]
      rfl
end
end DR
namespace DR
open MP
section
variable {fns : List Fn} {G : List D} {W : Nat}
theorem call_eq {k f : Nat} {fn : Fn} (hf : fns[f]? = some fn) {ds : List D} (hl : ds.length = fn.np) (h : Heap) : callF fns G W (k + 1) f ds h = back h.length (eS (callF fns G W k) G W fn.body (ds ++ List.replicate (fn.ns - fn.np) .und) h) := by
  show (match fns[f]? with | none => _ | some fn => _) = _
  rw [hf]
  show (if ds.length = fn.np then _ else _) = _
  rw [if_pos hl]
/-- a result without a place, a heap of the same length -/
theorem back_same {n : Nat} {d : D} {h : Heap} (hd : d.low n = true) (hn : h.length = n) : back n (.ok (.ret d) h) = .ok d h := by
  show (if _ then _ else _) = _
  split
  · rw [← hn, List.take_length]
  · rfl
theorem back_non {n : Nat} {env : Env} {h : Heap} (hn : h.length = n) : back n (.ok (.nxt env) h) = .ok .non h := by
  show R.ok D.non (trim n h) = _
  unfold trim
  split
  · rw [← hn, List.take_length]
  · rfl
theorem B_len {h : Heap} {b : Nat} {v st a : Int} {L : D} : (B h b v st a L).length = h.length := by unfold B; rw [List.length_set]
/-- the box at b, as it stands between draws -/
def Box (h : Heap) (b : Nat) (cells : List Int) : Prop := b < h.length ∧ ∃ v st a : Int, h[b]? = some (.lst [.int v, .int st, .int a, .lst (cells.map .int)]) ∧ 0 ≤ v ∧ 0 ≤ a ∧ ∀ c ∈ cells, 0 ≤ c
theorem B_self {h : Heap} {b : Nat} {v st a : Int} {L : D} (e : h[b]? = some (.lst [.int v, .int st, .int a, L])) : B h b v st a L = h := by
  unfold B
  apply List.ext_getElem?
  intro i
  by_cases hi : b = i
  · subst hi
    have hl : b < h.length := (List.getElem?_eq_some_iff.mp e).1
    rw [List.getElem?_set_self hl, e]
  · rw [List.getElem?_set_ne hi]
/-- a draw: only the box changes -/
theorem take_call {k f : Nat} (hf : fns[f]? = some ⟨2, 5, bTake⟩) {h : Heap} {b : Nat} {cells : List Int} (hB : Box h b cells) {m : Int} (hm : 0 < m) (hm2 : m < 1073741824) :
    ∃ t o, callF fns G W (k + 1) f [.ref b, .int m] h = .ok (.int t) (h.set b o) ∧ 0 ≤ t ∧ t < m ∧ Box (h.set b o) b cells := by
  obtain ⟨hb, v, st, a, e, hv, ha, hc⟩ := hB
  obtain ⟨t, v', st', a', e2, h1, h2, h3, h4⟩ := take_body (Φ := callF fns G W k) (G := G) (W := W) (st := st) hb hm hm2 hc hv ha (d2 := .und) (d3 := .und) (d4 := .und)
  refine ⟨t, .lst [.int v', .int st', .int a', .lst (cells.map .int)], ?_, h1, h2, ?_⟩
  · rw [call_eq hf rfl]
    rw [B_self e] at e2
    show back h.length (eS (callF fns G W k) G W bTake [.ref b, .int m, .und, .und, .und] h) = _
    rw [e2]
    exact back_same rfl B_len
  · exact ⟨by rw [List.length_set]; exact hb, v', st', a', by rw [List.getElem?_set_self hb], h3, h4, hc⟩
theorem abs1 (x : Int) (h : Heap) : opF .abs [.int x] h = .ok (.int (if x < 0 then -x else x)) h := rfl
theorem box_comp {Φ : Nat → List D → Heap → R D} {x0 : D} {h : Heap} : ∀ xs : List Int, compL (turnL Φ G (.var 1) (.con (.bl true)) (.blt .abs (.cons (.blt .int (.cons (.var 1) .nil)) .nil)) [x0, .und]) [] (xs.map .int) h = .ok ((xs.map fun x => if x < 0 then -x else x).map .int) h
  | [] => rfl
  | x :: xs => by
    have ih := box_comp (Φ := Φ) (x0 := x0) (h := h) xs
    have e : turnL Φ G (.var 1) (.con (.bl true)) (.blt .abs (.cons (.blt .int (.cons (.var 1) .nil)) .nil)) [x0, .und] (.int x) h = .ok (some (.int (if x < 0 then -x else x))) h := by
      show (((eE Φ G (.con (.bl true)) [x0, .int x] h).bind tru).calm.bind fun b h => if b then (eE Φ G (.blt .abs (.cons (.blt .int (.cons (.var 1) .nil)) .nil)) [x0, .int x] h).calm.bind fun y h => .ok (some y) h else .ok none h) = _
      simp only [bl1, var1, eE_con, bind_ok, int1, abs1, tru1, R.calm, if_true]
    rw [List.map_cons, List.map_cons, List.map_cons]
    show (if gdOk h [] then _ else _) = _
    rw [if_pos (show gdOk h [] = true from rfl), e, bind_ok, ih, bind_ok]
/-- the box made -/
theorem box_call {k f : Nat} (hf : fns[f]? = some ⟨1, 2, bBox⟩) {xs : List Int} (hl : xs.length ≤ 63) : ∃ h cells, callF fns G W (k + 1) f [.frz (xs.map .int)] [] = .ok (.ref 0) h ∧ h.length = 1 ∧ Box h 0 cells := by
  refine ⟨[.lst [.int 0, .int 0, .int 0, .lst ((xs.map fun x => if x < 0 then -x else x).map .int)]], xs.map fun x => if x < 0 then -x else x, ?_, rfl, Nat.zero_lt_one, 0, 0, 0, rfl, by decide, by decide, fun c hc => ?_⟩
  · rw [call_eq hf rfl]
    show back 0 (eS (callF fns G W k) G W bBox [.frz (xs.map .int), .und] []) = _
    have e : eE (callF fns G W k) G (.lc true (.var 1) .gen (.cons (.var 0) .nil) (.con (.bl true)) (.blt .abs (.cons (.blt .int (.cons (.var 1) .nil)) .nil))) [.frz (xs.map .int), .und] [] = .ok (.lst ((xs.map fun x => if x < 0 then -x else x).map .int)) [] := by
      rw [eE_lc]
      show (compL (turnL (callF fns G W k) G (.var 1) (.con (.bl true)) (.blt .abs (.cons (.blt .int (.cons (.var 1) .nil)) .nil)) [.frz (xs.map .int), .und]) [] (xs.map .int) []).bind (fun ys h2 => newL true ys h2) = _
      rw [box_comp, bind_ok]
      unfold newL
      rw [if_pos (by simp only [List.length_map]; exact Nat.le_trans hl (by decide))]
      rfl
    have e2 : eS (callF fns G W k) G W bBox [.frz (xs.map .int), .und] [] = .ok (.ret (.ref 0)) [.lst [.int 0, .int 0, .int 0, .lst ((xs.map fun x => if x < 0 then -x else x).map .int)]] := by
      unfold bBox
      simp only [eS_cons, eS_ret, eE_lst, eE_cons, eE_con, eE_nil, e, bind_ok]
      rfl
    rw [e2]
    rfl
  · rw [List.mem_map] at hc
    obtain ⟨x, _, rfl⟩ := hc
    split <;> omega
end
end DR
/-! A place that a call never looks at may hold anything. Plain Lean. -/
namespace HD
open MP
/-- what lies hidden -/
class Hx where
  X : Ob
variable [Hx]
def Oh (o o' : Ob) : Prop := (o ≠ .hid ∧ o = o') ∨ (o = .hid ∧ Ob.low 0 o' = true ∧ o' = Hx.X)
inductive Hd : Heap → Heap → Prop
  | nil : Hd [] []
  | cons {o o' h h'} (a : Oh o o') (r : Hd h h') : Hd (o :: h) (o' :: h')
mutual
theorem low_mono {n m : Nat} (hm : n ≤ m) : ∀ d : D, d.low n = true → d.low m = true
  | .ref k, h => by simp only [D.low, decide_eq_true_eq] at h ⊢; omega
  | .tup xs, h => by simp only [D.low] at h ⊢; exact lows_mono hm xs h
  | .lst xs, h => by simp only [D.low] at h ⊢; exact lows_mono hm xs h
  | .frz xs, h => by simp only [D.low] at h ⊢; exact lows_mono hm xs h
  | .clo _ xs, h => by simp only [D.low] at h ⊢; exact lows_mono hm xs h
  | .und, _ => rfl
  | .non, _ => rfl
  | .bl _, _ => rfl
  | .int _, _ => rfl
  | .str _, _ => rfl
theorem lows_mono {n m : Nat} (hm : n ≤ m) : ∀ xs : List D, D.lows n xs = true → D.lows m xs = true
  | [], _ => rfl
  | x :: xs, h => by
    simp only [D.lows, Bool.and_eq_true] at h ⊢
    exact ⟨low_mono hm x h.1, lows_mono hm xs h.2⟩
end
theorem olow_mono {n m : Nat} (hm : n ≤ m) (o : Ob) (h : Ob.low n o = true) : Ob.low m o = true := by
  cases o with
  | lst xs => exact lows_mono hm xs h
  | set xs => exact lows_mono hm xs h
  | hid => rfl
  | dic kvs =>
    unfold Ob.low at h ⊢
    rw [List.all_eq_true] at h ⊢
    intro p hp
    have q := h p hp
    rw [Bool.and_eq_true] at q ⊢
    exact ⟨low_mono hm _ q.1, low_mono hm _ q.2⟩
variable {h h' : Heap}
theorem Hd.len : ∀ {h h' : Heap}, Hd h h' → h.length = h'.length
  | _, _, .nil => rfl
  | _, _, .cons _ r => by simp [r.len]
theorem Hd.get : ∀ {h h' : Heap} {n : Nat} {xs : List D}, Hd h h' → h[n]? = some (.lst xs) → h'[n]? = some (.lst xs)
  | _, _, 0, _, .cons a _, e => by
    simp only [List.getElem?_cons_zero, Option.some.injEq] at e ⊢
    rcases a with ⟨_, a⟩ | ⟨a, _⟩
    · rw [← a, e]
    · rw [a] at e; cases e
  | _, _, n + 1, _, .cons _ r, e => by
    simp only [List.getElem?_cons_succ] at e ⊢
    exact r.get e
  | _, _, _, _, .nil, e => by simp at e
theorem Hd.set {xs : List D} : ∀ {h h' : Heap} (n : Nat), Hd h h' → Hd (h.set n (.lst xs)) (h'.set n (.lst xs))
  | _, _, _, .nil => .nil
  | _, _, 0, .cons _ r => .cons (.inl ⟨by simp, rfl⟩) r
  | _, _, n + 1, .cons a r => .cons a (Hd.set n r)
theorem Hd.app (xs : List D) : ∀ {h h' : Heap}, Hd h h' → Hd (h ++ [.lst xs]) (h' ++ [.lst xs])
  | _, _, .nil => .cons (.inl ⟨by simp, rfl⟩) .nil
  | _, _, .cons a r => .cons a (r.app xs)
theorem Hd.take : ∀ {h h' : Heap} (n : Nat), Hd h h' → Hd (h.take n) (h'.take n)
  | _, _, 0, _ => by simp only [List.take_zero]; exact .nil
  | _, _, n + 1, .nil => .nil
  | _, _, n + 1, .cons a r => .cons a (Hd.take n r)
theorem Hd.low (n : Nat) : ∀ {h h' : Heap}, Hd h h' → h.all (Ob.low n) = h'.all (Ob.low n)
  | _, _, .nil => rfl
  | _, _, .cons a r => by
    simp only [List.all_cons, r.low n]
    rcases a with ⟨_, a⟩ | ⟨a, b⟩
    · rw [a]
    · rw [a, olow_mono (Nat.zero_le n) _ b.1]; rfl
/-! ### results -/
def RR {α : Type} (r r' : R α) : Prop := match r with
  | .ok a h => ∃ h', r' = .ok a h' ∧ Hd h h'
  | .exc c h => ∃ h', r' = .exc c h' ∧ Hd h h'
  | .bad => True
def OO {α : Type} (o o' : Option α) : Prop := ∀ a, o = some a → o' = some a
theorem RR.ok {α : Type} {a : α} (d : Hd h h') : RR (.ok a h) (.ok a h') := ⟨h', rfl, d⟩
theorem RR.bad {α : Type} {r : R α} : RR .bad r := trivial
theorem RR.bind {α β : Type} {r r' : R α} {f f' : α → Heap → R β} (a : RR r r') (b : ∀ x h h', Hd h h' → RR (f x h) (f' x h')) : RR (r.bind f) (r'.bind f') := by
  cases r with
  | ok x h => obtain ⟨h', e, d⟩ := a; rw [e]; exact b x h h' d
  | exc c h => obtain ⟨h', e, d⟩ := a; rw [e]; exact ⟨h', rfl, d⟩
  | bad => trivial
theorem RR.calm {α : Type} {r r' : R α} (a : RR r r') : RR r.calm r'.calm := by
  cases r with
  | ok x h => obtain ⟨h', e, d⟩ := a; rw [e]; exact ⟨h', rfl, d⟩
  | exc c h => trivial
  | bad => trivial
theorem RR.opt {α : Type} {o o' : Option α} (d : Hd h h') (e : OO o o') : RR (R.opt h o) (R.opt h' o') := by
  cases o with
  | none => trivial
  | some a => rw [e a rfl]; exact .ok d
theorem RR.ite {α : Type} {c : Prop} [Decidable c] {r r' : R α} (a : RR r r') : RR (if c then r else .bad) (if c then r' else .bad) := by
  split
  · exact a
  · trivial
theorem RR.iff {α : Type} {c : Bool} {r r' q q' : R α} (a : RR r r') (b : RR q q') : RR (if c = true then r else q) (if c = true then r' else q') := by
  split
  · exact a
  · exact b
theorem OO.rfl' {α : Type} {o : Option α} : OO o o := fun _ e => e
theorem OO.map {α β : Type} {o o' : Option α} {f : α → β} (a : OO o o') : OO (o.map f) (o'.map f) := fun b e => by
  rw [Option.map_eq_some_iff] at e ⊢
  obtain ⟨x, e1, e2⟩ := e
  exact ⟨x, a x e1, e2⟩
theorem OO.bind {α β : Type} {o o' : Option α} {f f' : α → Option β} (a : OO o o') (b : ∀ x, OO (f x) (f' x)) : OO (o.bind f) (o'.bind f') := fun y e => by
  rw [Option.bind_eq_some_iff] at e ⊢
  obtain ⟨x, e1, e2⟩ := e
  exact ⟨x, a x e1, b x y e2⟩
/-- what looks at a place looks for a list -/
theorem OO.at_ {α : Type} (d : Hd h h') (n : Nat) (f : List D → Option α) : OO (match h[n]? with | some (.lst xs) => f xs | _ => none) (match h'[n]? with | some (.lst xs) => f xs | _ => none) := fun a e => by
  split at e
  · rename_i xs q
    rw [d.get q]; exact e
  · cases e
theorem RR.at_ {α : Type} (d : Hd h h') (n : Nat) {f f' : List D → R α} (k : ∀ xs, RR (f xs) (f' xs)) : RR (match h[n]? with | some (.lst xs) => f xs | _ => .bad) (match h'[n]? with | some (.lst xs) => f' xs | _ => .bad) := by
  split
  · rename_i xs q
    rw [d.get q]; exact k xs
  · trivial
theorem rlist_h (d : Hd h h') (x : D) : OO (rlist h x) (rlist h' x) := by
  cases x <;> first | exact OO.at_ d _ _ | exact OO.rfl'
theorem items_h (d : Hd h h') (x : D) : OO (items h x) (items h' x) := by
  cases x <;> first | exact OO.at_ d _ _ | exact OO.rfl'
theorem truthy_h (d : Hd h h') (x : D) : OO (truthy h x) (truthy h' x) := by
  cases x <;> first | exact OO.at_ d _ _ | exact OO.rfl'
theorem isL_h (d : Hd h h') (x : D) : OO (isL h x) (isL h' x) := by
  cases x <;> first | exact OO.at_ d _ _ | exact OO.rfl'
theorem opI_h (d : Hd h h') (x y : D) : OO (opI x y h) (opI x y h') := by
  cases x <;> cases y <;> first | exact OO.rfl' | exact OO.at_ d _ _
mutual
theorem rsv_h (d : Hd h h') : ∀ (n : Nat) (x : D), OO (rsv h n x) (rsv h' n x)
  | 0, _ => fun _ e => by simp [rsv] at e
  | n + 1, .ref k => fun a e => by
    unfold rsv at e ⊢
    split at e
    · rename_i xs q
      rw [d.get q]
      exact (OO.map (rsvs_h d n xs)) a e
    · cases e
  | n + 1, .tup xs => by unfold rsv; exact OO.map (rsvs_h d n xs)
  | n + 1, .lst xs => by unfold rsv; exact OO.map (rsvs_h d n xs)
  | n + 1, .non => by unfold rsv; exact OO.rfl'
  | n + 1, .bl _ => by unfold rsv; exact OO.rfl'
  | n + 1, .int _ => by unfold rsv; exact OO.rfl'
  | n + 1, .str _ => by unfold rsv; exact OO.rfl'
  | n + 1, .und => by unfold rsv; exact OO.rfl'
  | n + 1, .frz _ => by unfold rsv; exact OO.rfl'
  | n + 1, .clo _ _ => by unfold rsv; exact OO.rfl'
theorem rsvs_h (d : Hd h h') : ∀ (n : Nat) (xs : List D), OO (rsvs h n xs) (rsvs h' n xs)
  | 0, _ => fun _ e => by simp [rsvs] at e
  | n + 1, [] => by unfold rsvs; exact OO.rfl'
  | n + 1, x :: xs => by unfold rsvs; exact OO.bind (rsv_h d n x) fun y => OO.map (rsvs_h d (n + 1) xs)
end
theorem rsvD_h (d : Hd h h') (x : D) : OO (rsvD h x) (rsvD h' x) := by
  unfold rsvD
  split
  · exact OO.rfl'
  · exact rsv_h d _ _
theorem eqD_h (d : Hd h h') (x y : D) : OO (eqD h x y) (eqD h' x y) := by
  unfold eqD
  exact OO.bind (rsvD_h d x) fun _ => OO.map (rsvD_h d y)
theorem newL_h (d : Hd h h') {imm : Bool} {xs : List D} : RR (newL imm xs h) (newL imm xs h') := by
  unfold newL
  refine RR.ite ?_
  cases imm with
  | true => exact RR.ok d
  | false =>
    rw [d.len]
    exact RR.ok (d.app _)
theorem rep_h (d : Hd h h') {m : Bool} {x : D} {k : Int} : RR (match rlist h x with | some xs => if decide (k ≤ 4096) && decide (-4096 ≤ k) && decide (xs.length ≤ 4096) then newL m (rep k.toNat xs) h else .bad | none => .bad) (match rlist h' x with | some xs => if decide (k ≤ 4096) && decide (-4096 ≤ k) && decide (xs.length ≤ 4096) then newL m (rep k.toNat xs) h' else .bad | none => .bad) := by
  cases e : rlist h x with
  | none => trivial
  | some xs => rw [rlist_h d x xs e]; exact RR.ite (newL_h d)
theorem add_h (d : Hd h h') {m : Bool} {x y : D} : RR (match rlist h x, rlist h y with | some xs, some ys => if xs.length + ys.length ≤ SZ then newL m (xs ++ ys) h else .bad | _, _ => .bad) (match rlist h' x, rlist h' y with | some xs, some ys => if xs.length + ys.length ≤ SZ then newL m (xs ++ ys) h' else .bad | _, _ => .bad) := by
  cases e : rlist h x with
  | none => trivial
  | some xs =>
    cases e2 : rlist h y with
    | none => trivial
    | some ys => rw [rlist_h d x xs e, rlist_h d y ys e2]; exact RR.ite (newL_h d)
theorem RR.ite2 {α : Type} {c : Prop} [Decidable c] {r r' q q' : R α} (a : RR r r') (b : RR q q') : RR (if c then r else q) (if c then r' else q') := by
  split
  · exact a
  · exact b
theorem opB_h (d : Hd h h') (o : BOp) (x y : D) : RR (opB o x y h) (opB o x y h') := by
  cases o <;> cases x <;> cases y <;> first
    | exact RR.bad
    | exact RR.ok d
    | exact add_h d
    | exact rep_h d
    | exact RR.ite (newL_h d)
    | exact RR.ite (RR.ok d)
    | exact RR.ite2 (RR.ite (RR.ok d)) (RR.ok d)
theorem opC_h (d : Hd h h') (o : COp) (x y : D) : OO (opC o x y h) (opC o x y h') := by
  have i : ∀ f : Bool → Bool, OO ((rsvD h x).bind fun d => (rsvD h y).bind fun ys => match ys with | .lst zs => some (f (zs.any fun z => D.eqv z d)) | .tup zs => some (f (zs.any fun z => D.eqv z d)) | _ => none) ((rsvD h' x).bind fun d => (rsvD h' y).bind fun ys => match ys with | .lst zs => some (f (zs.any fun z => D.eqv z d)) | .tup zs => some (f (zs.any fun z => D.eqv z d)) | _ => none) :=
    fun f => OO.bind (rsvD_h d x) fun _ => OO.bind (rsvD_h d y) fun _ => OO.rfl'
  cases o with
  | isin => exact i id
  | notin => exact i (!·)
  | eq => cases x <;> cases y <;> first | exact OO.rfl' | exact eqD_h d _ _
  | ne => cases x <;> cases y <;> first | exact OO.rfl' | exact OO.map (eqD_h d _ _)
  | _ => cases x <;> cases y <;> exact OO.rfl'
theorem remade_h (d : Hd h h') {imm : Bool} {f : List D → List D} (x : D) : RR (remade imm f x h) (remade imm f x h') := by
  cases x <;> first | exact RR.bad | exact RR.ok d | exact newL_h d | exact RR.at_ d _ fun _ => newL_h d
theorem ob_h {α β : Type} (d : Hd h h') {o o' : Option α} {f : α → Heap → R β} (a : OO o o') (k : ∀ x h h', Hd h h' → RR (f x h) (f x h')) : RR ((R.opt h o).bind f) ((R.opt h' o').bind f) := RR.bind (RR.opt d a) k
theorem iso_h (d : Hd h h') (t : Ty) (x : D) : RR ((R.opt h (isTy t x)).bind fun b h => R.ok (D.bl b) h) ((R.opt h' (isTy t x)).bind fun b h => R.ok (D.bl b) h) := ob_h d OO.rfl' fun _ _ _ d => RR.ok d
theorem isin_h (d : Hd h h') (t : Ty) (x : D) : RR (opF (.isinst t) [x] h) (opF (.isinst t) [x] h') := by
  cases x with
  | ref n =>
    show RR (match h[n]? with | some (.lst _) => R.ok (D.bl (decide (t = .list))) h | _ => .bad) (match h'[n]? with | some (.lst _) => R.ok (D.bl (decide (t = .list))) h' | _ => .bad)
    exact RR.at_ d n fun _ => RR.ok d
  | und => exact iso_h d t .und
  | non => exact iso_h d t .non
  | bl b => exact iso_h d t (.bl b)
  | int b => exact iso_h d t (.int b)
  | str b => exact iso_h d t (.str b)
  | tup b => exact iso_h d t (.tup b)
  | lst b => exact iso_h d t (.lst b)
  | frz b => exact iso_h d t (.frz b)
  | clo b c => exact iso_h d t (.clo b c)
theorem ns_h {α : Type} (d : Hd h h') {o o' : Option (List D)} (a : OO o o') (f : List D → Option α) : OO (o.bind f) (o'.bind f) := OO.bind a fun _ => OO.rfl'
theorem nil_h {ns : List Int} {f : Int → List Int → D} (d : Hd h h') : RR (match ns with | [] => .bad | n :: ns => .ok (f n ns) h) (match ns with | [] => .bad | n :: ns => .ok (f n ns) h') := by
  cases ns with
  | nil => trivial
  | cons n ns => exact RR.ok d
theorem opF_h (d : Hd h h') (f : Blt) (xs : List D) : RR (opF f xs h) (opF f xs h') := by
  cases f with
  | isinst t => cases xs with
    | nil => trivial
    | cons x xs => cases xs with
      | nil => exact isin_h d t x
      | cons y ys => trivial
  | _ => first
    | exact RR.bad
    | (cases xs with
      | nil => exact RR.bad
      | cons x xs =>
        cases xs with
        | nil => first
          | exact RR.bad
          | exact ob_h d (ns_h d (items_h d x) intsOf) fun _ _ _ d => nil_h d
          | exact ob_h d (ns_h d (rlist_h d x) intsOf) fun _ _ _ d => RR.ok d
          | exact ob_h d (ns_h d (rlist_h d x) intsOf) fun _ _ _ d => newL_h d
          | exact ob_h d (ns_h d (rlist_h d x) bools) fun _ _ _ d => RR.ok d
          | exact ob_h d (items_h d x) fun _ _ _ d => newL_h d
          | (cases x <;> first
            | exact RR.bad
            | exact RR.ok d
            | exact RR.ite (RR.ok d)
            | exact RR.ite (newL_h d)
            | exact ob_h d (items_h d _) fun _ _ _ d => RR.ok d)
        | cons y ys => cases ys with
          | nil => first
            | exact RR.bad
            | (cases x <;> cases y <;> first | exact RR.bad | exact RR.ok d | exact RR.ite (newL_h d))
          | cons z zs => first | exact RR.bad | (cases x <;> first | exact RR.bad | (cases y <;> exact RR.bad)))
end HD
namespace HD
open MP
variable [Hx] {h h' : Heap}
theorem get_none {α : Type} {o : Option α} (e : o = none) : o = none := e
theorem RR.matchO {α β : Type} {o : Option α} {f f' : α → R β} (k : ∀ a, RR (f a) (f' a)) : RR (match o with | some a => f a | none => .bad) (match o with | some a => f' a | none => .bad) := by
  cases o with
  | none => trivial
  | some a => exact k a
theorem opM_h (d : Hd h h') (m : Mth) (o : D) (vs : List D) : RR (opM m o vs h) (opM m o vs h') := by
  cases o with
  | ref n =>
    unfold opM
    refine RR.at_ (f := fun xs => _) (f' := fun xs => _) d n fun xs => ?_
    cases m with
    | append => cases vs with
      | nil => trivial
      | cons y vs => cases vs with
        | nil => exact RR.ite (RR.ok (d.set n))
        | cons z vs => trivial
    | extend => cases vs with
      | nil => trivial
      | cons y vs => cases vs with
        | nil =>
          show RR (match rlist h y with | some ys => _ | none => _) (match rlist h' y with | some ys => _ | none => _)
          cases e : rlist h y with
          | none => trivial
          | some ys => rw [rlist_h d y ys e]; exact RR.ite (RR.ok (d.set n))
        | cons z vs => trivial
    | pop => cases vs with
      | nil =>
        show RR (match xs[xs.length - 1]? with | some y => _ | none => _) (match xs[xs.length - 1]? with | some y => _ | none => _)
        cases xs[xs.length - 1]? with
        | none => trivial
        | some y => exact RR.ok (d.set n)
      | cons y vs => trivial
    | popAt => cases vs with
      | nil => trivial
      | cons y vs => cases vs with
        | nil => cases y with
          | int i =>
            refine RR.ite ?_
            cases ixN xs.length i with
            | none => trivial
            | some k =>
              show RR (match xs[k]? with | some y => _ | none => _) (match xs[k]? with | some y => _ | none => _)
              cases xs[k]? with
              | none => trivial
              | some y => exact RR.ok (d.set n)
          | _ => trivial
        | cons z vs => cases y <;> trivial
    | insert => cases vs with
      | nil => trivial
      | cons y vs => cases vs with
        | nil => cases y <;> trivial
        | cons z vs => cases vs with
          | nil => cases y <;> first | exact RR.ite (RR.ok (d.set n)) | trivial
          | cons u vs => cases y <;> trivial
    | _ => trivial
  | _ => trivial
theorem gdOk_h (d : Hd h h') (g : Gd) (e : gdOk h g = true) : gdOk h' g = true := by
  unfold gdOk at e ⊢
  rw [List.all_eq_true] at e ⊢
  intro p hp
  have q := e p hp
  revert q
  split
  · rename_i xs q
    intro z
    rw [d.get q]; exact z
  · intro z; cases z
theorem gdOf_h (d : Hd h h') {x : D} {xs : List D} (e : items h x = some xs) : gdOf h' x = gdOf h x := by
  cases x with
  | ref n =>
    unfold items at e
    unfold gdOf
    revert e
    dsimp only
    split
    · rename_i ys q
      intro e
      rw [d.get q]
    · intro e; cases e
  | _ => rfl
theorem rl_items {x : D} {xs : List D} (e : rlist h x = some xs) : items h x = some xs := by
  cases x <;> first | exact e | cases e
theorem iterOf_h (d : Hd h h') (k : ItK) (ds : List D) : OO (iterOf k ds h) (iterOf k ds h') := by
  intro p e
  cases k with
  | gen =>
    cases ds with
    | nil => cases e
    | cons x ds => cases ds with
      | cons y ds => cases e
      | nil =>
        have e : (items h x).map (fun xs => (xs, gdOf h x)) = some p := e
        show (items h' x).map (fun xs => (xs, gdOf h' x)) = some p
        rw [Option.map_eq_some_iff] at e ⊢
        obtain ⟨xs, e1, e2⟩ := e
        exact ⟨xs, items_h d x xs e1, by rw [gdOf_h d e1]; exact e2⟩
  | rng =>
    cases ds with
    | nil => cases e
    | cons x ds => cases ds with
      | nil => cases x <;> first | exact e | cases e
      | cons y ds => cases ds with
        | nil => cases x <;> cases y <;> first | exact e | cases e
        | cons z ds => cases x <;> cases y <;> cases e
  | enum =>
    cases ds with
    | nil => cases e
    | cons x ds => cases ds with
      | cons y ds => cases e
      | nil =>
        have e : (rlist h x).map (fun xs => (enumD 0 xs, gdOf h x)) = some p := e
        show (rlist h' x).map (fun xs => (enumD 0 xs, gdOf h' x)) = some p
        rw [Option.map_eq_some_iff] at e ⊢
        obtain ⟨xs, e1, e2⟩ := e
        exact ⟨xs, rlist_h d x xs e1, by rw [gdOf_h d (rl_items e1)]; exact e2⟩
  | zip =>
    cases ds with
    | nil => cases e
    | cons x ds => cases ds with
      | nil => cases x <;> cases e
      | cons y ds => cases ds with
        | cons z ds => cases x <;> cases y <;> cases e
        | nil =>
          have gen : (rlist h x).bind (fun xs => (rlist h y).map fun ys => (zipD xs ys, gdOf h x ++ gdOf h y)) = some p → (rlist h' x).bind (fun xs => (rlist h' y).map fun ys => (zipD xs ys, gdOf h' x ++ gdOf h' y)) = some p := fun e => by
            rw [Option.bind_eq_some_iff] at e ⊢
            obtain ⟨xs, e1, e2⟩ := e
            rw [Option.map_eq_some_iff] at e2
            obtain ⟨ys, e3, e4⟩ := e2
            refine ⟨xs, rlist_h d x xs e1, ?_⟩
            rw [Option.map_eq_some_iff]
            exact ⟨ys, rlist_h d y ys e3, by rw [gdOf_h d (rl_items e1), gdOf_h d (rl_items e3)]; exact e4⟩
          cases x <;> cases y <;> first | exact gen e | exact e
section
variable {Φ Φ' : Nat → List D → Heap → R D} {G : List D}
theorem compL_h {f f' : D → Heap → R (Option D)} {g : Gd} (k : ∀ x h h', Hd h h' → RR (f x h) (f' x h')) : ∀ (xs : List D) {h h' : Heap}, Hd h h' → RR (compL f g xs h) (compL f' g xs h')
  | [], h, h', d => by
    unfold compL
    split
    · rename_i q; rw [if_pos (gdOk_h d g q)]; exact RR.ok d
    · trivial
  | x :: xs, h, h', d => by
    unfold compL
    split
    · rename_i q
      rw [if_pos (gdOk_h d g q)]
      exact RR.bind (k x h h' d) fun o h1 h1' d1 => RR.bind (compL_h k xs d1) fun ys h2 h2' d2 => RR.ok d2
    · trivial
theorem compL2_h {f f' : D → Heap → R (List D)} {g : Gd} (k : ∀ x h h', Hd h h' → RR (f x h) (f' x h')) : ∀ (xs : List D) {h h' : Heap}, Hd h h' → RR (compL2 f g xs h) (compL2 f' g xs h')
  | [], h, h', d => by
    unfold compL2
    split
    · rename_i q; rw [if_pos (gdOk_h d g q)]; exact RR.ok d
    · trivial
  | x :: xs, h, h', d => by
    unfold compL2
    split
    · rename_i q
      rw [if_pos (gdOk_h d g q)]
      exact RR.bind (k x h h' d) fun o h1 h1' d1 => RR.bind (compL2_h k xs d1) fun ys h2 h2' d2 => RR.ok d2
    · trivial
theorem tru_h (d : Hd h h') (x : D) : RR (tru x h) (tru x h') := RR.opt d (truthy_h d x)
abbrev EH (Φ Φ' : Nat → List D → Heap → R D) (G : List D) (e : E) : Prop := ∀ (env : Env) (h h' : Heap), Hd h h' → RR (eE Φ G e env h) (eE Φ' G e env h')
theorem turnL_h {tg c el : E} (hc : EH Φ Φ' G c) (he : EH Φ Φ' G el) (env : Env) (x : D) (h h' : Heap) (d : Hd h h') : RR (turnL Φ G tg c el env x h) (turnL Φ' G tg c el env x h') := by
  unfold turnL
  cases bindT tg x env with
  | none => trivial
  | some env' => exact RR.bind (RR.calm (RR.bind (hc env' h h' d) fun x h h' d => tru_h d x)) fun b h h' d => RR.iff (RR.bind (RR.calm (he env' h h' d)) fun y h h' d => RR.ok d) (RR.ok d)
theorem turnL2_h {g : Gd} {tg c tg1 : E} {k1 : ItK} {ia1 c1 el : E} (hc : EH Φ Φ' G c) (hi : EH Φ Φ' G ia1) (hc1 : EH Φ Φ' G c1) (he : EH Φ Φ' G el) (env : Env) (x : D) (h h' : Heap) (d : Hd h h') :
    RR (turnL2 Φ G g tg c tg1 k1 ia1 c1 el env x h) (turnL2 Φ' G g tg c tg1 k1 ia1 c1 el env x h') := by
  unfold turnL2
  cases bindT tg x env with
  | none => trivial
  | some env' =>
    refine RR.bind (RR.calm (RR.bind (hc env' h h' d) fun x h h' d => tru_h d x)) fun b h h' d => RR.iff (RR.bind (RR.calm (hi env' h h' d)) fun ds h h' d => ?_) (RR.ok d)
    cases e : iterOf k1 (args ds) h with
    | none => trivial
    | some p => rw [iterOf_h d _ _ p e]; exact compL_h (turnL_h hc1 he _) p.1 d
/-- expressions -/
theorem eE_h (hΦ : ∀ f ds h h', Hd h h' → RR (Φ f ds h) (Φ' f ds h')) : ∀ e : E, EH Φ Φ' G e := by
  intro e
  induction e with
  | var i => intro env h h' d; rw [eE_var, eE_var]; split <;> first | exact RR.bad | exact RR.ok d
  | con x => intro env h h' d; exact RR.ok d
  | glo j => intro env h h' d; rw [eE_glo, eE_glo]; split <;> first | exact RR.bad | exact RR.ok d
  | nil => intro env h h' d; exact RR.ok d
  | cons a r ia ir => intro env h h' d; exact RR.bind (ia env h h' d) fun x h h' d => RR.bind (ir env h h' d) fun y h h' d => RR.ok d
  | tup es ie => intro env h h' d; exact ie env h h' d
  | lst imm es ie => intro env h h' d; exact RR.bind (ie env h h' d) fun x h h' d => newL_h d
  | bin o a b ia ib => intro env h h' d; exact RR.bind (ia env h h' d) fun x h h' d => RR.bind (ib env h h' d) fun y h h' d => opB_h d o x y
  | neg a ia =>
    intro env h h' d
    refine RR.bind (ia env h h' d) fun x h h' d => ?_
    cases x <;> first | exact RR.bad | exact RR.ok d
  | cmp o a b ia ib => intro env h h' d; exact RR.bind (ia env h h' d) fun x h h' d => RR.bind (ib env h h' d) fun y h h' d => ob_h d (opC_h d o x y) fun b h h' d => RR.ok d
  | chn o p a b c ia ib ic =>
    intro env h h' d
    exact RR.bind (ia env h h' d) fun x h h' d => RR.bind (ib env h h' d) fun y h h' d => RR.bind (RR.opt d (opC_h d o x y)) fun q h h' d => RR.iff (RR.bind (ic env h h' d) fun z h h' d => ob_h d (opC_h d p y z) fun b h h' d => RR.ok d) (RR.ok d)
  | and2 a r ia ir => intro env h h' d; exact RR.bind (ia env h h' d) fun x h h' d => RR.bind (tru_h d x) fun q h h' d => RR.iff (ir env h h' d) (RR.ok d)
  | or2 a r ia ir => intro env h h' d; exact RR.bind (ia env h h' d) fun x h h' d => RR.bind (tru_h d x) fun q h h' d => RR.iff (RR.ok d) (ir env h h' d)
  | one a ia => intro env h h' d; exact ia env h h' d
  | nt a ia => intro env h h' d; exact RR.bind (ia env h h' d) fun x h h' d => RR.bind (tru_h d x) fun q h h' d => RR.ok d
  | ite c a b ic ia ib => intro env h h' d; exact RR.bind (ic env h h' d) fun x h h' d => RR.bind (tru_h d x) fun q h h' d => RR.iff (ia env h h' d) (ib env h h' d)
  | idx a b ia ib => intro env h h' d; exact RR.bind (ia env h h' d) fun x h h' d => RR.bind (ib env h h' d) fun y h h' d => RR.opt d (opI_h d x y)
  | slc imm a lo hi ia il ih =>
    intro env h h' d
    exact RR.bind (ia env h h' d) fun x h h' d => RR.bind (RR.bind (il env h h' d) fun y h h' d => RR.opt d OO.rfl') fun l h h' d => RR.bind (RR.bind (ih env h h' d) fun y h h' d => RR.opt d OO.rfl') fun u h h' d => remade_h d x
  | rev imm a ia => intro env h h' d; exact RR.bind (ia env h h' d) fun x h h' d => remade_h d x
  | call f es ie => intro env h h' d; exact RR.bind (ie env h h' d) fun x h h' d => hΦ f (args x) h h' d
  | blt f es ie => intro env h h' d; exact RR.bind (ie env h h' d) fun x h h' d => opF_h d f (args x)
  | mth m o es io ie => intro env h h' d; exact RR.bind (io env h h' d) fun x h h' d => RR.bind (RR.opt d (isL_h d x)) fun _ h h' d => RR.bind (ie env h h' d) fun y h h' d => opM_h d m x (args y)
  | lc imm tg k ia c el _ ii ic ie =>
    intro env h h' d
    rw [eE_lc, eE_lc]
    refine RR.bind (ii env h h' d) fun x h h' d => ?_
    cases e : iterOf k (args x) h with
    | none => trivial
    | some p =>
      rw [iterOf_h d _ _ p e]
      exact RR.bind (compL_h (turnL_h ic ie _) p.1 d) fun ys h h' d => newL_h d
  | lc2 imm tg k ia c tg1 k1 ia1 c1 el _ ii ic _ ii1 ic1 ie =>
    intro env h h' d
    rw [eE_lc2, eE_lc2]
    refine RR.bind (ii env h h' d) fun x h h' d => ?_
    cases e : iterOf k (args x) h with
    | none => trivial
    | some p =>
      rw [iterOf_h d _ _ p e]
      exact RR.bind (compL2_h (turnL2_h ic ii1 ic1 ie _) p.1 d) fun ys h h' d => newL_h d
end
end HD
namespace HD
open MP
variable [Hx] {h h' : Heap}
theorem setL_h (d : Hd h h') (o i v : D) : RR (setL o i v h) (setL o i v h') := by
  cases o with
  | ref n => cases i with
    | int k =>
      unfold setL
      refine RR.at_ (f := fun xs => _) (f' := fun xs => _) d n fun xs => ?_
      cases ixN xs.length k with
      | none => trivial
      | some j => exact RR.ok (d.set n)
    | _ => trivial
  | _ => trivial
section
variable {Φ Φ' : Nat → List D → Heap → R D} {G : List D} {W : Nat}
variable (hΦ : ∀ f ds h h', Hd h h' → RR (Φ f ds h) (Φ' f ds h'))
include hΦ
theorem setTs_h : ∀ (t : E), (∀ (x : D) (env : Env) (h h' : Heap), Hd h h' → RR (setT Φ G t x env h) (setT Φ' G t x env h')) ∧ (∀ (xs : List D) (env : Env) (h h' : Heap), Hd h h' → RR (setTs Φ G t xs env h) (setTs Φ' G t xs env h')) := by
  intro t
  induction t with
  | var i =>
    refine ⟨fun x env h h' d => ?_, fun xs env h h' d => by unfold setTs; trivial⟩
    unfold setT
    exact RR.ite (RR.ok d)
  | idx a b _ _ =>
    refine ⟨fun x env h h' d => ?_, fun xs env h h' d => by unfold setTs; trivial⟩
    unfold setT
    exact RR.bind (eE_h hΦ a env h h' d) fun o h h' d => RR.bind (eE_h hΦ b env h h' d) fun i h h' d => RR.bind (setL_h d o i x) fun _ h h' d => RR.ok d
  | tup es ih =>
    refine ⟨fun x env h h' d => ?_, fun xs env h h' d => by unfold setTs; trivial⟩
    cases x with
    | tup ds => unfold setT; exact RR.ite (ih.2 ds env h h' d)
    | _ => unfold setT; trivial
  | nil =>
    refine ⟨fun x env h h' d => by unfold setT; trivial, fun xs env h h' d => ?_⟩
    cases xs with
    | nil => unfold setTs; exact RR.ok d
    | cons x xs => unfold setTs; trivial
  | cons a r ia ir =>
    refine ⟨fun x env h h' d => by unfold setT; trivial, fun xs env h h' d => ?_⟩
    cases xs with
    | nil => unfold setTs; trivial
    | cons x xs =>
      unfold setTs
      exact RR.bind (ia.1 x env h h' d) fun env h h' d => ir.2 xs env h h' d
  | _ => exact ⟨fun x env h h' d => by unfold setT; trivial, fun xs env h h' d => by unfold setTs; trivial⟩
omit hΦ in
theorem loop_h {c c' : Env → Heap → R Bool} {b b' : Env → Heap → R Fl} (kc : ∀ env h h', Hd h h' → RR (c env h) (c' env h')) (kb : ∀ env h h', Hd h h' → RR (b env h) (b' env h')) : ∀ (n : Nat) (env : Env) (h h' : Heap), Hd h h' → RR (loop c b n env h) (loop c' b' n env h')
  | 0, _, _, _, _ => trivial
  | n + 1, env, h, h', d => by
    unfold loop
    refine RR.bind (kc env h h' d) fun q h h' d => RR.iff (RR.bind (kb env h h' d) fun f h h' d => ?_) (RR.ok d)
    cases f with
    | nxt env' => exact loop_h kc kb n env' h h' d
    | cnt env' => exact loop_h kc kb n env' h h' d
    | brk env' => exact RR.ok d
    | ret x => exact RR.ok d
omit hΦ in
theorem forL_h {t : D → Env → Heap → R Env} {b b' : Env → Heap → R Fl} {g : Gd} (kt : ∀ x env h h', Hd h h' → RR (t x env h) (t x env h')) (kb : ∀ env h h', Hd h h' → RR (b env h) (b' env h')) : ∀ (xs : List D) (env : Env) (h h' : Heap), Hd h h' → RR (forL t b g xs env h) (forL t b' g xs env h')
  | [], env, h, h', d => by
    unfold forL
    split
    · rename_i q; rw [if_pos (gdOk_h d g q)]; exact RR.ok d
    · trivial
  | x :: xs, env, h, h', d => by
    unfold forL
    split
    · rename_i q
      rw [if_pos (gdOk_h d g q)]
      refine RR.bind (kt x env h h' d) fun env h h' d => RR.bind (kb env h h' d) fun f h h' d => ?_
      cases f with
      | nxt env' => exact forL_h kt kb xs env' h h' d
      | cnt env' => exact forL_h kt kb xs env' h h' d
      | brk env' => exact RR.ok d
      | ret x => exact RR.ok d
    · trivial
theorem eS_h : ∀ (s : S) (env : Env) (h h' : Heap), Hd h h' → RR (eS Φ G W s env h) (eS Φ' G W s env h') := by
  intro s
  induction s with
  | pass => intro env h h' d; exact RR.ok d
  | asg t e => intro env h h' d; exact RR.bind (eE_h hΦ e env h h' d) fun x h h' d => RR.bind ((setTs_h hΦ t).1 x env h h' d) fun env h h' d => RR.ok d
  | par is es => intro env h h' d; exact RR.bind (eE_h hΦ es env h h' d) fun x h h' d => ob_h d OO.rfl' fun env h h' d => RR.ok d
  | aug o t e =>
    intro env h h' d
    cases t with
    | var i =>
      rw [eS_augV, eS_augV]
      exact RR.bind (eE_h hΦ _ env h h' d) fun x h h' d => RR.bind (eE_h hΦ e env h h' d) fun y h h' d => RR.bind (RR.opt d OO.rfl') fun z h h' d => RR.ite (RR.ok d)
    | idx a b =>
      rw [eS_augI, eS_augI]
      exact RR.bind (eE_h hΦ a env h h' d) fun x h h' d => RR.bind (eE_h hΦ b env h h' d) fun i h h' d => RR.bind (RR.opt d (OO.bind (isL_h d x) fun _ => opI_h d x i)) fun y h h' d => RR.bind (eE_h hΦ e env h h' d) fun z h h' d => RR.bind (RR.opt d OO.rfl') fun u h h' d => RR.bind (setL_h d x i u) fun _ h h' d => RR.ok d
    | _ => trivial
  | exp e => intro env h h' d; exact RR.bind (eE_h hΦ e env h h' d) fun x h h' d => RR.ok d
  | ite c a b ia ib => intro env h h' d; exact RR.bind (eE_h hΦ c env h h' d) fun x h h' d => RR.bind (tru_h d x) fun q h h' d => RR.iff (ia env h h' d) (ib env h h' d)
  | whl c b ib => intro env h h' d; exact loop_h (fun env h h' d => RR.bind (eE_h hΦ c env h h' d) fun x h h' d => tru_h d x) ib W env h h' d
  | «for» t k ia b ib =>
    intro env h h' d
    rw [eS_for, eS_for]
    refine RR.bind (eE_h hΦ ia env h h' d) fun x h h' d => ?_
    cases e : iterOf k (args x) h with
    | none => trivial
    | some p =>
      rw [iterOf_h d _ _ p e]
      exact forL_h (t := fun x env h => R.opt h (bindT t x env)) (fun x env h h' d => RR.opt d OO.rfl') ib p.1 env h h' d
  | ret e => intro env h h' d; exact RR.bind (eE_h hΦ e env h h' d) fun x h h' d => RR.ok d
  | retN => intro env h h' d; exact RR.ok d
  | brk => intro env h h' d; exact RR.ok d
  | cnt => intro env h h' d; exact RR.ok d
  | rai c => intro env h h' d; exact ⟨h', rfl, d⟩
  | bad => intro env h h' d; trivial
  | nil => intro env h h' d; exact RR.ok d
  | cons a r ia ir =>
    intro env h h' d
    rw [eS_cons, eS_cons]
    refine RR.bind (ia env h h' d) fun f h h' d => ?_
    cases f with
    | nxt env' => exact ir env' h h' d
    | _ => exact RR.ok d
end
theorem trim_h {n : Nat} (d : Hd h h') : Hd (trim n h) (trim n h') := by
  unfold trim
  rw [(d.take n).low n]
  split
  · exact d.take n
  · exact d
theorem back_h {n : Nat} {r r' : R Fl} (a : RR r r') : RR (back n r) (back n r') := by
  cases r with
  | ok f h =>
    obtain ⟨h', rfl, d⟩ := a
    cases f with
    | nxt env => exact RR.ok (trim_h d)
    | ret x =>
      unfold back
      dsimp only
      rw [(d.take n).low n]
      exact RR.ite2 (RR.ok (d.take n)) (RR.ok d)
    | brk env => trivial
    | cnt env => trivial
  | exc c h =>
    obtain ⟨h', rfl, d⟩ := a
    exact ⟨_, rfl, trim_h d⟩
  | bad => trivial
/-- what a call does, whatever lies in the places that it never looks at -/
theorem callF_h {fns : List Fn} {G : List D} {W : Nat} : ∀ (k f : Nat) (ds : List D) (h h' : Heap), Hd h h' → RR (callF fns G W k f ds h) (callF fns G W k f ds h')
  | 0, _, _, _, _, _ => trivial
  | k + 1, f, ds, h, h', d => by
    unfold callF
    cases fns[f]? with
    | none => trivial
    | some fn =>
      refine RR.ite ?_
      rw [d.len]
      exact back_h (eS_h (fun f ds h h' d => callF_h k f ds h h' d) fn.body _ h h' d)
end HD
namespace HD
open MP
/-- used: a result that was reckoned with nothing at the place -/
theorem callF_hid {fns : List Fn} {G : List D} {W k f : Nat} {ds : List D} {o : Ob} {x : D} (e : callF fns G W k f ds [.hid] = .ok x [.hid]) (ho : Ob.low 0 o = true) : callF fns G W k f ds [o] = .ok x [o] := by
  letI : Hx := ⟨o⟩
  have q := callF_h (fns := fns) (G := G) (W := W) k f ds [.hid] [o] (.cons (.inr ⟨rfl, ho, rfl⟩) .nil)
  rw [e] at q
  obtain ⟨h', e', d⟩ := q
  rw [e']
  cases d with
  | cons a r =>
    cases r
    rcases a with ⟨a, _⟩ | ⟨_, _, a⟩
    · exact absurd rfl a
    · rw [a]; rfl
end HD
namespace K85
open MP
def g_MOST_SIDE : D := .int 6
def g_MOST_GRAINS : D := .int 1000
abbrev i_is_number : Nat := 0
def b_is_number : S := (.cons (.ret (.and2 (.blt (.isinst .int) (.cons (.var 0) .nil)) (.one (.nt (.blt (.isinst .bool) (.cons (.var 0) .nil))))))
 .nil)
def d_is_number : Fn := ⟨1, 1, b_is_number⟩
abbrev i_is_below : Nat := 1
def b_is_below : S := (.cons (.ret (.and2 (.call 0 (.cons (.var 1) .nil)) (.one (.chn .le .lt (.con (.int 0)) (.var 1) (.var 0)))))
 .nil)
def d_is_below : Fn := ⟨2, 2, b_is_below⟩
abbrev i_is_side : Nat := 2
def b_is_side : S := (.cons (.ret (.and2 (.call 0 (.cons (.var 0) .nil)) (.one (.chn .le .le (.con (.int 1)) (.var 0) (.glo 0)))))
 .nil)
def d_is_side : Fn := ⟨1, 1, b_is_side⟩
abbrev i_is_tray : Nat := 3
def b_is_tray : S := (.cons (.ite (.or2 (.nt (.blt (.isinst .tuple) (.cons (.var 0) .nil))) (.or2 (.cmp .ne (.blt .len (.cons (.var 0) .nil)) (.con (.int 3))) (.or2 (.nt (.call 2 (.cons (.idx (.var 0) (.con (.int 0))) .nil))) (.one (.nt (.call 2 (.cons (.idx (.var 0) (.con (.int 1))) .nil)))))))
 (.cons (.ret (.con (.bl false)))
 .nil)
 .nil)
 (.cons (.asg (.tup (.cons (.var 1) (.cons (.var 2) (.cons (.var 3) .nil)))) (.var 0))
 (.cons (.ite (.or2 (.nt (.blt (.isinst .tuple) (.cons (.var 3) .nil))) (.or2 (.cmp .ne (.blt .len (.cons (.var 3) .nil)) (.var 2)) (.one (.nt (.blt .all (.cons (.lc true (.var 4) .gen (.cons (.var 3) .nil) (.con (.bl true)) (.blt (.isinst .tuple) (.cons (.var 4) .nil))) .nil))))))
 (.cons (.ret (.con (.bl false)))
 .nil)
 .nil)
 (.cons (.ret (.blt .all (.cons (.lc true (.var 4) .gen (.cons (.var 3) .nil) (.con (.bl true)) (.and2 (.cmp .eq (.blt .len (.cons (.var 4) .nil)) (.var 1)) (.one (.blt .all (.cons (.lc true (.var 5) .gen (.cons (.var 4) .nil) (.con (.bl true)) (.call 1 (.cons (.bin (.add true) (.glo 1) (.con (.int 1))) (.cons (.var 5) .nil)))) .nil))))) .nil)))
 .nil))))
def d_is_tray : Fn := ⟨1, 6, b_is_tray⟩
abbrev i_check_tray : Nat := 4
def b_check_tray : S := (.cons (.ite (.nt (.call 3 (.cons (.var 0) .nil)))
 (.cons .bad
 .nil)
 .nil)
 .nil)
def d_check_tray : Fn := ⟨1, 1, b_check_tray⟩
abbrev i_fall : Nat := 5
def b_fall : S := (.cons (.aug .sub (.idx (.idx (.var 0) (.var 2)) (.var 1)) (.bin (.mul true) (.con (.int 4)) (.var 3)))
 (.cons (.for (.tup (.cons (.var 4) (.cons (.var 5) .nil))) .gen (.cons (.tup (.cons (.tup (.cons (.bin (.add true) (.var 1) (.con (.int 1))) (.cons (.var 2) .nil))) (.cons (.tup (.cons (.bin .sub (.var 1) (.con (.int 1))) (.cons (.var 2) .nil))) (.cons (.tup (.cons (.var 1) (.cons (.bin (.add true) (.var 2) (.con (.int 1))) .nil))) (.cons (.tup (.cons (.var 1) (.cons (.bin .sub (.var 2) (.con (.int 1))) .nil))) .nil))))) .nil)
 (.cons (.ite (.and2 (.chn .le .lt (.con (.int 0)) (.var 5) (.blt .len (.cons (.var 0) .nil))) (.one (.chn .le .lt (.con (.int 0)) (.var 4) (.blt .len (.cons (.idx (.var 0) (.var 5)) .nil)))))
 (.cons (.aug (.add true) (.idx (.idx (.var 0) (.var 5)) (.var 4)) (.var 3))
 .nil)
 .nil)
 .nil))
 .nil))
def d_fall : Fn := ⟨4, 6, b_fall⟩
abbrev i_come_to_rest : Nat := 6
def b_come_to_rest : S := (.cons (.asg (.var 1) (.lc true (.var 4) .gen (.cons (.var 0) .nil) (.con (.bl true)) (.bin (.mul false) (.lst true (.cons (.con (.int 0)) .nil)) (.blt .len (.cons (.var 4) .nil)))))
 (.cons (.asg (.var 2) (.con (.bl true)))
 (.cons (.whl (.var 2)
 (.cons (.asg (.var 2) (.con (.bl false)))
 (.cons (.for (.var 3) .rng (.cons (.blt .len (.cons (.var 0) .nil)) .nil)
 (.cons (.for (.var 5) .rng (.cons (.blt .len (.cons (.idx (.var 0) (.var 3)) .nil)) .nil)
 (.cons (.asg (.var 6) (.bin .fdiv (.idx (.idx (.var 0) (.var 3)) (.var 5)) (.con (.int 4))))
 (.cons (.ite (.cmp .gt (.var 6) (.con (.int 0)))
 (.cons (.exp (.call 5 (.cons (.var 0) (.cons (.var 5) (.cons (.var 3) (.cons (.var 6) .nil))))))
 (.cons (.aug (.add true) (.idx (.idx (.var 1) (.var 3)) (.var 5)) (.var 6))
 (.cons (.asg (.var 2) (.con (.bl true)))
 .nil)))
 .nil)
 .nil)))
 .nil))
 .nil)))
 (.cons (.ret (.var 1))
 .nil))))
def d_come_to_rest : Fn := ⟨1, 7, b_come_to_rest⟩
abbrev i_as_rows : Nat := 7
def b_as_rows : S := (.cons (.ret (.blt .tuple (.cons (.lc true (.var 1) .gen (.cons (.var 0) .nil) (.con (.bl true)) (.blt .tuple (.cons (.var 1) .nil))) .nil)))
 .nil)
def d_as_rows : Fn := ⟨1, 2, b_as_rows⟩
abbrev i_fallen : Nat := 8
def b_fallen : S := (.cons (.exp (.call 4 (.cons (.var 0) .nil)))
 (.cons (.asg (.var 1) (.lc true (.var 3) .gen (.cons (.idx (.var 0) (.con (.int 2))) .nil) (.con (.bl true)) (.blt (.list false) (.cons (.var 3) .nil))))
 (.cons (.asg (.var 2) (.call 6 (.cons (.var 1) .nil)))
 (.cons (.ret (.tup (.cons (.call 7 (.cons (.var 1) .nil)) (.cons (.call 7 (.cons (.var 2) .nil)) .nil))))
 .nil))))
def d_fallen : Fn := ⟨1, 4, b_fallen⟩
abbrev i_back_and_forth : Nat := 9
def b_back_and_forth : S := (.cons (.ite (.or2 (.nt (.call 2 (.cons (.var 0) .nil))) (.one (.nt (.call 2 (.cons (.var 1) .nil)))))
 (.cons .bad
 .nil)
 .nil)
 (.cons (.asg (.var 2) (.lc true (.var 4) .rng (.cons (.var 1) .nil) (.con (.bl true)) (.bin (.mul false) (.lst true (.cons (.con (.int 6)) .nil)) (.var 0))))
 (.cons (.exp (.call 6 (.cons (.var 2) .nil)))
 (.cons (.asg (.var 3) (.lc true (.var 5) .gen (.cons (.var 2) .nil) (.con (.bl true)) (.lc false (.var 6) .gen (.cons (.var 5) .nil) (.con (.bl true)) (.bin .sub (.con (.int 6)) (.var 6)))))
 (.cons (.exp (.call 6 (.cons (.var 3) .nil)))
 (.cons (.ret (.call 7 (.cons (.var 3) .nil)))
 .nil))))))
def d_back_and_forth : Fn := ⟨2, 7, b_back_and_forth⟩
abbrev i__law_box : Nat := 10
def b__law_box : S := (.cons (.ret (.lst false (.cons (.con (.int 0)) (.cons (.con (.int 0)) (.cons (.con (.int 0)) (.cons (.lc true (.var 1) .gen (.cons (.var 0) .nil) (.con (.bl true)) (.blt .abs (.cons (.blt .int (.cons (.var 1) .nil)) .nil))) .nil))))))
 .nil)
def d__law_box : Fn := ⟨1, 2, b__law_box⟩
abbrev i__law_take : Nat := 11
def b__law_take : S := (.cons (.ite (.cmp .eq (.idx (.var 0) (.con (.int 1))) (.con (.int 0)))
 (.cons (.asg (.var 2) (.idx (.var 0) (.con (.int 2))))
 (.cons (.asg (.var 3) (.con (.int 0)))
 (.cons (.ite (.cmp .lt (.var 2) (.blt .len (.cons (.idx (.var 0) (.con (.int 3))) .nil)))
 (.cons (.asg (.var 3) (.idx (.idx (.var 0) (.con (.int 3))) (.var 2)))
 (.cons (.asg (.idx (.var 0) (.con (.int 1))) (.ite (.cmp .ge (.var 3) (.bin .pow (.con (.int 10)) (.con (.int 18)))) (.con (.int 60)) (.neg (.con (.int 9)))))
 .nil))
 .nil)
 (.cons (.asg (.idx (.var 0) (.con (.int 2))) (.bin (.add true) (.var 2) (.con (.int 1))))
 (.cons (.asg (.idx (.var 0) (.con (.int 0))) (.var 3))
 (.cons (.ite (.cmp .eq (.idx (.var 0) (.con (.int 1))) (.con (.int 0)))
 (.cons (.ret (.con (.int 0)))
 .nil)
 .nil)
 .nil))))))
 .nil)
 (.cons (.ite (.cmp .gt (.idx (.var 0) (.con (.int 1))) (.con (.int 0)))
 (.cons (.asg (.var 4) (.bin .mod (.blt .int (.cons (.idx (.var 0) (.con (.int 0))) .nil)) (.var 1)))
 (.cons (.asg (.idx (.var 0) (.con (.int 0))) (.bin .fdiv (.idx (.var 0) (.con (.int 0))) (.var 1)))
 (.cons (.asg (.idx (.var 0) (.con (.int 1))) (.ite (.cmp .gt (.idx (.var 0) (.con (.int 0))) (.con (.int 0))) (.bin .sub (.idx (.var 0) (.con (.int 1))) (.con (.int 1))) (.con (.int 0))))
 (.cons (.ret (.var 4))
 .nil))))
 .nil)
 (.cons (.asg (.idx (.var 0) (.con (.int 1))) (.bin (.add true) (.idx (.var 0) (.con (.int 1))) (.con (.int 1))))
 (.cons (.asg (.idx (.var 0) (.con (.int 0))) (.bin .mod (.blt .int (.cons (.bin (.add true) (.bin (.mul true) (.idx (.var 0) (.con (.int 0))) (.con (.int 48271))) (.bin (.mul true) (.con (.int 69621)) (.bin (.add true) (.idx (.var 0) (.con (.int 1))) (.con (.int 20))))) .nil)) (.con (.int 2147483647))))
 (.cons (.ret (.bin .mod (.bin .mod (.blt .int (.cons (.bin (.add true) (.bin .fdiv (.idx (.var 0) (.con (.int 0))) (.con (.int 7))) (.idx (.var 0) (.con (.int 0)))) .nil)) (.con (.int 1000003))) (.var 1)))
 .nil)))))
def d__law_take : Fn := ⟨2, 5, b__law_take⟩
abbrev i__law_sum : Nat := 12
def b__law_sum : S := (.cons (.ret (.blt .tuple (.cons (.lc true (.tup (.cons (.var 2) (.cons (.var 3) .nil))) .zip (.cons (.var 0) (.cons (.var 1) .nil)) (.con (.bl true)) (.blt .tuple (.cons (.lc true (.tup (.cons (.var 4) (.cons (.var 5) .nil))) .zip (.cons (.var 2) (.cons (.var 3) .nil)) (.con (.bl true)) (.bin (.add true) (.var 4) (.var 5))) .nil))) .nil)))
 .nil)
def d__law_sum : Fn := ⟨2, 6, b__law_sum⟩
abbrev i__law_full : Nat := 13
def b__law_full : S := (.cons (.ret (.blt .tuple (.cons (.lc true (.var 3) .rng (.cons (.var 1) .nil) (.con (.bl true)) (.bin (.mul true) (.tup (.cons (.var 2) .nil)) (.var 0))) .nil)))
 .nil)
def d__law_full : Fn := ⟨3, 4, b__law_full⟩
abbrev i__law_burnt : Nat := 14
def b__law_burnt : S := (.cons (.asg (.var 3) (.lst false .nil))
 (.cons (.for (.var 4) .rng (.cons (.var 1) .nil)
 (.cons (.asg (.var 5) (.lst false .nil))
 (.cons (.for (.var 6) .rng (.cons (.var 0) .nil)
 (.cons (.exp (.mth .append (.var 5) (.cons (.bin (.add true) (.bin (.add true) (.bin (.add true) (.bin (.add true) (.idx (.idx (.var 2) (.var 4)) (.var 6)) (.cmp .eq (.var 6) (.con (.int 0)))) (.cmp .eq (.var 6) (.bin .sub (.var 0) (.con (.int 1))))) (.cmp .eq (.var 4) (.con (.int 0)))) (.cmp .eq (.var 4) (.bin .sub (.var 1) (.con (.int 1))))) .nil)))
 .nil))
 (.cons (.exp (.mth .append (.var 3) (.cons (.blt .tuple (.cons (.var 5) .nil)) .nil)))
 .nil))))
 (.cons (.ret (.blt .tuple (.cons (.var 3) .nil)))
 .nil)))
def d__law_burnt : Fn := ⟨3, 7, b__law_burnt⟩
abbrev i_law : Nat := 15
def b_law : S := (.cons (.asg (.var 1) (.call 10 (.cons (.var 0) .nil)))
 (.cons (.asg (.tup (.cons (.var 11) (.cons (.var 12) .nil))) (.tup (.cons (.bin (.add true) (.con (.int 1)) (.call 11 (.cons (.var 1) (.cons (.con (.int 4)) .nil)))) (.cons (.bin (.add true) (.con (.int 1)) (.call 11 (.cons (.var 1) (.cons (.con (.int 4)) .nil)))) .nil))))
 (.cons (.asg (.var 2) (.call 9 (.cons (.var 11) (.cons (.var 12) .nil))))
 (.cons (.asg (.var 3) (.call 13 (.cons (.var 11) (.cons (.var 12) (.cons (.con (.int 6)) .nil)))))
 (.cons (.asg (.var 4) (.idx (.call 8 (.cons (.tup (.cons (.var 11) (.cons (.var 12) (.cons (.var 3) .nil)))) .nil)) (.con (.int 0))))
 (.cons (.asg (.var 5) (.idx (.call 8 (.cons (.tup (.cons (.var 11) (.cons (.var 12) (.cons (.blt .tuple (.cons (.lc true (.var 14) .gen (.cons (.var 4) .nil) (.con (.bl true)) (.blt .tuple (.cons (.lc true (.var 16) .gen (.cons (.var 14) .nil) (.con (.bl true)) (.bin .sub (.con (.int 6)) (.var 16))) .nil))) .nil)) .nil)))) .nil)) (.con (.int 0))))
 (.cons (.ite (.or2 (.cmp .ne (.var 2) (.var 5)) (.or2 (.cmp .gt (.blt .maxL (.cons (.lc true (.var 14) .gen (.cons (.var 2) .nil) (.con (.bl true)) (.blt .maxL (.cons (.var 14) .nil))) .nil)) (.con (.int 3))) (.one (.cmp .ne (.call 9 (.cons (.con (.int 1)) (.cons (.con (.int 1)) .nil))) (.tup (.cons (.tup (.cons (.con (.int 0)) .nil)) .nil))))))
 (.cons (.ret (.con (.bl false)))
 .nil)
 .nil)
 (.cons (.ite (.cmp .ne (.idx (.call 8 (.cons (.tup (.cons (.var 11) (.cons (.var 12) (.cons (.call 12 (.cons (.var 2) (.cons (.var 2) .nil))) .nil)))) .nil)) (.con (.int 0))) (.var 2))
 (.cons (.ret (.con (.bl false)))
 .nil)
 .nil)
 (.cons (.asg (.var 6) (.blt .tuple (.cons (.lc true (.var 13) .rng (.cons (.var 12) .nil) (.con (.bl true)) (.blt .tuple (.cons (.lc true (.var 15) .rng (.cons (.var 11) .nil) (.con (.bl true)) (.bin (.add true) (.con (.int 3)) (.call 11 (.cons (.var 1) (.cons (.con (.int 4)) .nil))))) .nil))) .nil)))
 (.cons (.asg (.var 7) (.idx (.call 8 (.cons (.tup (.cons (.var 11) (.cons (.var 12) (.cons (.var 6) .nil)))) .nil)) (.con (.int 0))))
 (.cons (.ite (.cmp .ne (.idx (.call 8 (.cons (.tup (.cons (.var 11) (.cons (.var 12) (.cons (.call 12 (.cons (.var 7) (.cons (.var 2) .nil))) .nil)))) .nil)) (.con (.int 0))) (.var 7))
 (.cons (.ret (.con (.bl false)))
 .nil)
 .nil)
 (.cons (.for (.var 8) .gen (.cons (.tup (.cons (.var 2) (.cons (.var 7) (.cons (.call 13 (.cons (.var 11) (.cons (.var 12) (.cons (.con (.int 3)) .nil)))) .nil)))) .nil)
 (.cons (.ite (.cmp .ne (.call 8 (.cons (.tup (.cons (.var 11) (.cons (.var 12) (.cons (.call 14 (.cons (.var 11) (.cons (.var 12) (.cons (.var 8) .nil)))) .nil)))) .nil)) (.tup (.cons (.var 8) (.cons (.call 13 (.cons (.var 11) (.cons (.var 12) (.cons (.con (.int 1)) .nil)))) .nil))))
 (.cons (.ret (.con (.bl false)))
 .nil)
 .nil)
 .nil))
 (.cons (.asg (.var 9) (.blt .tuple (.cons (.lc true (.var 14) .gen (.cons (.var 2) .nil) (.con (.bl true)) (.rev true (.var 14))) .nil)))
 (.cons (.asg (.var 10) (.blt .tuple (.cons (.lc true (.var 15) .rng (.cons (.var 11) .nil) (.con (.bl true)) (.blt .tuple (.cons (.lc true (.var 13) .rng (.cons (.var 12) .nil) (.con (.bl true)) (.idx (.idx (.var 2) (.var 13)) (.var 15))) .nil))) .nil)))
 (.cons (.ret (.and2 (.cmp .eq (.var 9) (.var 2)) (.and2 (.cmp .eq (.rev true (.var 2)) (.var 2)) (.one (.cmp .eq (.call 9 (.cons (.var 12) (.cons (.var 11) .nil))) (.var 10))))))
 .nil)))))))))))))))
def d_law : Fn := ⟨1, 17, b_law⟩
def fns : List Fn := [d_is_number, d_is_below, d_is_side, d_is_tray, d_check_tray, d_fall, d_come_to_rest, d_as_rows, d_fallen, d_back_and_forth, d__law_box, d__law_take, d__law_sum, d__law_full, d__law_burnt, d_law]
def G : List D := [g_MOST_SIDE, g_MOST_GRAINS]
end K85
/-! k85: sand on a tray, plain. Least action. -/
namespace Sand
abbrev Cf := Nat → Nat → Int
/-- what the neighbours of (x, y) have -/
def nb (W H : Nat) (s : Cf) (y x : Nat) : Int :=
  (if x + 1 < W then s y (x + 1) else 0) + (if 0 < x then s y (x - 1) else 0) + (if y + 1 < H then s (y + 1) x else 0) + (if 0 < y then s (y - 1) x else 0)
/-- behind s falls -/
def aft (W H : Nat) (c s : Cf) : Cf := fun y x => c y x - 4 * s y x + nb W H s y x
def On (W H : Nat) (p : Nat → Nat → Prop) : Prop := ∀ y x, y < H → x < W → p y x
def Rest (W H : Nat) (c : Cf) : Prop := On W H fun y x => c y x ≤ 3
/-- s falls bring c to rest -/
def St (W H : Nat) (c s : Cf) : Prop := On W H (fun y x => 0 ≤ s y x) ∧ Rest W H (aft W H c s)
/-- the least such -/
def Least (W H : Nat) (c t : Cf) : Prop := St W H c t ∧ ∀ s, St W H c s → On W H fun y x => t y x ≤ s y x
variable {W H : Nat}
theorem nb_add (s t : Cf) (y x : Nat) : nb W H (fun y x => s y x + t y x) y x = nb W H s y x + nb W H t y x := by
  unfold nb
  dsimp only
  split <;> split <;> split <;> split <;> omega
theorem nb_sub (s t : Cf) (y x : Nat) : nb W H (fun y x => s y x - t y x) y x = nb W H s y x - nb W H t y x := by
  unfold nb
  dsimp only
  split <;> split <;> split <;> split <;> omega
theorem nb_on {s t : Cf} (h : On W H fun y x => s y x = t y x) {y x : Nat} (hy : y < H) (hx : x < W) : nb W H s y x = nb W H t y x := by
  unfold nb
  have e1 : x + 1 < W → s y (x + 1) = t y (x + 1) := fun q => h y (x + 1) hy q
  have e2 : 0 < x → s y (x - 1) = t y (x - 1) := fun q => h y (x - 1) hy (by omega)
  have e3 : y + 1 < H → s (y + 1) x = t (y + 1) x := fun q => h (y + 1) x q hx
  have e4 : 0 < y → s (y - 1) x = t (y - 1) x := fun q => h (y - 1) x (by omega) hx
  split <;> split <;> split <;> split <;> simp_all
theorem nb_le {s t : Cf} (h : On W H fun y x => s y x ≤ t y x) {y x : Nat} (hy : y < H) (hx : x < W) : nb W H s y x ≤ nb W H t y x := by
  unfold nb
  have e1 : x + 1 < W → s y (x + 1) ≤ t y (x + 1) := fun q => h y (x + 1) hy q
  have e2 : 0 < x → s y (x - 1) ≤ t y (x - 1) := fun q => h y (x - 1) hy (by omega)
  have e3 : y + 1 < H → s (y + 1) x ≤ t (y + 1) x := fun q => h (y + 1) x q hx
  have e4 : 0 < y → s (y - 1) x ≤ t (y - 1) x := fun q => h (y - 1) x (by omega) hx
  by_cases q1 : x + 1 < W <;> by_cases q2 : 0 < x <;> by_cases q3 : y + 1 < H <;> by_cases q4 : 0 < y <;> simp only [q1, q2, q3, q4, if_true, if_false] <;> simp_all <;> omega
theorem aft_add (c s t : Cf) (y x : Nat) : aft W H c (fun y x => s y x + t y x) y x = aft W H (aft W H c s) t y x := by
  unfold aft
  rw [nb_add]
  dsimp only
  omega
/-- a smaller tray rests with as many falls -/
theorem St.mono {c d s : Cf} (h : On W H fun y x => d y x ≤ c y x) (k : St W H c s) : St W H d s :=
  ⟨k.1, fun y x hy hx => by have := k.2 y x hy hx; have := h y x hy hx; unfold aft at *; omega⟩
theorem Least.uniq {c s t : Cf} (a : Least W H c s) (b : Least W H c t) : On W H fun y x => s y x = t y x :=
  fun y x hy hx => Int.le_antisymm (a.2 t b.1 y x hy hx) (b.2 s a.1 y x hy hx)
/-- LEAST ACTION: a place that may fall so many times does fall so often in whatever brings rest -/
theorem least_step {c t s : Cf} (hs : St W H c s) (ht : On W H fun y x => t y x ≤ s y x) {y x : Nat} (hy : y < H) (hx : x < W) {many : Int} (h : 4 * many ≤ aft W H c t y x) : t y x + many ≤ s y x := by
  have h1 := hs.2 y x hy hx
  have h2 : nb W H t y x ≤ nb W H s y x := nb_le ht hy hx
  have h3 : aft W H c s y x ≤ 3 := h1
  unfold aft at h h3
  omega
/-- burning: what rests of a tray of at least threes, with its border's grains, falls once everywhere -/
theorem burn {c0 b u t : Cf} (h0 : On W H fun y x => 3 ≤ c0 y x) (hb : On W H fun y x => b y x = 4 - nb W H (fun _ _ => 1) y x) (h3 : Least W H (fun y x => 3 + b y x) fun _ _ => 1)
    (hu : Least W H c0 u) (ht : Least W H (fun y x => aft W H c0 u y x + b y x) t) {s : Cf} (hs : Least W H (fun y x => c0 y x + b y x) s) : On W H fun y x => t y x = 1 := by
  have one : St W H (fun y x => aft W H c0 u y x + b y x) fun _ _ => 1 := ⟨fun _ _ _ _ => Int.zero_le_ofNat 1, fun y x hy hx => by
    have p := hu.1.2 y x hy hx
    have e := hb y x hy hx
    unfold aft at *
    dsimp only at *
    omega⟩
  have t1 := ht.2 _ one
  have s1 : On W H fun y x => 1 ≤ s y x := h3.2 s (hs.1.mono fun y x hy hx => by have := h0 y x hy hx; show 3 + b y x ≤ c0 y x + b y x; omega)
  have su : On W H fun y x => u y x ≤ s y x - 1 := hu.2 (fun y x => s y x - 1) ⟨fun y x hy hx => by have := s1 y x hy hx; show 0 ≤ s y x - 1; omega, fun y x hy hx => by
    have q := hs.1.2 y x hy hx
    have e := hb y x hy hx
    have n := nb_sub (W := W) (H := H) s (fun _ _ => 1) y x
    unfold aft at *
    show c0 y x - 4 * (s y x - 1) + nb W H (fun y x => s y x - 1) y x ≤ 3
    have n' : nb W H (fun y x => s y x - 1) y x = nb W H s y x - nb W H (fun _ _ => 1) y x := n
    rw [n']
    have q' : c0 y x + b y x - 4 * s y x + nb W H s y x ≤ 3 := q
    omega⟩
  have st : On W H fun y x => s y x ≤ u y x + t y x := hs.2 (fun y x => u y x + t y x) ⟨fun y x hy hx => by have := hu.1.1 y x hy hx; have := ht.1.1 y x hy hx; show 0 ≤ u y x + t y x; omega, fun y x hy hx => by
    have q := ht.1.2 y x hy hx
    have n := nb_add (W := W) (H := H) u t y x
    unfold aft at *
    show c0 y x + b y x - 4 * (u y x + t y x) + nb W H (fun y x => u y x + t y x) y x ≤ 3
    rw [n]
    have q' : c0 y x - 4 * u y x + nb W H u y x + b y x - 4 * t y x + nb W H t y x ≤ 3 := q
    omega⟩
  intro y x hy hx
  have a := t1 y x hy hx
  have b' := su y x hy hx
  have d := st y x hy hx
  have a' : t y x ≤ 1 := a
  show t y x = 1
  omega
/-- the tray that comes back: e brings threes to threes, so it brings what rests of at least threes to itself -/
theorem back {c0 e u t w : Cf} (h0 : On W H fun y x => 3 ≤ c0 y x) (hw : Least W H (fun y x => 3 + e y x) w) (he : On W H fun y x => aft W H (fun y x => 3 + e y x) w y x = 3)
    (hu : Least W H c0 u) (ht : Least W H (fun y x => aft W H c0 u y x + e y x) t) {s : Cf} (hs : Least W H (fun y x => c0 y x + e y x) s) : On W H fun y x => aft W H (fun y x => aft W H c0 u y x + e y x) t y x = aft W H c0 u y x := by
  have ew : On W H fun y x => 4 * w y x - nb W H w y x = e y x := fun y x hy hx => by
    have q := he y x hy hx
    unfold aft at q
    dsimp only at *
    omega
  have sw : On W H fun y x => w y x ≤ s y x := hw.2 s (hs.1.mono fun y x hy hx => by have := h0 y x hy hx; show 3 + e y x ≤ c0 y x + e y x; omega)
  have su : On W H fun y x => u y x ≤ s y x - w y x := hu.2 (fun y x => s y x - w y x) ⟨fun y x hy hx => by have := sw y x hy hx; show 0 ≤ s y x - w y x; omega, fun y x hy hx => by
    have q := hs.1.2 y x hy hx
    have z := ew y x hy hx
    have n := nb_sub (W := W) (H := H) s w y x
    unfold aft at *
    show c0 y x - 4 * (s y x - w y x) + nb W H (fun y x => s y x - w y x) y x ≤ 3
    rw [n]
    have q' : c0 y x + e y x - 4 * s y x + nb W H s y x ≤ 3 := q
    have z' : 4 * w y x - nb W H w y x = e y x := z
    omega⟩
  have st : On W H fun y x => s y x ≤ u y x + t y x := hs.2 (fun y x => u y x + t y x) ⟨fun y x hy hx => by have := hu.1.1 y x hy hx; have := ht.1.1 y x hy hx; show 0 ≤ u y x + t y x; omega, fun y x hy hx => by
    have q := ht.1.2 y x hy hx
    have n := nb_add (W := W) (H := H) u t y x
    unfold aft at *
    show c0 y x + e y x - 4 * (u y x + t y x) + nb W H (fun y x => u y x + t y x) y x ≤ 3
    rw [n]
    have q' : c0 y x - 4 * u y x + nb W H u y x + e y x - 4 * t y x + nb W H t y x ≤ 3 := q
    omega⟩
  have tw : On W H fun y x => t y x ≤ w y x := ht.2 w ⟨hw.1.1, fun y x hy hx => by
    have z := ew y x hy hx
    have q := hu.1.2 y x hy hx
    unfold aft at *
    show c0 y x - 4 * u y x + nb W H u y x + e y x - 4 * w y x + nb W H w y x ≤ 3
    have z' : 4 * w y x - nb W H w y x = e y x := z
    omega⟩
  have eq : On W H fun y x => t y x = w y x := fun y x hy hx => by
    have a := su y x hy hx
    have b := st y x hy hx
    have d := tw y x hy hx
    have a' : u y x ≤ s y x - w y x := a
    show t y x = w y x
    omega
  intro y x hy hx
  have n := nb_on eq hy hx
  have z := ew y x hy hx
  have q := eq y x hy hx
  have z' : 4 * w y x - nb W H w y x = e y x := z
  have q' : t y x = w y x := q
  show aft W H c0 u y x + e y x - 4 * t y x + nb W H t y x = aft W H c0 u y x
  rw [n, q']
  omega
end Sand
namespace K85
open MP Sand DR
def row (W : Nat) (f : Nat → Int) : List D := (List.range W).map fun x => .int (f x)
def upd (f : Nat → Int) (x : Nat) (v : Int) : Nat → Int := fun i => if i = x then v else f i
def upr (c : Cf) (y : Nat) (f : Nat → Int) : Cf := fun i => if i = y then f else c i
/-- the outer list of a grid (it is never changed itself) -/
def gO (base H : Nat) : D := .lst ((List.range H).map fun y => .ref (base + y))
/-- a grid of intsOf in the heap: its rows from base on -/
structure GH (h : Heap) (base W H : Nat) (c : Cf) : Prop where
  rows : ∀ y, y < H → h[base + y]? = some (.lst (row W (c y)))
theorem atI_map {n y : Nat} (f : Nat → D) (hy : y < n) : atI ((List.range n).map f) (y : Int) = some (f y) := by
  unfold atI ixN
  rw [List.length_map, List.length_range, if_pos (by omega), if_pos (by omega)]
  show ((List.range n).map f)[(y : Int).toNat]? = _
  rw [List.getElem?_map, List.getElem?_range (by omega)]
  simp
theorem ixN_of {n y : Nat} (hy : y < n) : ixN n (y : Int) = some y := by
  unfold ixN
  rw [if_pos (by omega), if_pos (by omega)]
  simp
theorem row_len {W : Nat} {f : Nat → Int} : (row W f).length = W := by unfold row; rw [List.length_map, List.length_range]
theorem row_set {W x : Nat} {f : Nat → Int} {v : Int} (hx : x < W) : (row W f).set x (.int v) = row W (upd f x v) := by
  apply List.ext_getElem?
  intro i
  unfold row
  by_cases hi : x = i
  · subst hi
    rw [List.getElem?_set_self (by rw [List.length_map, List.length_range]; exact hx), List.getElem?_map, List.getElem?_range hx]
    simp [upd]
  · rw [List.getElem?_set_ne hi, List.getElem?_map, List.getElem?_map]
    by_cases hw : i < W
    · rw [List.getElem?_range hw]
      simp [upd, Ne.symm hi]
    · rw [List.getElem?_eq_none (by rw [List.length_range]; omega)]
      rfl
section
variable {h : Heap} {base W H : Nat} {c : Cf}
theorem GH.ixr (G : GH h base W H c) {y : Nat} (hy : y < H) : opI (gO base H) (.int (y : Int)) h = some (.ref (base + y)) := by
  unfold opI gO
  exact atI_map (fun y => D.ref (base + y)) hy
theorem GH.ixc (G : GH h base W H c) {y x : Nat} (hy : y < H) (hx : x < W) : opI (.ref (base + y)) (.int (x : Int)) h = some (.int (c y x)) := by
  unfold opI
  simp only [G.rows y hy]
  exact atI_map (fun x => D.int (c y x)) hx
theorem GH.lenO (G : GH h base W H c) : opF .len [gO base H] h = .ok (.int (H : Int)) h := by
  unfold gO
  rw [len1]
  simp
theorem GH.lenR (G : GH h base W H c) {y : Nat} (hy : y < H) : opF .len [.ref (base + y)] h = .ok (.int (W : Int)) h := by
  show ((R.opt h (items h (.ref (base + y)))).bind fun ys h => R.ok (D.int ys.length) h) = _
  have : items h (.ref (base + y)) = some (row W (c y)) := by unfold items; simp only [G.rows y hy]
  rw [this]
  simp [R.opt, R.bind, row_len]
theorem GH.isR (G : GH h base W H c) {y : Nat} (hy : y < H) : isL h (.ref (base + y)) = some () := by
  unfold isL
  simp only [G.rows y hy]
theorem GH.put (G : GH h base W H c) {y x : Nat} (hy : y < H) (hx : x < W) (v : Int) : setL (.ref (base + y)) (.int (x : Int)) (.int v) h = .ok () (h.set (base + y) (.lst (row W (upd (c y) x v)))) := by
  unfold setL
  simp only [G.rows y hy, row_len, ixN_of hx]
  unfold setO
  rw [row_set hx]
theorem GH.set (G : GH h base W H c) {y : Nat} (hy : y < H) (f : Nat → Int) : GH (h.set (base + y) (.lst (row W f))) base W H (upr c y f) := by
  refine ⟨fun i hi => ?_⟩
  by_cases e : i = y
  · subst e
    have hl : base + i < h.length := (List.getElem?_eq_some_iff.mp (G.rows i hi)).1
    rw [List.getElem?_set_self hl]
    simp [upr]
  · rw [List.getElem?_set_ne (by omega), G.rows i hi]
    simp [upr, e]
end
/-- outside the rows nothing has changed -/
def Keep (h h' : Heap) (base H : Nat) : Prop := h'.length = h.length ∧ ∀ n, n < base ∨ base + H ≤ n → h'[n]? = h[n]?
theorem Keep.refl {h : Heap} {base H : Nat} : Keep h h base H := ⟨rfl, fun _ _ => rfl⟩
theorem Keep.trans {h h1 h2 : Heap} {base H : Nat} (a : Keep h h1 base H) (b : Keep h1 h2 base H) : Keep h h2 base H := ⟨b.1.trans a.1, fun n hn => (b.2 n hn).trans (a.2 n hn)⟩
theorem Keep.set {h : Heap} {base H y : Nat} (hy : y < H) {o : Ob} : Keep h (h.set (base + y) o) base H := ⟨List.length_set, fun n hn => by rw [List.getElem?_set_ne (by omega)]⟩
/-! ### fall -/
def addC (W H : Nat) (c : Cf) (u v many : Int) : Cf := if 0 ≤ v ∧ v < H ∧ 0 ≤ u ∧ u < W then upr c v.toNat (upd (c v.toNat) u.toNat (c v.toNat u.toNat + many)) else c
def subC (c : Cf) (y x : Nat) (m : Int) : Cf := upr c y (upd (c y) x (c y x - m))
/-- the loop's body in fall -/
def fBody : S := (.cons (.ite (.and2 (.chn .le .lt (.con (.int 0)) (.var 5) (.blt .len (.cons (.var 0) .nil))) (.one (.chn .le .lt (.con (.int 0)) (.var 4) (.blt .len (.cons (.idx (.var 0) (.var 5)) .nil)))))
 (.cons (.aug (.add true) (.idx (.idx (.var 0) (.var 5)) (.var 4)) (.var 3))
 .nil)
 .nil)
 .nil)
section
variable {Φ : Nat → List D → Heap → R D} {GG : List D} {Wf : Nat} {h : Heap} {base W H : Nat} {c : Cf}
theorem v5 (a b d e f : D) (i : Int) (r : Env) (h : Heap) : eE Φ GG (.var 5) (a :: b :: d :: e :: f :: .int i :: r) h = .ok (.int i) h := rfl
theorem v3 (a b d : D) (i : Int) (r : Env) (h : Heap) : eE Φ GG (.var 3) (a :: b :: d :: .int i :: r) h = .ok (.int i) h := rfl
theorem vO (b n : Nat) (r : Env) (h : Heap) : eE Φ GG (.var 0) (gO b n :: r) h = .ok (gO b n) h := rfl
theorem le1 (x y : Int) (h : Heap) : opC .le (.int x) (.int y) h = some (decide (x ≤ y)) := rfl
theorem fBody_ok (G : GH h base W H c) {x y many u v : Int} : ∃ h', eS Φ GG Wf fBody [gO base H, .int x, .int y, .int many, .int u, .int v] h = .ok (.nxt [gO base H, .int x, .int y, .int many, .int u, .int v]) h' ∧ GH h' base W H (addC W H c u v many) ∧ Keep h h' base H := by
  unfold fBody
  by_cases h1 : 0 ≤ v
  · by_cases h2 : v < (H : Int)
    · obtain ⟨n, rfl⟩ : ∃ n : Nat, v = n := ⟨v.toNat, by omega⟩
      have hn : n < H := by omega
      by_cases h3 : 0 ≤ u
      · by_cases h4 : u < (W : Int)
        · obtain ⟨k, rfl⟩ : ∃ k : Nat, u = k := ⟨u.toNat, by omega⟩
          have hk : k < W := by omega
          refine ⟨h.set (base + n) (.lst (row W (upd (c n) k (c n k + many)))), ?_, ?_, Keep.set hn⟩
          · simp only [eS_cons, eS_nil, eS_ite, eE_and2, eE_one, eE_chn, eE_con, v5, var4, v3, bl1, vO, eE_idx, bind_ok, le1, lt1, opt1, tru1, h1, h2, h3, h4, decide_true, if_true, G.lenO, G.ixr hn, G.lenR hn, eS_augI, G.isR hn, G.ixc hn hk, Option.bind_some, augI, G.put hn hk]
          · unfold addC
            rw [if_pos ⟨h1, h2, h3, h4⟩]
            simp only [Int.toNat_natCast]
            exact G.set hn _
        · refine ⟨h, ?_, by unfold addC; rw [if_neg (by omega)]; exact G, .refl⟩
          simp only [eS_cons, eS_nil, eS_ite, eE_and2, eE_one, eE_chn, eE_con, v5, var4, v3, bl1, vO, eE_idx, bind_ok, le1, lt1, opt1, tru1, h1, h2, h3, h4, decide_true, decide_false, if_true, Bool.false_eq_true, if_false, G.lenO, G.ixr hn, G.lenR hn]
      · refine ⟨h, ?_, by unfold addC; rw [if_neg (by omega)]; exact G, .refl⟩
        simp only [eS_cons, eS_nil, eS_ite, eE_and2, eE_one, eE_chn, eE_con, v5, var4, v3, bl1, vO, eE_idx, bind_ok, le1, lt1, opt1, tru1, h1, h2, h3, decide_true, decide_false, if_true, Bool.false_eq_true, if_false, G.lenO, G.ixr hn, G.lenR hn]
    · refine ⟨h, ?_, by unfold addC; rw [if_neg (by omega)]; exact G, .refl⟩
      simp only [eS_cons, eS_nil, eS_ite, eE_and2, eE_one, eE_chn, eE_con, v5, var4, v3, bl1, vO, eE_idx, bind_ok, le1, lt1, opt1, tru1, h1, h2, decide_true, decide_false, if_true, Bool.false_eq_true, if_false, G.lenO]
  · refine ⟨h, ?_, by unfold addC; rw [if_neg (by omega)]; exact G, .refl⟩
    simp only [eS_cons, eS_nil, eS_ite, eE_and2, eE_one, eE_chn, eE_con, v5, var4, v3, bl1, vO, eE_idx, bind_ok, le1, lt1, opt1, tru1, h1, decide_true, decide_false, if_true, Bool.false_eq_true, if_false, G.lenO]
end
end K85
namespace K85
open MP Sand DR
def fallC (W H : Nat) (c : Cf) (x y : Nat) (many : Int) : Cf :=
  addC W H (addC W H (addC W H (addC W H (subC c y x (4 * many)) (x + 1) y many) (x - 1) y many) x (y + 1) many) x (y - 1) many
section
variable {Φ : Nat → List D → Heap → R D} {GG : List D} {Wf : Nat} {h : Heap} {base W H : Nat} {c : Cf}
theorem mul4 (x : Int) (h : Heap) : opB (.mul true) (.int 4) (.int x) h = .ok (.int (4 * x)) h := by
  have : mulOk 4 x = true := by unfold mulOk; rw [show smallI 4 = true from by decide]; simp
  unfold opB
  simp only [this, if_true]
theorem bt2 (g x y m u v : D) (a b : D) : bindT (.tup (.cons (.var 4) (.cons (.var 5) .nil))) (.tup [a, b]) [g, x, y, m, u, v] = some [g, x, y, m, a, b] := rfl
theorem forL1 {t : D → Env → Heap → R Env} {b : Env → Heap → R Fl} {x : D} {xs : List D} {env env1 env2 : Env} {h h1 : Heap} (e1 : t x env h = .ok env1 h) (e2 : b env1 h = .ok (.nxt env2) h1) : forL t b [] (x :: xs) env h = forL t b [] xs env2 h1 := by
  rw [forL]
  rw [if_pos (show gdOk h [] = true from rfl), e1, bind_ok, e2, bind_ok]
theorem forL0 {t : D → Env → Heap → R Env} {b : Env → Heap → R Fl} {env : Env} {h : Heap} : forL t b [] [] env h = .ok (.nxt env) h := by
  rw [forL, if_pos (show gdOk h [] = true from rfl)]
theorem fall_for (G : GH h base W H c) {x y many : Int} {d4 d5 : D} : ∃ h' e, forL (fun x env h => R.opt h (bindT (.tup (.cons (.var 4) (.cons (.var 5) .nil))) x env)) (fun env h => eS Φ GG Wf fBody env h) []
    [.tup [.int (x + 1), .int y], .tup [.int (x - 1), .int y], .tup [.int x, .int (y + 1)], .tup [.int x, .int (y - 1)]] [gO base H, .int x, .int y, .int many, d4, d5] h = .ok (.nxt e) h' ∧
    GH h' base W H (addC W H (addC W H (addC W H (addC W H c (x + 1) y many) (x - 1) y many) x (y + 1) many) x (y - 1) many) ∧ Keep h h' base H := by
  obtain ⟨h1, e1, G1, K1⟩ := fBody_ok (Φ := Φ) (GG := GG) (Wf := Wf) (x := x) (y := y) (many := many) (u := x + 1) (v := y) G
  obtain ⟨h2, e2, G2, K2⟩ := fBody_ok (Φ := Φ) (GG := GG) (Wf := Wf) (x := x) (y := y) (many := many) (u := x - 1) (v := y) G1
  obtain ⟨h3, e3, G3, K3⟩ := fBody_ok (Φ := Φ) (GG := GG) (Wf := Wf) (x := x) (y := y) (many := many) (u := x) (v := y + 1) G2
  obtain ⟨h4, e4, G4, K4⟩ := fBody_ok (Φ := Φ) (GG := GG) (Wf := Wf) (x := x) (y := y) (many := many) (u := x) (v := y - 1) G3
  refine ⟨h4, [gO base H, .int x, .int y, .int many, .int x, .int (y - 1)], ?_, G4, K1.trans (K2.trans (K3.trans K4))⟩
  rw [forL1 (by rw [bt2]; rfl) e1, forL1 (by rw [bt2]; rfl) e2, forL1 (by rw [bt2]; rfl) e3, forL1 (by rw [bt2]; rfl) e4, forL0]
theorem fall_call {k : Nat} (G : GH h base W H c) {x y : Nat} (hx : x < W) (hy : y < H) (many : Int) : ∃ h', callF fns K85.G Wf (k + 1) i_fall [gO base H, .int x, .int y, .int many] h = .ok .non h' ∧ GH h' base W H (fallC W H c x y many) ∧ Keep h h' base H := by
  have G0 := G.set hy (upd (c y) x (c y x - 4 * many))
  obtain ⟨h', e, hf, G1, K1⟩ := fall_for (Φ := callF fns K85.G Wf k) (GG := K85.G) (Wf := Wf) (x := x) (y := y) (many := many) (d4 := .und) (d5 := .und) G0
  refine ⟨h', ?_, G1, (Keep.set hy).trans K1⟩
  rw [call_eq (show fns[i_fall]? = some d_fall from rfl) rfl]
  show back h.length (eS (callF fns K85.G Wf k) K85.G Wf b_fall [gO base H, .int x, .int y, .int many, .und, .und] h) = _
  have s1 : eS (callF fns K85.G Wf k) K85.G Wf (.aug .sub (.idx (.idx (.var 0) (.var 2)) (.var 1)) (.bin (.mul true) (.con (.int 4)) (.var 3))) [gO base H, .int x, .int y, .int many, .und, .und] h = .ok (.nxt [gO base H, .int x, .int y, .int many, .und, .und]) (h.set (base + y) (.lst (row W (upd (c y) x (c y x - 4 * many))))) := by
    simp only [eS_augI, eE_idx, eE_bin, eE_con, vO, var1, var2, v3, bind_ok, opt1, G.ixr hy, G.isR hy, G.ixc hy hx, Option.bind_some, mul4, augI, G.put hy hx]
  have s2 : eS (callF fns K85.G Wf k) K85.G Wf b_fall [gO base H, .int x, .int y, .int many, .und, .und] h = .ok (.nxt e) h' := by
    unfold b_fall
    rw [eS_cons, s1, bind_ok]
    dsimp only
    rw [eS_cons, eS_for, eE_cons]
    simp only [eE_tup, eE_cons, eE_nil, eE_bin, eE_con, var1, var2, bind_ok, add1, sub1, args]
    show (forL _ (fun env h => eS _ _ _ fBody env h) [] [.tup [.int ((x : Int) + 1), .int y], .tup [.int ((x : Int) - 1), .int y], .tup [.int x, .int ((y : Int) + 1)], .tup [.int x, .int ((y : Int) - 1)]] _ _).bind _ = _
    rw [hf]
    rfl
  rw [s2]
  exact back_non ((Keep.set hy).trans K1).1
end
end K85
namespace K85
open MP Sand DR
def addAt (t : Cf) (y x : Nat) (m : Int) : Cf := fun j i => if j = y ∧ i = x then t j i + m else t j i
variable {W H : Nat}
theorem addC_at {c : Cf} {u v m : Int} {j i : Nat} (hj : j < H) (hi : i < W) : addC W H c u v m j i = c j i + (if (j : Int) = v ∧ (i : Int) = u then m else 0) := by
  unfold addC
  by_cases q : (j : Int) = v ∧ (i : Int) = u
  · obtain ⟨rfl, rfl⟩ := q
    rw [if_pos (by omega), if_pos ⟨rfl, rfl⟩]
    simp [upr, upd]
  · rw [if_neg q]
    split
    · rename_i r
      unfold upr upd
      by_cases e : j = v.toNat
      · rw [if_pos e, if_neg (by omega), e]; omega
      · rw [if_neg e]; omega
    · omega
theorem subC_at {c : Cf} {y x : Nat} {m : Int} {j i : Nat} : subC c y x m j i = c j i - (if j = y ∧ i = x then m else 0) := by
  unfold subC upr upd
  by_cases e : j = y
  · subst e
    by_cases e2 : i = x
    · subst e2; simp
    · simp [e2]
  · simp [e]
theorem nb_at {t : Cf} {y x : Nat} {m : Int} (hy : y < H) (hx : x < W) {j i : Nat} (hj : j < H) (hi : i < W) : nb W H (addAt t y x m) j i =
    nb W H t j i + (if j = y ∧ i + 1 = x then m else 0) + (if j = y ∧ x + 1 = i then m else 0) + (if j + 1 = y ∧ i = x then m else 0) + (if y + 1 = j ∧ i = x then m else 0) := by
  unfold nb addAt
  have e1 : (if i + 1 < W then (if j = y ∧ i + 1 = x then t j (i + 1) + m else t j (i + 1)) else 0) = (if i + 1 < W then t j (i + 1) else 0) + (if j = y ∧ i + 1 = x then m else 0) := by
    by_cases q : j = y ∧ i + 1 = x
    · rw [if_pos q, if_pos q, if_pos (by omega), if_pos (by omega)]
    · rw [if_neg q, if_neg q]; omega
  have e2 : (if 0 < i then (if j = y ∧ i - 1 = x then t j (i - 1) + m else t j (i - 1)) else 0) = (if 0 < i then t j (i - 1) else 0) + (if j = y ∧ x + 1 = i then m else 0) := by
    by_cases p : 0 < i
    · rw [if_pos p, if_pos p]
      by_cases q : j = y ∧ x + 1 = i
      · rw [if_pos q, if_pos (by omega)]
      · rw [if_neg q, if_neg (by omega)]; omega
    · rw [if_neg p, if_neg p, if_neg (by omega)]; rfl
  have e3 : (if j + 1 < H then (if j + 1 = y ∧ i = x then t (j + 1) i + m else t (j + 1) i) else 0) = (if j + 1 < H then t (j + 1) i else 0) + (if j + 1 = y ∧ i = x then m else 0) := by
    by_cases q : j + 1 = y ∧ i = x
    · rw [if_pos q, if_pos q, if_pos (by omega), if_pos (by omega)]
    · rw [if_neg q, if_neg q]; omega
  have e4 : (if 0 < j then (if j - 1 = y ∧ i = x then t (j - 1) i + m else t (j - 1) i) else 0) = (if 0 < j then t (j - 1) i else 0) + (if y + 1 = j ∧ i = x then m else 0) := by
    by_cases p : 0 < j
    · rw [if_pos p, if_pos p]
      by_cases q : y + 1 = j ∧ i = x
      · rw [if_pos q, if_pos (by omega)]
      · rw [if_neg q, if_neg (by omega)]; omega
    · rw [if_neg p, if_neg p, if_neg (by omega)]; rfl
  rw [e1, e2, e3, e4]
  omega
/-- a fall is a fall of the plain tray -/
theorem fallC_aft {c c0 t : Cf} (e : On W H fun y x => c y x = aft W H c0 t y x) {y x : Nat} (hy : y < H) (hx : x < W) (m : Int) : On W H fun j i => fallC W H c x y m j i = aft W H c0 (addAt t y x m) j i := by
  intro j i hj hi
  unfold fallC
  rw [addC_at hj hi, addC_at hj hi, addC_at hj hi, addC_at hj hi, subC_at]
  have h0 := e j i hj hi
  unfold aft at h0 ⊢
  rw [nb_at hy hx hj hi]
  have q1 : ((j : Int) = (y : Int) ∧ (i : Int) = (x : Int) + 1) ↔ (j = y ∧ x + 1 = i) := by omega
  have q2 : ((j : Int) = (y : Int) ∧ (i : Int) = (x : Int) - 1) ↔ (j = y ∧ i + 1 = x) := by omega
  have q3 : ((j : Int) = (y : Int) + 1 ∧ (i : Int) = (x : Int)) ↔ (y + 1 = j ∧ i = x) := by omega
  have q4 : ((j : Int) = (y : Int) - 1 ∧ (i : Int) = (x : Int)) ↔ (j + 1 = y ∧ i = x) := by omega
  simp only [q1, q2, q3, q4]
  have q5 : addAt t y x m j i = t j i + (if j = y ∧ i = x then m else 0) := by
    unfold addAt
    split <;> omega
  have q6 : (if j = y ∧ i = x then 4 * m else 0) = 4 * (if j = y ∧ i = x then m else 0) := by split <;> omega
  rw [q5, q6, h0]
  omega
end K85
namespace K85
open MP Sand DR
/-! ### sums -/
def sm : Nat → (Nat → Int) → Int
  | 0, _ => 0
  | n + 1, f => sm n f + f n
theorem sm_le {f g : Nat → Int} : ∀ {n : Nat}, (∀ x, x < n → f x ≤ g x) → sm n f ≤ sm n g
  | 0, _ => Int.le_refl _
  | n + 1, h => by
    have a := sm_le (n := n) fun x hx => h x (by omega)
    have b := h n (by omega)
    unfold sm; omega
theorem sm_lt {f g : Nat → Int} {k : Nat} : ∀ {n : Nat}, (∀ x, x < n → f x ≤ g x) → k < n → f k < g k → sm n f < sm n g
  | 0, _, hk, _ => absurd hk (Nat.not_lt_zero _)
  | n + 1, h, hk, hs => by
    unfold sm
    by_cases e : k = n
    · subst e
      have a := sm_le (n := k) fun x hx => h x (by omega)
      omega
    · have a := sm_lt (n := n) (fun x hx => h x (by omega)) (by omega) hs
      have b := h n (by omega)
      omega
def S2 (W H : Nat) (t : Cf) : Int := sm H fun y => sm W (t y)
theorem S2_le {W H : Nat} {s t : Cf} (h : On W H fun y x => s y x ≤ t y x) : S2 W H s ≤ S2 W H t := sm_le fun y hy => sm_le fun x hx => h y x hy hx
theorem S2_lt {W H : Nat} {s t : Cf} (h : On W H fun y x => s y x ≤ t y x) {y x : Nat} (hy : y < H) (hx : x < W) (q : s y x < t y x) : S2 W H s < S2 W H t :=
  sm_lt (k := y) (fun y hy => sm_le fun x hx => h y x hy hx) hy (sm_lt (k := x) (fun x hx => h y x hy hx) hx q)
/-! ### the two grids -/
structure Two (h : Heap) (base tb W H : Nat) (c t : Cf) : Prop where
  gr : GH h base W H c
  ti : GH h tb W H t
  ap : base + H ≤ tb
/-- what the falls so far come to -/
structure Inv (W H : Nat) (c0 c t : Cf) : Prop where
  aft_ : On W H fun y x => c y x = aft W H c0 t y x
  pos : On W H fun y x => 0 ≤ t y x
  low : ∀ s, St W H c0 s → On W H fun y x => t y x ≤ s y x
theorem addAt_le {t : Cf} {y x : Nat} {m : Int} (hm : 0 ≤ m) (j i : Nat) : t j i ≤ addAt t y x m j i := by
  unfold addAt; split <;> omega
theorem addAt_self {t : Cf} {y x : Nat} {m : Int} : addAt t y x m y x = t y x + m := by unfold addAt; simp
theorem Inv.fall {W H : Nat} {c0 c t : Cf} (I : Inv W H c0 c t) {y x : Nat} (hy : y < H) (hx : x < W) (hp : 0 < c y x / 4) : Inv W H c0 (fallC W H c x y (c y x / 4)) (addAt t y x (c y x / 4)) := by
  refine ⟨fallC_aft I.aft_ hy hx _, fun j i hj hi => ?_, fun s hs j i hj hi => ?_⟩
  · have := I.pos j i hj hi
    have := addAt_le (t := t) (y := y) (x := x) (m := c y x / 4) (by omega) j i
    omega
  · have h1 := least_step hs (I.low s hs) hy hx (many := c y x / 4) (by have := I.aft_ y x hy hx; have := this.symm; omega)
    have h2 : t j i ≤ s j i := I.low s hs j i hj hi
    show addAt t y x (c y x / 4) j i ≤ s j i
    unfold addAt
    split
    · rename_i q; obtain ⟨rfl, rfl⟩ := q; exact h1
    · exact h2
def Far (h h' : Heap) (base tb H : Nat) : Prop := h'.length = h.length ∧ ∀ n, (n < base ∨ base + H ≤ n) → (n < tb ∨ tb + H ≤ n) → h'[n]? = h[n]?
theorem Far.refl {h : Heap} {base tb H : Nat} : Far h h base tb H := ⟨rfl, fun _ _ _ => rfl⟩
theorem Far.trans {h h1 h2 : Heap} {base tb H : Nat} (a : Far h h1 base tb H) (b : Far h1 h2 base tb H) : Far h h2 base tb H := ⟨b.1.trans a.1, fun n p q => (b.2 n p q).trans (a.2 n p q)⟩
theorem GH.keep {h h' : Heap} {base W H b2 H2 : Nat} {c : Cf} (G : GH h base W H c) (K : Keep h h' b2 H2) (h2 : ∀ y, y < H → base + y < b2 ∨ b2 + H2 ≤ base + y) : GH h' base W H c :=
  ⟨fun y hy => by rw [K.2 _ (h2 y hy)]; exact G.rows y hy⟩
/-- how a part of a sweep goes on -/
structure Step (W H : Nat) (c0 : Cf) (mv : Bool) (c t : Cf) (mv' : Bool) (c' t' : Cf) : Prop where
  inv : Inv W H c0 c' t'
  le : On W H fun y x => t y x ≤ t' y x
  yes : mv' = true → mv = true ∨ S2 W H t < S2 W H t'
  no : mv' = false → mv = false ∧ c' = c ∧ t' = t
theorem Step.trans {W H : Nat} {c0 c t c1 t1 c2 t2 : Cf} {m m1 m2 : Bool} (a : Step W H c0 m c t m1 c1 t1) (b : Step W H c0 m1 c1 t1 m2 c2 t2) : Step W H c0 m c t m2 c2 t2 := by
  refine ⟨b.inv, fun y x hy hx => Int.le_trans (a.le y x hy hx) (b.le y x hy hx), fun h => ?_, fun h => ?_⟩
  · rcases b.yes h with q | q
    · rcases a.yes q with r | r
      · exact .inl r
      · exact .inr (Int.lt_of_lt_of_le r (S2_le b.le))
    · exact .inr (Int.lt_of_le_of_lt (S2_le a.le) q)
  · obtain ⟨h1, h2, h3⟩ := b.no h
    obtain ⟨h4, h5, h6⟩ := a.no h1
    exact ⟨h4, h2.trans h5, h3.trans h6⟩
theorem Step.refl {W H : Nat} {c0 c t : Cf} {m : Bool} (I : Inv W H c0 c t) : Step W H c0 m c t m c t := ⟨I, fun _ _ _ _ => Int.le_refl _, .inl, fun h => ⟨h, rfl, rfl⟩⟩
/-- the body of the inner loop -/
def cBody : S := (.cons (.asg (.var 6) (.bin .fdiv (.idx (.idx (.var 0) (.var 3)) (.var 5)) (.con (.int 4))))
 (.cons (.ite (.cmp .gt (.var 6) (.con (.int 0)))
 (.cons (.exp (.call 5 (.cons (.var 0) (.cons (.var 5) (.cons (.var 3) (.cons (.var 6) .nil))))))
 (.cons (.aug (.add true) (.idx (.idx (.var 1) (.var 3)) (.var 5)) (.var 6))
 (.cons (.asg (.var 2) (.con (.bl true)))
 .nil)))
 .nil)
 .nil))
section
variable {Wf k : Nat} {h : Heap} {base tb W H : Nat} {c0 c t : Cf}
theorem w1 (a : D) (b n : Nat) (r : Env) (h : Heap) : eE (callF fns K85.G Wf (k + 1)) K85.G (.var 1) (a :: gO b n :: r) h = .ok (gO b n) h := rfl
theorem w6 (a b d e f j : D) (i : Int) (r : Env) (h : Heap) : eE (callF fns K85.G Wf (k + 1)) K85.G (.var 6) (a :: b :: d :: e :: f :: j :: .int i :: r) h = .ok (.int i) h := rfl
theorem s6 (a b d e f j l x : D) (h : Heap) : setT (callF fns K85.G Wf (k + 1)) K85.G (.var 6) x [a, b, d, e, f, j, l] h = .ok [a, b, d, e, f, j, x] h := rfl
theorem s2 (a b d e f j l x : D) (h : Heap) : setT (callF fns K85.G Wf (k + 1)) K85.G (.var 2) x [a, b, d, e, f, j, l] h = .ok [a, b, x, e, f, j, l] h := rfl
theorem cBody_ok (T : Two h base tb W H c t) (I : Inv W H c0 c t) {y x : Nat} (hy : y < H) (hx : x < W) {mv : Bool} {d4 d6 : D} :
    ∃ h' mv' c' t' d6', eS (callF fns K85.G Wf (k + 1)) K85.G Wf cBody [gO base H, gO tb H, .bl mv, .int y, d4, .int x, d6] h = .ok (.nxt [gO base H, gO tb H, .bl mv', .int y, d4, .int x, d6']) h' ∧
      Two h' base tb W H c' t' ∧ Step W H c0 mv c t mv' c' t' ∧ (mv' = false → c y x ≤ 3) ∧ Far h h' base tb H := by
  unfold cBody
  have ap := T.ap
  by_cases hp : 0 < c y x / 4
  · obtain ⟨h1, e1, G1, K1⟩ := fall_call (Wf := Wf) (k := k) T.gr hx hy (c y x / 4)
    have T1 : GH h1 tb W H t := T.ti.keep K1 (fun i hi => by omega)
    have K2 : Keep h1 (h1.set (tb + y) (.lst (row W (upd (t y) x (t y x + c y x / 4))))) tb H := Keep.set hy
    have G2 := T1.set hy (upd (t y) x (t y x + c y x / 4))
    have e2 : upr t y (upd (t y) x (t y x + c y x / 4)) = addAt t y x (c y x / 4) := by
      funext j i
      unfold upr upd addAt
      by_cases q : j = y
      · subst q
        by_cases q2 : i = x
        · subst q2; simp
        · simp [q2]
      · simp [q]
    rw [e2] at G2
    have inv := I.fall hy hx hp
    have le : On W H fun j i => t j i ≤ addAt t y x (c y x / 4) j i := fun j i _ _ => addAt_le (by omega) j i
    refine ⟨h1.set (tb + y) (.lst (row W (upd (t y) x (t y x + c y x / 4)))), true, fallC W H c x y (c y x / 4), addAt t y x (c y x / 4), .int (c y x / 4), ?_, ⟨G1.keep K2 (fun i hi => by omega), G2, ap⟩, ⟨inv, le, fun _ => .inr (S2_lt le hy hx (by rw [addAt_self]; omega)), fun z => by cases z⟩, fun z => (by cases z), ?_⟩
    · have f1 : (callF fns K85.G Wf (k + 1)) 5 [gO base H, .int x, .int y, .int (c y x / 4)] h = .ok .non h1 := e1
      simp only [eS_cons, eS_nil, eS_asg, eS_ite, eS_exp, eS_augI, eE_bin, eE_idx, eE_con, eE_cmp, eE_call, eE_cons, eE_nil, vO, v3, v5, w1, w6, s6, s2, bind_ok, opt1, tru1, gt1, args, T.gr.ixr hy, T.gr.ixc hy hx, div1 _ 4 _ (show (0 : Int) < 4 by decide) (by decide), hp, decide_true, if_true, f1, T1.ixr hy, T1.ixc hy hx, T1.isR hy, Option.bind_some, augI, T1.put hy hx]
    · refine ⟨by rw [List.length_set]; exact K1.1, fun n p q => ?_⟩
      rw [K2.2 n q, K1.2 n p]
  · refine ⟨h, mv, c, t, .int (c y x / 4), ?_, T, .refl I, fun _ => by omega, .refl⟩
    simp only [eS_cons, eS_nil, eS_asg, eS_ite, eE_bin, eE_idx, eE_con, eE_cmp, vO, v3, v5, w1, w6, s6, s2, bind_ok, opt1, tru1, gt1, T.gr.ixr hy, T.gr.ixc hy hx, div1 _ 4 _ (show (0 : Int) < 4 by decide) (by decide), hp, decide_false, Bool.false_eq_true, if_false]
end
end K85
namespace K85
open MP Sand DR
def xBody : S := (.cons (.for (.var 5) .rng (.cons (.blt .len (.cons (.idx (.var 0) (.var 3)) .nil)) .nil) cBody)
 .nil)
def yBody : S := (.cons (.asg (.var 2) (.con (.bl false)))
 (.cons (.for (.var 3) .rng (.cons (.blt .len (.cons (.var 0) .nil)) .nil) xBody)
 .nil))
theorem range_ints (n : Nat) : (rangeI 0 (n : Int)).map D.int = (List.range n).map fun (x : Nat) => D.int (x : Int) := by
  unfold rangeI
  rw [List.map_map]
  have : ((n : Int) - 0).toNat = n := by omega
  rw [this]
  apply List.map_congr_left
  intro a _
  simp
theorem rng_it {n : Nat} (hn : n ≤ 6) (h : Heap) : iterOf .rng [.int (n : Int)] h = some ((List.range n).map fun (x : Nat) => D.int (x : Int), []) := by
  have hb : big62 (n : Int) = true := by
    unfold big62
    rw [Bool.and_eq_true]
    exact ⟨decide_eq_true (by omega), decide_eq_true (by omega)⟩
  unfold iterOf
  simp only [hb, if_true, range_ints]
section
variable {Wf k : Nat} {base tb W H : Nat} {c0 : Cf}
theorem inner_ok {y : Nat} (hy : y < H) {d4 : D} : ∀ (L : List Nat), (∀ x ∈ L, x < W) → ∀ {h : Heap} {c t : Cf} {mv : Bool} {d5 d6 : D}, Two h base tb W H c t → Inv W H c0 c t →
    ∃ h' mv' c' t' d5' d6', forL (fun x env h => R.opt h (bindT (.var 5) x env)) (fun env h => eS (callF fns K85.G Wf (k + 1)) K85.G Wf cBody env h) [] (L.map fun (x : Nat) => D.int (x : Int)) [gO base H, gO tb H, .bl mv, .int y, d4, d5, d6] h = .ok (.nxt [gO base H, gO tb H, .bl mv', .int y, d4, d5', d6']) h' ∧
      Two h' base tb W H c' t' ∧ Step W H c0 mv c t mv' c' t' ∧ (mv' = false → ∀ x ∈ L, c y x ≤ 3) ∧ Far h h' base tb H
  | [], _, h, c, t, mv, d5, d6, T, I => ⟨h, mv, c, t, d5, d6, forL0, T, .refl I, fun _ x hx => by simp at hx, .refl⟩
  | x :: L, hL, h, c, t, mv, d5, d6, T, I => by
    obtain ⟨h1, mv1, c1, t1, d61, e1, T1, s1, n1, f1⟩ := cBody_ok (Wf := Wf) (k := k) (mv := mv) (d4 := d4) (d6 := d6) T I hy (hL x (by simp))
    obtain ⟨h2, mv2, c2, t2, d52, d62, e2, T2, s2, n2, f2⟩ := inner_ok hy L (fun x hx => hL x (by simp [hx])) (mv := mv1) (d5 := .int x) (d6 := d61) T1 s1.inv
    refine ⟨h2, mv2, c2, t2, d52, d62, ?_, T2, s1.trans s2, fun z x' hx' => ?_, f1.trans f2⟩
    · rw [List.map_cons, forL1 (by rfl) e1]
      exact e2
    · obtain ⟨q1, q2, _⟩ := s2.no z
      rcases List.mem_cons.mp hx' with r | r
      · rw [r]; exact n1 q1
      · obtain ⟨_, q3, _⟩ := s1.no q1
        rw [← q3]; exact n2 z x' r
theorem xEv {h : Heap} {c t : Cf} (T : Two h base tb W H c t) {y : Nat} (hy : y < H) {d2 d4 d5 d6 : D} : eE (callF fns K85.G Wf (k + 1)) K85.G (.cons (.blt .len (.cons (.idx (.var 0) (.var 3)) .nil)) .nil) [gO base H, gO tb H, d2, .int y, d4, d5, d6] h = .ok (.tup [.int (W : Int)]) h := by
  rw [eE_cons, bl1, eE_idx, vO, bind_ok, v3, bind_ok, T.gr.ixr hy, opt1, bind_ok, T.gr.lenR hy, bind_ok, eE_nil, bind_ok]
  rfl
theorem forEv {tg ia : E} {b : S} {env : Env} {h : Heap} {n : Nat} (hn : n ≤ 6) (e : eE (callF fns K85.G Wf (k + 1)) K85.G ia env h = .ok (.tup [.int (n : Int)]) h) : eS (callF fns K85.G Wf (k + 1)) K85.G Wf (.for tg .rng ia b) env h = forL (fun x env h => R.opt h (bindT tg x env)) (fun env h => eS (callF fns K85.G Wf (k + 1)) K85.G Wf b env h) [] ((List.range n).map fun (x : Nat) => D.int (x : Int)) env h := by
  rw [eS_for, e, bind_ok]
  have : iterOf .rng (args (.tup [.int (n : Int)])) h = _ := rng_it hn h
  rw [this]
theorem yEv {h : Heap} {c t : Cf} (T : Two h base tb W H c t) {env : Env} : eE (callF fns K85.G Wf (k + 1)) K85.G (.cons (.blt .len (.cons (.var 0) .nil)) .nil) (gO base H :: env) h = .ok (.tup [.int (H : Int)]) h := by
  rw [eE_cons, bl1, vO, bind_ok, T.gr.lenO, bind_ok, eE_nil, bind_ok]
  rfl
theorem xBody_ok (hW : W ≤ 6) {h : Heap} {c t : Cf} (T : Two h base tb W H c t) (I : Inv W H c0 c t) {y : Nat} (hy : y < H) {mv : Bool} {d4 d5 d6 : D} :
    ∃ h' mv' c' t' d5' d6', eS (callF fns K85.G Wf (k + 1)) K85.G Wf xBody [gO base H, gO tb H, .bl mv, .int y, d4, d5, d6] h = .ok (.nxt [gO base H, gO tb H, .bl mv', .int y, d4, d5', d6']) h' ∧
      Two h' base tb W H c' t' ∧ Step W H c0 mv c t mv' c' t' ∧ (mv' = false → ∀ x, x < W → c y x ≤ 3) ∧ Far h h' base tb H := by
  obtain ⟨h', mv', c', t', d5', d6', e, T', s, n, f⟩ := inner_ok (Wf := Wf) (k := k) (c0 := c0) hy (List.range W) (fun x hx => List.mem_range.mp hx) (d4 := d4) (d5 := d5) (d6 := d6) (mv := mv) T I
  refine ⟨h', mv', c', t', d5', d6', ?_, T', s, fun z x hx => n z x (List.mem_range.mpr hx), f⟩
  unfold xBody
  rw [eS_cons, forEv hW (xEv T hy), e, bind_ok]
  exact eS_nil _ _ _ _ _
theorem outer_ok (hW : W ≤ 6) {d4 : D} : ∀ (L : List Nat), (∀ y ∈ L, y < H) → ∀ {h : Heap} {c t : Cf} {mv : Bool} {d3 d5 d6 : D}, Two h base tb W H c t → Inv W H c0 c t →
    ∃ h' mv' c' t' d3' d5' d6', forL (fun x env h => R.opt h (bindT (.var 3) x env)) (fun env h => eS (callF fns K85.G Wf (k + 1)) K85.G Wf xBody env h) [] (L.map fun (x : Nat) => D.int (x : Int)) [gO base H, gO tb H, .bl mv, d3, d4, d5, d6] h = .ok (.nxt [gO base H, gO tb H, .bl mv', d3', d4, d5', d6']) h' ∧
      Two h' base tb W H c' t' ∧ Step W H c0 mv c t mv' c' t' ∧ (mv' = false → ∀ y ∈ L, ∀ x, x < W → c y x ≤ 3) ∧ Far h h' base tb H
  | [], _, h, c, t, mv, d3, d5, d6, T, I => ⟨h, mv, c, t, d3, d5, d6, forL0, T, .refl I, fun _ x hx => by simp at hx, .refl⟩
  | y :: L, hL, h, c, t, mv, d3, d5, d6, T, I => by
    obtain ⟨h1, mv1, c1, t1, d51, d61, e1, T1, s1, n1, f1⟩ := xBody_ok (Wf := Wf) (k := k) (mv := mv) (d4 := d4) (d5 := d5) (d6 := d6) hW T I (hL y (by simp))
    obtain ⟨h2, mv2, c2, t2, d32, d52, d62, e2, T2, s2, n2, f2⟩ := outer_ok hW L (fun x hx => hL x (by simp [hx])) (mv := mv1) (d3 := .int y) (d5 := d51) (d6 := d61) T1 s1.inv
    refine ⟨h2, mv2, c2, t2, d32, d52, d62, ?_, T2, s1.trans s2, fun z y' hy' => ?_, f1.trans f2⟩
    · rw [List.map_cons, forL1 (by rfl) e1]
      exact e2
    · obtain ⟨q1, q2, _⟩ := s2.no z
      rcases List.mem_cons.mp hy' with r | r
      · rw [r]; exact n1 q1
      · obtain ⟨_, q3, _⟩ := s1.no q1
        rw [← q3]; exact n2 z y' r
theorem yBody_ok (hW : W ≤ 6) (hH : H ≤ 6) {h : Heap} {c t : Cf} (T : Two h base tb W H c t) (I : Inv W H c0 c t) {d2 d3 d4 d5 d6 : D} :
    ∃ h' mv' c' t' d3' d5' d6', eS (callF fns K85.G Wf (k + 1)) K85.G Wf yBody [gO base H, gO tb H, d2, d3, d4, d5, d6] h = .ok (.nxt [gO base H, gO tb H, .bl mv', d3', d4, d5', d6']) h' ∧
      Two h' base tb W H c' t' ∧ Step W H c0 false c t mv' c' t' ∧ (mv' = false → Rest W H c) ∧ Far h h' base tb H := by
  obtain ⟨h', mv', c', t', d3', d5', d6', e, T', s, n, f⟩ := outer_ok (Wf := Wf) (k := k) (c0 := c0) hW (List.range H) (fun x hx => List.mem_range.mp hx) (d3 := d3) (d4 := d4) (d5 := d5) (d6 := d6) (mv := false) T I
  refine ⟨h', mv', c', t', d3', d5', d6', ?_, T', s, fun z y x hy hx => n z y (List.mem_range.mpr hy) x hx, f⟩
  unfold yBody
  rw [eS_cons, eS_asg, eE_con, bind_ok, s2, bind_ok, bind_ok]
  show eS (callF fns K85.G Wf (k + 1)) K85.G Wf (.cons (.for (.var 3) .rng (.cons (.blt .len (.cons (.var 0) .nil)) .nil) xBody) .nil) _ _ = _
  rw [eS_cons, forEv hH (yEv T), e, bind_ok]
  exact eS_nil _ _ _ _ _
/-- while moved: until all rests -/
theorem while_ok (hW : W ≤ 6) (hH : H ≤ 6) {s0 : Cf} (hs0 : St W H c0 s0) {d4 : D} : ∀ (n : Nat) {h : Heap} {c t : Cf} {d3 d5 d6 : D}, Two h base tb W H c t → Inv W H c0 c t → S2 W H s0 - S2 W H t + 2 ≤ (n : Int) →
    ∃ h' c' t' e', loop (fun env h => (eE (callF fns K85.G Wf (k + 1)) K85.G (.var 2) env h).bind fun x h1 => tru x h1) (fun env h => eS (callF fns K85.G Wf (k + 1)) K85.G Wf yBody env h) n [gO base H, gO tb H, .bl true, d3, d4, d5, d6] h = .ok (.nxt (gO base H :: gO tb H :: e')) h' ∧
      Two h' base tb W H c' t' ∧ Inv W H c0 c' t' ∧ Rest W H c' ∧ Far h h' base tb H
  | 0, h, c, t, d3, d5, d6, T, I, hn => by
    have := S2_le (I.low s0 hs0)
    omega
  | n + 1, h, c, t, d3, d5, d6, T, I, hn => by
    obtain ⟨h1, mv, c1, t1, d31, d51, d61, e1, T1, s1, n1, f1⟩ := yBody_ok (Wf := Wf) (k := k) hW hH T I (d2 := .bl true) (d3 := d3) (d4 := d4) (d5 := d5) (d6 := d6)
    have hb := S2_le (I.low s0 hs0)
    have hb1 := S2_le (s1.inv.low s0 hs0)
    rw [loop]
    show ∃ h' c' t' e', ((tru (.bl true) h).bind _) = _ ∧ _
    rw [tru1, bind_ok, if_pos rfl, e1, bind_ok]
    cases mv with
    | true =>
      rcases s1.yes rfl with q | q
      · cases q
      · obtain ⟨h2, c2, t2, e', e2, T2, I2, R2, f2⟩ := while_ok hW hH hs0 n (d3 := d31) (d5 := d51) (d6 := d61) T1 s1.inv (by omega)
        exact ⟨h2, c2, t2, e', e2, T2, I2, R2, f1.trans f2⟩
    | false =>
      obtain ⟨_, q2, q3⟩ := s1.no rfl
      cases n with
      | zero => omega
      | succ n =>
        refine ⟨h1, c1, t1, [.bl false, d31, d4, d51, d61], ?_, T1, s1.inv, by rw [q2]; exact n1 rfl, f1⟩
        show loop _ _ (n + 1) _ _ = _
        rw [loop]
        rfl
end
end K85
namespace K85
open MP Sand DR
variable {Wf k : Nat} {base tb W H : Nat} {c0 : Cf}
theorem GH.app {h : Heap} {base W H : Nat} {c : Cf} (G : GH h base W H c) (t : Heap) : GH (h ++ t) base W H c :=
  ⟨fun y hy => by rw [List.getElem?_append_left (List.getElem?_eq_some_iff.mp (G.rows y hy)).1]; exact G.rows y hy⟩
def zrow (W : Nat) : Ob := .lst (row W fun _ => 0)
theorem rep0 (W : Nat) : rep W [D.int 0] = row W fun _ => 0 := by
  unfold rep row
  induction W with
  | zero => rfl
  | succ n ih => rw [List.replicate_succ', List.flatten_append, ih, List.range_succ, List.map_append]; rfl
def tEl : E := (.bin (.mul false) (.lst true (.cons (.con (.int 0)) .nil)) (.blt .len (.cons (.var 4) .nil)))
theorem tEl_ok {Φ : Nat → List D → Heap → R D} {GG : List D} (hW : W ≤ 6) {h : Heap} {c : Cf} (G : GH h base W H c) {y : Nat} (hy : y < H) {a b d e f g : D} :
    turnL Φ GG (.var 4) (.con (.bl true)) tEl [a, b, d, e, f, g, f] (.ref (base + y)) h = .ok (some (.ref h.length)) (h ++ [zrow W]) := by
  have e1 : eE Φ GG tEl [a, b, d, e, .ref (base + y), g, f] h = .ok (.ref h.length) (h ++ [zrow W]) := by
    unfold tEl
    rw [eE_bin, eE_lst, eE_cons, eE_con, bind_ok, eE_nil, bind_ok, bind_ok]
    show R.bind (R.ok (D.lst [.int 0]) h) _ = _
    rw [bind_ok, bl1]
    show R.bind (R.bind (R.ok (D.ref (base + y)) h) _) _ = _
    rw [bind_ok, G.lenR hy, bind_ok]
    have : opB (.mul false) (.lst [.int 0]) (.int (W : Int)) h = .ok (.ref h.length) (h ++ [zrow W]) := by
      show (if (decide ((W : Int) ≤ 4096) && decide (-4096 ≤ (W : Int)) && decide (([D.int 0] : List D).length ≤ 4096)) = true then newL false (rep (W : Int).toNat [D.int 0]) h else .bad) = _
      rw [if_pos (by simp only [Bool.and_eq_true, decide_eq_true_eq]; exact ⟨⟨by omega, by omega⟩, by simp⟩)]
      rw [Int.toNat_natCast, rep0]
      unfold newL
      rw [if_pos (by rw [row_len]; exact Nat.le_trans hW (by decide))]
      rfl
    exact this
  unfold turnL
  show (((eE Φ GG (.con (.bl true)) [a, b, d, e, .ref (base + y), g, f] h).bind tru).calm.bind fun q h => if q = true then (eE Φ GG tEl [a, b, d, e, .ref (base + y), g, f] h).calm.bind fun y h => .ok (some y) h else .ok none h) = _
  rw [eE_con, bind_ok, tru1]
  show (if true = true then (eE Φ GG tEl [a, b, d, e, .ref (base + y), g, f] h).calm.bind fun y h => R.ok (some y) h else .ok none h) = _
  rw [if_pos rfl, e1]
  rfl
theorem times_ok {Φ : Nat → List D → Heap → R D} {GG : List D} (hW : W ≤ 6) {a b d e f g : D} : ∀ (L : List Nat), (∀ y ∈ L, y < H) → ∀ {h : Heap} {c : Cf}, GH h base W H c →
    compL (turnL Φ GG (.var 4) (.con (.bl true)) tEl [a, b, d, e, f, g, f]) [] (L.map fun y => D.ref (base + y)) h = .ok ((List.range L.length).map fun i => D.ref (h.length + i)) (h ++ List.replicate L.length (zrow W))
  | [], _, h, c, G => by
    show (if gdOk h [] = true then R.ok [] h else .bad) = _
    rw [if_pos (show gdOk h [] = true from rfl)]
    simp
  | y :: L, hL, h, c, G => by
    have ih := times_ok (Φ := Φ) (GG := GG) hW (a := a) (b := b) (d := d) (e := e) (f := f) (g := g) L (fun y hy => hL y (by simp [hy])) (G.app [zrow W])
    rw [List.map_cons]
    show (if gdOk h [] = true then _ else _) = _
    rw [if_pos (show gdOk h [] = true from rfl), tEl_ok hW G (hL y (by simp)), bind_ok, ih, bind_ok]
    have e1 : (List.range (y :: L).length).map (fun i => D.ref (h.length + i)) = D.ref h.length :: (List.range L.length).map fun i => D.ref ((h ++ [zrow W]).length + i) := by
      rw [List.length_cons, List.range_succ_eq_map, List.map_cons, List.map_map]
      congr 1
      apply List.map_congr_left
      intro i _
      simp only [Function.comp, List.length_append, List.length_cons, List.length_nil]
      congr 1
      omega
    rw [e1]
    congr 1
    rw [List.length_cons, List.replicate_succ, List.append_assoc]
    rfl
end K85
namespace K85
open MP Sand DR
variable {Wf k : Nat} {base tb W H : Nat} {c0 : Cf}
/-- zeros stand behind the heap -/
theorem zeros_gh {h : Heap} : GH (h ++ List.replicate H (zrow W)) h.length W H fun _ _ => 0 :=
  ⟨fun y hy => by
    rw [List.getElem?_append_right (by omega), List.getElem?_replicate]
    rw [if_pos (by omega)]
    rfl⟩
theorem nb0 (y x : Nat) : nb W H (fun _ _ => 0) y x = 0 := by unfold nb; split <;> split <;> split <;> split <;> rfl
theorem inv0 : Inv W H c0 c0 fun _ _ => 0 :=
  ⟨fun y x hy hx => by show c0 y x = c0 y x - 4 * 0 + nb W H (fun _ _ => 0) y x; rw [nb0]; omega, fun _ _ _ _ => Int.le_refl _, fun s hs y x hy hx => hs.1 y x hy hx⟩
theorem gO_items (h : Heap) (b n : Nat) : iterOf .gen [gO b n] h = some ((List.range n).map fun y => D.ref (b + y), []) := rfl
/-- come_to_rest -/
theorem rest_call (hW : W ≤ 6) (hH : H ≤ 6) {s0 : Cf} (hs0 : St W H c0 s0) (hf : S2 W H s0 + 2 ≤ (Wf : Int)) {h : Heap} (G : GH h base W H c0) (hb : base + H ≤ h.length) :
    ∃ h' c' t', callF fns K85.G Wf (k + 2) i_come_to_rest [gO base H] h = .ok (gO h.length H) h' ∧ Two h' base h.length W H c' t' ∧ Least W H c0 t' ∧ On W H (fun y x => c' y x = aft W H c0 t' y x) ∧ Far (h ++ List.replicate H (zrow W)) h' base h.length H := by
  have T0 : Two (h ++ List.replicate H (zrow W)) base h.length W H c0 fun _ _ => 0 := ⟨G.app _, zeros_gh, hb⟩
  have z0 : S2 W H (fun _ _ => 0) = 0 := by
    have a : ∀ n, sm n (fun _ => 0) = 0 := fun n => by induction n with | zero => rfl | succ n ih => unfold sm; rw [ih]; rfl
    show sm H (fun _ => sm W fun _ => 0) = 0
    rw [a W]
    exact a H
  obtain ⟨h', c', t', e', ew, T', I', R', F'⟩ := while_ok (Wf := Wf) (k := k) hW hH hs0 (d3 := .und) (d4 := .und) (d5 := .und) (d6 := .und) Wf T0 inv0 (by omega)
  refine ⟨h', c', t', ?_, T', ⟨⟨I'.pos, fun y x hy hx => by have := I'.aft_ y x hy hx; have r := R' y x hy hx; show aft W H c0 t' y x ≤ 3; rw [← this]; exact r⟩, I'.low⟩, I'.aft_, F'⟩
  rw [call_eq (show fns[i_come_to_rest]? = some d_come_to_rest from rfl) rfl]
  show back h.length (eS (callF fns K85.G Wf (k + 1)) K85.G Wf b_come_to_rest [gO base H, .und, .und, .und, .und, .und, .und] h) = _
  have e1 : eE (callF fns K85.G Wf (k + 1)) K85.G (.lc true (.var 4) .gen (.cons (.var 0) .nil) (.con (.bl true)) tEl) [gO base H, .und, .und, .und, .und, .und, .und] h = .ok (gO h.length H) (h ++ List.replicate H (zrow W)) := by
    rw [eE_lc, eE_cons]
    show R.bind (R.bind (R.ok (gO base H) h) _) _ = _
    rw [bind_ok, eE_nil, bind_ok, bind_ok]
    show R.bind (compL (turnL (callF fns K85.G Wf (k + 1)) K85.G (.var 4) (.con (.bl true)) tEl [gO base H, .und, .und, .und, .und, .und, .und]) [] ((List.range H).map fun y => D.ref (base + y)) h) _ = _
    rw [times_ok hW (List.range H) (fun y hy => List.mem_range.mp hy) G, bind_ok]
    unfold newL
    rw [if_pos (by rw [List.length_map, List.length_range, List.length_range]; exact Nat.le_trans hH (by decide)), List.length_range]
    rfl
  have e2 : eS (callF fns K85.G Wf (k + 1)) K85.G Wf b_come_to_rest [gO base H, .und, .und, .und, .und, .und, .und] h = .ok (.ret (gO h.length H)) h' := by
    unfold b_come_to_rest
    rw [eS_cons, eS_asg]
    have e1' := e1
    unfold tEl at e1'
    rw [e1', bind_ok]
    show eS _ _ _ (.cons (.asg (.var 2) (.con (.bl true))) _) [gO base H, gO h.length H, .und, .und, .und, .und, .und] _ = _
    rw [eS_cons, eS_asg, eE_con, bind_ok, s2, bind_ok, bind_ok]
    show eS _ _ _ (.cons (.whl (.var 2) yBody) _) [gO base H, gO h.length H, .bl true, .und, .und, .und, .und] _ = _
    rw [eS_cons, eS_whl, ew, bind_ok]
    rfl
  rw [e2]
  have hl : h'.length = h.length + H := by rw [F'.1]; simp
  show (if (gO h.length H).low h.length && (h'.take h.length).all (Ob.low h.length) then R.ok (gO h.length H) (h'.take h.length) else .ok (gO h.length H) h') = _
  by_cases hH0 : H = 0
  · subst hH0
    split
    · rw [show h'.take h.length = h' from by rw [← show h'.length = h.length from by omega, List.take_length]]
    · rfl
  · have : (gO h.length H).low h.length = false := by
      obtain ⟨n, rfl⟩ : ∃ n, H = n + 1 := ⟨H - 1, by omega⟩
      unfold gO
      rw [List.range_succ_eq_map, List.map_cons]
      simp [D.low, D.lows]
    rw [this]
    rfl
end K85
namespace K85
open MP Sand DR
variable {Wf k : Nat} {base tb W H : Nat} {c : Cf}
theorem back_any {n : Nat} {d : D} {h : Heap} (hn : h.length = n) : MP.back n (.ok (.ret d) h) = .ok d h := by
  show (if _ then _ else _) = _
  split
  · rw [← hn, List.take_length]
  · rfl
theorem compL_pure {f : D → Heap → R (Option D)} {g : D → D} {h : Heap} : ∀ {xs : List D}, (∀ x ∈ xs, f x h = .ok (some (g x)) h) → compL f [] xs h = .ok (xs.map g) h
  | [], _ => by
    show (if gdOk h [] = true then R.ok [] h else .bad) = _
    rw [if_pos (show gdOk h [] = true from rfl)]
    rfl
  | x :: xs, e => by
    show (if gdOk h [] = true then _ else _) = _
    rw [if_pos (show gdOk h [] = true from rfl), e x (by simp), bind_ok, compL_pure fun y hy => e y (by simp [hy]), bind_ok]
    rfl
/-- a grid as a value -/
def gD (W H : Nat) (c : Cf) : D := .tup ((List.range H).map fun y => .tup (row W (c y)))
theorem tuple_ref {h : Heap} (G : GH h base W H c) {y : Nat} (hy : y < H) : opF .tuple [.ref (base + y)] h = .ok (.tup (row W (c y))) h := by
  show ((R.opt h (items h (.ref (base + y)))).bind fun ys h => R.ok (D.tup ys) h) = _
  have : items h (.ref (base + y)) = some (row W (c y)) := by unfold items; simp only [G.rows y hy]
  rw [this]
  rfl
theorem as_rows_call {h : Heap} (G : GH h base W H c) (hH : H ≤ 6) : callF fns K85.G Wf (k + 1) i_as_rows [gO base H] h = .ok (gD W H c) h := by
  rw [call_eq (show fns[i_as_rows]? = some d_as_rows from rfl) rfl]
  show MP.back h.length (eS (callF fns K85.G Wf k) K85.G Wf b_as_rows [gO base H, .und] h) = _
  have e1 : eE (callF fns K85.G Wf k) K85.G (.lc true (.var 1) .gen (.cons (.var 0) .nil) (.con (.bl true)) (.blt .tuple (.cons (.var 1) .nil))) [gO base H, .und] h = .ok (.lst ((List.range H).map fun y => .tup (row W (c y)))) h := by
    rw [eE_lc, eE_cons]
    show R.bind (R.bind (R.ok (gO base H) h) _) _ = _
    rw [bind_ok, eE_nil, bind_ok, bind_ok]
    show R.bind (compL (turnL (callF fns K85.G Wf k) K85.G (.var 1) (.con (.bl true)) (.blt .tuple (.cons (.var 1) .nil)) [gO base H, .und]) [] ((List.range H).map fun y => D.ref (base + y)) h) _ = _
    have e0 : ∀ x ∈ (List.range H).map (fun y => D.ref (base + y)), turnL (callF fns K85.G Wf k) K85.G (.var 1) (.con (.bl true)) (.blt .tuple (.cons (.var 1) .nil)) [gO base H, .und] x h = .ok (some (match x with | .ref n => .tup (row W (c (n - base))) | d => d)) h := by
      intro x hx
      rw [List.mem_map] at hx
      obtain ⟨y, hy, rfl⟩ := hx
      have hy := List.mem_range.mp hy
      show (((eE (callF fns K85.G Wf k) K85.G (.con (.bl true)) [gO base H, .ref (base + y)] h).bind tru).calm.bind fun q h => if q = true then (eE (callF fns K85.G Wf k) K85.G (.blt .tuple (.cons (.var 1) .nil)) [gO base H, .ref (base + y)] h).calm.bind fun y h => .ok (some y) h else .ok none h) = _
      rw [eE_con, bind_ok, tru1]
      show (if true = true then (eE (callF fns K85.G Wf k) K85.G (.blt .tuple (.cons (.var 1) .nil)) [gO base H, .ref (base + y)] h).calm.bind fun y h => R.ok (some y) h else .ok none h) = _
      rw [if_pos rfl, bl1]
      show ((R.bind (R.ok (D.ref (base + y)) h) _).calm.bind _) = _
      rw [bind_ok, tuple_ref G hy]
      show R.ok (some (D.tup (row W (c y)))) h = R.ok (some (D.tup (row W (c (base + y - base))))) h
      rw [Nat.add_sub_cancel_left]
    rw [compL_pure e0, bind_ok, List.map_map]
    unfold newL
    rw [if_pos (by rw [List.length_map, List.length_range]; exact Nat.le_trans hH (by decide))]
    rw [if_pos rfl]
    congr 2
    apply List.map_congr_left
    intro y _
    show D.tup (row W (c (base + y - base))) = _
    rw [Nat.add_sub_cancel_left]
  have e2 : eS (callF fns K85.G Wf k) K85.G Wf b_as_rows [gO base H, .und] h = .ok (.ret (gD W H c)) h := by
    unfold b_as_rows
    rw [eS_cons, eS_ret, bl1, e1, bind_ok]
    rfl
  rw [e2]
  exact back_any rfl
end K85
namespace K85
open MP Sand DR
variable {Wf k : Nat} {W H : Nat} {c : Cf} {h : Heap}
theorem num_call (i : Int) : callF fns K85.G Wf (k + 1) 0 [.int i] h = .ok (.bl true) h := by
  rw [call_eq (show fns[0]? = some d_is_number from rfl) rfl]
  show MP.back h.length (eS (callF fns K85.G Wf k) K85.G Wf b_is_number [.int i] h) = _
  have e : eS (callF fns K85.G Wf k) K85.G Wf b_is_number [.int i] h = .ok (.ret (.bl true)) h := rfl
  rw [e]
  exact back_any rfl
theorem ca1 {Φ : Nat → List D → Heap → R D} {GG : List D} (e : E) (f : Nat) (env : Env) (h : Heap) : eE Φ GG (.call f (.cons e .nil)) env h = (eE Φ GG e env h).bind fun d h1 => Φ f [d] h1 := by
  rw [eE_call, eE_cons]
  cases eE Φ GG e env h <;> rfl
theorem i0 {Φ : Nat → List D → Heap → R D} {GG : List D} (i : Int) (r : Env) (h : Heap) : eE Φ GG (.var 0) (.int i :: r) h = .ok (.int i) h := rfl
theorem below_call {n x : Int} (h0 : 0 ≤ x) (h1 : x < n) : callF fns K85.G Wf (k + 2) 1 [.int n, .int x] h = .ok (.bl true) h := by
  rw [call_eq (show fns[1]? = some d_is_below from rfl) rfl]
  show MP.back h.length (eS (callF fns K85.G Wf (k + 1)) K85.G Wf b_is_below [.int n, .int x] h) = _
  have e : eS (callF fns K85.G Wf (k + 1)) K85.G Wf b_is_below [.int n, .int x] h = .ok (.ret (.bl true)) h := by
    unfold b_is_below
    simp only [eS_cons, eS_ret, eE_and2, eE_one, ca1, var1, i0, bind_ok, num_call, tru1, if_true, eE_chn, eE_con, le1, lt1, opt1, h0, h1, decide_true]
  rw [e]
  exact back_any rfl
theorem g0 {Φ : Nat → List D → Heap → R D} (env : Env) (h : Heap) : eE Φ K85.G (.glo 0) env h = .ok (.int 6) h := rfl
theorem side_call {x : Int} (h0 : 1 ≤ x) (h1 : x ≤ 6) : callF fns K85.G Wf (k + 2) 2 [.int x] h = .ok (.bl true) h := by
  rw [call_eq (show fns[2]? = some d_is_side from rfl) rfl]
  show MP.back h.length (eS (callF fns K85.G Wf (k + 1)) K85.G Wf b_is_side [.int x] h) = _
  have e : eS (callF fns K85.G Wf (k + 1)) K85.G Wf b_is_side [.int x] h = .ok (.ret (.bl true)) h := by
    unfold b_is_side
    simp only [eS_cons, eS_ret, eE_and2, eE_one, ca1, i0, bind_ok, num_call, tru1, if_true, eE_chn, eE_con, g0, le1, lt1, opt1, h0, h1, decide_true]
  rw [e]
  exact back_any rfl
end K85
namespace K85
open MP Sand DR
variable {Wf k : Nat} {W H : Nat} {c : Cf} {h : Heap}
theorem bools_t : ∀ xs : List D, bools (xs.map fun _ => D.bl true) = some (xs.map fun _ => true)
  | [] => rfl
  | _ :: xs => by rw [List.map_cons, bools, bools_t xs]; rfl
theorem all_t (xs : List D) (h : Heap) : opF .all [.lst (xs.map fun _ => D.bl true)] h = .ok (.bl true) h := by
  show ((R.opt h ((rlist h (.lst (xs.map fun _ => D.bl true))).bind bools)).bind fun bs h => R.ok (D.bl (bs.all id)) h) = _
  show ((R.opt h (bools (xs.map fun _ => D.bl true))).bind fun bs h => R.ok (D.bl (bs.all id)) h) = _
  rw [bools_t, opt1, bind_ok]
  have : ((xs.map fun _ => true).all id) = true := by rw [List.all_eq_true]; intro b hb; rw [List.mem_map] at hb; obtain ⟨_, _, rfl⟩ := hb; rfl
  rw [this]
/-- all([.. for one in a tuple]), where all are true -/
theorem all_comp {Φ : Nat → List D → Heap → R D} {GG : List D} {i : Nat} {ia el : E} {env : Env} {xs : List D} (he : eE Φ GG ia env h = .ok (.tup [.tup xs]) h) (hi : i < (clr env [i]).length) (hz : xs.length ≤ SZ)
    (hx : ∀ x ∈ xs, eE Φ GG el ((clr env [i]).set i x) h = .ok (.bl true) h) : eE Φ GG (.blt .all (.cons (.lc true (.var i) .gen ia (.con (.bl true)) el) .nil)) env h = .ok (.bl true) h := by
  have e1 : eE Φ GG (.lc true (.var i) .gen ia (.con (.bl true)) el) env h = .ok (.lst (xs.map fun _ => D.bl true)) h := by
    rw [eE_lc, he, bind_ok]
    show R.bind (compL (turnL Φ GG (.var i) (.con (.bl true)) el (clr env [i])) [] xs h) _ = _
    rw [compL_pure (g := fun _ => D.bl true) fun x hxm => by
      unfold turnL
      have : bindT (.var i) x (clr env [i]) = some ((clr env [i]).set i x) := by unfold bindT; rw [if_pos hi]
      rw [this]
      show (((eE Φ GG (.con (.bl true)) _ h).bind tru).calm.bind _) = _
      rw [eE_con, bind_ok, tru1]
      show (if true = true then (eE Φ GG el ((clr env [i]).set i x) h).calm.bind fun y h => R.ok (some y) h else .ok none h) = _
      rw [if_pos rfl, hx x hxm]
      rfl]
    rw [bind_ok]
    unfold newL
    rw [if_pos (by rw [List.length_map]; exact hz)]
    rfl
  rw [bl1, e1, bind_ok]
  exact all_t xs h
end K85
namespace K85
open MP Sand DR
variable {Wf k : Nat} {W H : Nat} {c : Cf} {h : Heap}
theorem g1 {Φ : Nat → List D → Heap → R D} (env : Env) (h : Heap) : eE Φ K85.G (.glo 1) env h = .ok (.int 1000) h := rfl
/-- a tray as a value -/
def tray (W H : Nat) (c : Cf) : D := .tup [.int (W : Int), .int (H : Int), gD W H c]
def trC : E := (.or2 (.nt (.blt (.isinst .tuple) (.cons (.var 0) .nil))) (.or2 (.cmp .ne (.blt .len (.cons (.var 0) .nil)) (.con (.int 3))) (.or2 (.nt (.call 2 (.cons (.idx (.var 0) (.con (.int 0))) .nil))) (.one (.nt (.call 2 (.cons (.idx (.var 0) (.con (.int 1))) .nil)))))))
theorem trC_ok (hW : 1 ≤ W ∧ W ≤ 6) (hH : 1 ≤ H ∧ H ≤ 6) {env : Env} : eE (callF fns K85.G Wf (k + 2)) K85.G trC (tray W H c :: env) h = .ok (.bl false) h := by
  have v : eE (callF fns K85.G Wf (k + 2)) K85.G (.var 0) (tray W H c :: env) h = .ok (tray W H c) h := rfl
  have q1 : opF (.isinst .tuple) [tray W H c] h = .ok (.bl true) h := rfl
  have q2 : opF .len [tray W H c] h = .ok (.int 3) h := rfl
  have q3 : opC .ne (.int 3) (.int 3) h = some false := rfl
  have q4 : opI (tray W H c) (.int 0) h = some (.int (W : Int)) := rfl
  have q5 : opI (tray W H c) (.int 1) h = some (.int (H : Int)) := rfl
  have q6 : callF fns K85.G Wf (k + 2) 2 [.int (W : Int)] h = .ok (.bl true) h := side_call (by omega) (by omega)
  have q7 : callF fns K85.G Wf (k + 2) 2 [.int (H : Int)] h = .ok (.bl true) h := side_call (by omega) (by omega)
  unfold trC
  simp only [eE_or2, eE_one, eE_nt, eE_cmp, eE_idx, bl1, ca1, v, bind_ok, eE_con, q1, q2, q3, q4, q5, q6, q7, opt1, tru1, Bool.not_true, Bool.false_eq_true, if_false]
def trB : E := (.or2 (.nt (.blt (.isinst .tuple) (.cons (.var 3) .nil))) (.or2 (.cmp .ne (.blt .len (.cons (.var 3) .nil)) (.var 2)) (.one (.nt (.blt .all (.cons (.lc true (.var 4) .gen (.cons (.var 3) .nil) (.con (.bl true)) (.blt (.isinst .tuple) (.cons (.var 4) .nil))) .nil))))))
theorem trB_ok (hH : H ≤ 6) {a b : D} : eE (callF fns K85.G Wf (k + 2)) K85.G trB [a, b, .int (H : Int), gD W H c, .und, .und] h = .ok (.bl false) h := by
  have v : eE (callF fns K85.G Wf (k + 2)) K85.G (.var 3) [a, b, .int (H : Int), gD W H c, .und, .und] h = .ok (gD W H c) h := rfl
  have v2 : eE (callF fns K85.G Wf (k + 2)) K85.G (.var 2) [a, b, .int (H : Int), gD W H c, .und, .und] h = .ok (.int (H : Int)) h := rfl
  have q1 : opF (.isinst .tuple) [gD W H c] h = .ok (.bl true) h := rfl
  have q2 : opF .len [gD W H c] h = .ok (.int (H : Int)) h := by
    show ((R.opt h (items h (gD W H c))).bind fun ys h => R.ok (D.int ys.length) h) = _
    show R.ok (D.int (((List.range H).map fun y => D.tup (row W (c y))).length : Int)) h = _
    rw [List.length_map, List.length_range]
  have q3 : opC .ne (.int (H : Int)) (.int (H : Int)) h = some false := by
    show some (!((H : Int) == (H : Int))) = _
    simp
  have q4 : eE (callF fns K85.G Wf (k + 2)) K85.G (.blt .all (.cons (.lc true (.var 4) .gen (.cons (.var 3) .nil) (.con (.bl true)) (.blt (.isinst .tuple) (.cons (.var 4) .nil))) .nil)) [a, b, .int (H : Int), gD W H c, .und, .und] h = .ok (.bl true) h := by
    refine all_comp (xs := (List.range H).map fun y => D.tup (row W (c y))) (by rw [eE_cons, v, bind_ok, eE_nil, bind_ok]; rfl) (by simp [clr]) (by rw [List.length_map, List.length_range]; exact Nat.le_trans hH (by decide)) fun x hx => ?_
    rw [List.mem_map] at hx
    obtain ⟨y, _, rfl⟩ := hx
    rfl
  have b1 : eE (callF fns K85.G Wf (k + 2)) K85.G (.blt (.isinst .tuple) (.cons (.var 3) .nil)) [a, b, .int (H : Int), gD W H c, .und, .und] h = .ok (.bl true) h := by rw [bl1, v, bind_ok, q1]
  have b2 : eE (callF fns K85.G Wf (k + 2)) K85.G (.blt .len (.cons (.var 3) .nil)) [a, b, .int (H : Int), gD W H c, .und, .und] h = .ok (.int (H : Int)) h := by rw [bl1, v, bind_ok, q2]
  unfold trB
  simp only [eE_or2, eE_one, eE_nt, eE_cmp, v2, q4, b1, b2, bind_ok, q3, opt1, tru1, Bool.not_true, Bool.false_eq_true, if_false]
def trE : E := (.blt .all (.cons (.lc true (.var 4) .gen (.cons (.var 3) .nil) (.con (.bl true)) (.and2 (.cmp .eq (.blt .len (.cons (.var 4) .nil)) (.var 1)) (.one (.blt .all (.cons (.lc true (.var 5) .gen (.cons (.var 4) .nil) (.con (.bl true)) (.call 1 (.cons (.bin (.add true) (.glo 1) (.con (.int 1))) (.cons (.var 5) .nil)))) .nil))))) .nil))
theorem ca2 {Φ : Nat → List D → Heap → R D} {GG : List D} (e e' : E) (f : Nat) (env : Env) (h : Heap) : eE Φ GG (.call f (.cons e (.cons e' .nil))) env h = (eE Φ GG e env h).bind fun d h1 => (eE Φ GG e' env h1).bind fun d' h2 => Φ f [d, d'] h2 := by
  rw [eE_call, eE_cons]
  cases eE Φ GG e env h with
  | ok x h1 =>
    rw [bind_ok, bind_ok, eE_cons]
    cases eE Φ GG e' env h1 <;> rfl
  | exc c h1 => rfl
  | bad => rfl
theorem trE_ok (hW : W ≤ 6) (hH : H ≤ 6) (hc : On W H fun y x => 0 ≤ c y x ∧ c y x ≤ 1000) {a b : D} : eE (callF fns K85.G Wf (k + 2)) K85.G trE [a, .int (W : Int), b, gD W H c, .und, .und] h = .ok (.bl true) h := by
  unfold trE
  refine all_comp (xs := (List.range H).map fun y => D.tup (row W (c y))) (by rw [eE_cons]; rfl) (by simp [clr]) (by rw [List.length_map, List.length_range]; exact Nat.le_trans hH (by decide)) fun x hx => ?_
  rw [List.mem_map] at hx
  obtain ⟨y, hy, rfl⟩ := hx
  have hy := List.mem_range.mp hy
  show eE _ _ _ [a, .int (W : Int), b, gD W H c, .tup (row W (c y)), .und] h = _
  have v4 : eE (callF fns K85.G Wf (k + 2)) K85.G (.var 4) [a, .int (W : Int), b, gD W H c, .tup (row W (c y)), .und] h = .ok (.tup (row W (c y))) h := rfl
  have q2 : opF .len [.tup (row W (c y))] h = .ok (.int (W : Int)) h := by
    show R.ok (D.int ((row W (c y)).length : Int)) h = _
    rw [row_len]
  have q3 : opC .eq (.int (W : Int)) (.int (W : Int)) h = some true := by
    show some ((W : Int) == (W : Int)) = _
    simp
  have q4 : eE (callF fns K85.G Wf (k + 2)) K85.G (.blt .all (.cons (.lc true (.var 5) .gen (.cons (.var 4) .nil) (.con (.bl true)) (.call 1 (.cons (.bin (.add true) (.glo 1) (.con (.int 1))) (.cons (.var 5) .nil)))) .nil)) [a, .int (W : Int), b, gD W H c, .tup (row W (c y)), .und] h = .ok (.bl true) h := by
    refine all_comp (xs := row W (c y)) (by rw [eE_cons, v4, bind_ok]; rfl) (by simp [clr]) (by rw [row_len]; exact Nat.le_trans hW (by decide)) fun x hx => ?_
    unfold row at hx
    rw [List.mem_map] at hx
    obtain ⟨i, hi, rfl⟩ := hx
    have hi := List.mem_range.mp hi
    obtain ⟨h1, h2⟩ := hc y i hy hi
    show eE _ _ _ [a, .int (W : Int), b, gD W H c, .tup (row W (c y)), .int (c y i)] h = _
    rw [ca2, eE_bin, g1, bind_ok, eE_con, bind_ok, add1, bind_ok]
    show callF fns K85.G Wf (k + 2) 1 [.int (1000 + 1), .int (c y i)] h = _
    exact below_call h1 (by omega)
  have b1 : eE (callF fns K85.G Wf (k + 2)) K85.G (.blt .len (.cons (.var 4) .nil)) [a, .int (W : Int), b, gD W H c, .tup (row W (c y)), .und] h = .ok (.int (W : Int)) h := by rw [bl1, v4, bind_ok, q2]
  simp only [eE_and2, eE_one, eE_cmp, q4, b1, var1, bind_ok, q3, opt1, tru1, if_true]
end K85
namespace K85
open MP Sand DR
variable {Wf k : Nat} {W H : Nat} {c : Cf} {h : Heap}
theorem tray_call (hW : 1 ≤ W ∧ W ≤ 6) (hH : 1 ≤ H ∧ H ≤ 6) (hc : On W H fun y x => 0 ≤ c y x ∧ c y x ≤ 1000) : callF fns K85.G Wf (k + 3) 3 [tray W H c] h = .ok (.bl true) h := by
  rw [call_eq (show fns[3]? = some d_is_tray from rfl) rfl]
  show MP.back h.length (eS (callF fns K85.G Wf (k + 2)) K85.G Wf b_is_tray [tray W H c, .und, .und, .und, .und, .und] h) = _
  have e : eS (callF fns K85.G Wf (k + 2)) K85.G Wf b_is_tray [tray W H c, .und, .und, .und, .und, .und] h = .ok (.ret (.bl true)) h := by
    unfold b_is_tray
    rw [eS_cons, eS_ite]
    have c1 := trC_ok (Wf := Wf) (k := k) (W := W) (H := H) (c := c) (h := h) hW hH (env := [.und, .und, .und, .und, .und])
    unfold trC at c1
    rw [c1, bind_ok, tru1, bind_ok, if_neg Bool.false_ne_true, eS_nil, bind_ok]
    show eS _ _ _ (.cons (.asg (.tup (.cons (.var 1) (.cons (.var 2) (.cons (.var 3) .nil)))) (.var 0)) _) [tray W H c, .und, .und, .und, .und, .und] h = _
    rw [eS_cons, eS_asg]
    have v : eE (callF fns K85.G Wf (k + 2)) K85.G (.var 0) [tray W H c, .und, .und, .und, .und, .und] h = .ok (tray W H c) h := rfl
    have s : setT (callF fns K85.G Wf (k + 2)) K85.G (.tup (.cons (.var 1) (.cons (.var 2) (.cons (.var 3) .nil)))) (tray W H c) [tray W H c, .und, .und, .und, .und, .und] h = .ok [tray W H c, .int (W : Int), .int (H : Int), gD W H c, .und, .und] h := rfl
    rw [v, bind_ok, s, bind_ok, bind_ok]
    show eS _ _ _ (.cons (.ite trB _ .nil) _) [tray W H c, .int (W : Int), .int (H : Int), gD W H c, .und, .und] h = _
    rw [eS_cons, eS_ite, trB_ok hH.2, bind_ok, tru1, bind_ok, if_neg Bool.false_ne_true, eS_nil, bind_ok]
    show eS _ _ _ (.cons (.ret trE) .nil) [tray W H c, .int (W : Int), .int (H : Int), gD W H c, .und, .und] h = _
    rw [eS_cons, eS_ret, trE_ok hW.2 hH.2 hc, bind_ok]
    rfl
  rw [e]
  exact back_any rfl
theorem check_call (hW : 1 ≤ W ∧ W ≤ 6) (hH : 1 ≤ H ∧ H ≤ 6) (hc : On W H fun y x => 0 ≤ c y x ∧ c y x ≤ 1000) : callF fns K85.G Wf (k + 4) 4 [tray W H c] h = .ok .non h := by
  rw [call_eq (show fns[4]? = some d_check_tray from rfl) rfl]
  show MP.back h.length (eS (callF fns K85.G Wf (k + 3)) K85.G Wf b_check_tray [tray W H c] h) = _
  have v : eE (callF fns K85.G Wf (k + 3)) K85.G (.var 0) [tray W H c] h = .ok (tray W H c) h := rfl
  have e : eS (callF fns K85.G Wf (k + 3)) K85.G Wf b_check_tray [tray W H c] h = .ok (.nxt [tray W H c]) h := by
    unfold b_check_tray
    rw [eS_cons, eS_ite, eE_nt, ca1, v, bind_ok, tray_call hW hH hc, bind_ok, tru1, bind_ok, bind_ok]
    rfl
  rw [e]
  exact back_non rfl
end K85
namespace K85
open MP Sand DR
variable {Wf k : Nat} {W H : Nat} {c : Cf}
def lEl : E := (.blt (.list false) (.cons (.var 3) .nil))
theorem lEl_ok {Φ : Nat → List D → Heap → R D} {GG : List D} (hW : W ≤ 6) {h : Heap} {f : Nat → Int} {a b d e : D} :
    turnL Φ GG (.var 3) (.con (.bl true)) lEl [a, b, d, e] (.tup (row W f)) h = .ok (some (.ref h.length)) (h ++ [.lst (row W f)]) := by
  have e1 : eE Φ GG lEl [a, b, d, .tup (row W f)] h = .ok (.ref h.length) (h ++ [.lst (row W f)]) := by
    unfold lEl
    rw [bl1]
    show R.bind (R.ok (D.tup (row W f)) h) _ = _
    rw [bind_ok]
    show newL false (row W f) h = _
    unfold newL
    rw [if_pos (by rw [row_len]; exact Nat.le_trans hW (by decide))]
    rfl
  unfold turnL
  show (((eE Φ GG (.con (.bl true)) [a, b, d, .tup (row W f)] h).bind tru).calm.bind fun q h => if q = true then (eE Φ GG lEl [a, b, d, .tup (row W f)] h).calm.bind fun y h => .ok (some y) h else .ok none h) = _
  rw [eE_con, bind_ok, tru1]
  show (if true = true then (eE Φ GG lEl [a, b, d, .tup (row W f)] h).calm.bind fun y h => R.ok (some y) h else .ok none h) = _
  rw [if_pos rfl, e1]
  rfl
theorem lists_ok {Φ : Nat → List D → Heap → R D} {GG : List D} (hW : W ≤ 6) {a b d e : D} : ∀ (L : List Nat) {h : Heap},
    compL (turnL Φ GG (.var 3) (.con (.bl true)) lEl [a, b, d, e]) [] (L.map fun y => D.tup (row W (c y))) h = .ok ((List.range L.length).map fun i => D.ref (h.length + i)) (h ++ L.map fun y => Ob.lst (row W (c y)))
  | [], h => by
    show (if gdOk h [] = true then R.ok [] h else .bad) = _
    rw [if_pos (show gdOk h [] = true from rfl)]
    simp
  | y :: L, h => by
    have ih := lists_ok (Φ := Φ) (GG := GG) hW (a := a) (b := b) (d := d) (e := e) L (h := h ++ [.lst (row W (c y))])
    rw [List.map_cons]
    show (if gdOk h [] = true then _ else _) = _
    rw [if_pos (show gdOk h [] = true from rfl), lEl_ok hW, bind_ok, ih, bind_ok]
    have e1 : (List.range (y :: L).length).map (fun i => D.ref (h.length + i)) = D.ref h.length :: (List.range L.length).map fun i => D.ref ((h ++ [Ob.lst (row W (c y))]).length + i) := by
      rw [List.length_cons, List.range_succ_eq_map, List.map_cons, List.map_map]
      congr 1
      apply List.map_congr_left
      intro i _
      simp only [Function.comp, List.length_append, List.length_cons, List.length_nil]
      congr 1
      omega
    rw [e1]
    congr 1
    rw [List.map_cons, List.append_assoc]
    rfl
theorem rows_gh {h : Heap} : GH (h ++ (List.range H).map fun y => Ob.lst (row W (c y))) h.length W H c :=
  ⟨fun y hy => by
    rw [List.getElem?_append_right (by omega), List.getElem?_map, Nat.add_sub_cancel_left, List.getElem?_range hy]
    rfl⟩
end K85
namespace K85
open MP Sand DR
variable {Wf k : Nat} {W H : Nat} {c : Cf}
theorem back_pre {n : Nat} {d : D} {h h' : Heap} (hn : h.length = n) (hp : h'.take n = h) : ∃ t, MP.back n (.ok (.ret d) h') = .ok d (h ++ t) := by
  have e : h' = h ++ h'.drop n := by rw [← hp]; exact (List.take_append_drop n h').symm
  show ∃ t, (if (d.low n && (h'.take n).all (Ob.low n)) = true then R.ok d (h'.take n) else .ok d h') = R.ok d (h ++ t)
  split
  · exact ⟨[], by rw [hp, List.append_nil]⟩
  · exact ⟨h'.drop n, by rw [← e]⟩
theorem far_take {h h' : Heap} {base tb H n : Nat} (F : Far h h' base tb H) (h1 : n ≤ base) (h2 : n ≤ tb) : h'.take n = h.take n := by
  apply List.ext_getElem?
  intro i
  by_cases hi : i < n
  · rw [List.getElem?_take_of_lt hi, List.getElem?_take_of_lt hi]
    exact F.2 i (by omega) (by omega)
  · rw [List.getElem?_eq_none (by rw [List.length_take]; omega), List.getElem?_eq_none (by rw [List.length_take]; omega)]
/-- fallen: what rests, and the least falls -/
theorem fallen_call (hW : 1 ≤ W ∧ W ≤ 6) (hH : 1 ≤ H ∧ H ≤ 6) (hc : On W H fun y x => 0 ≤ c y x ∧ c y x ≤ 1000) {s0 : Cf} (hs0 : St W H c s0) (hf : S2 W H s0 + 2 ≤ (Wf : Int)) {h : Heap} :
    ∃ c' t' tl, callF fns K85.G Wf (k + 5) i_fallen [tray W H c] h = .ok (.tup [gD W H c', gD W H t']) (h ++ tl) ∧ Least W H c t' ∧ On W H fun y x => c' y x = aft W H c t' y x := by
  obtain ⟨h', c', t', er, T', L', A', F'⟩ := rest_call (Wf := Wf) (k := k + 2) hW.2 hH.2 hs0 hf (rows_gh (W := W) (H := H) (c := c) (h := h)) (by simp)
  have hpre : h'.take h.length = h := by
    rw [far_take F' (Nat.le_refl _) (by simp)]
    rw [List.append_assoc, List.take_left']
    rfl
  obtain ⟨tl, eb⟩ := back_pre (d := .tup [gD W H c', gD W H t']) rfl hpre
  refine ⟨c', t', tl, ?_, L', A'⟩
  rw [call_eq (show fns[i_fallen]? = some d_fallen from rfl) rfl]
  show MP.back h.length (eS (callF fns K85.G Wf (k + 4)) K85.G Wf b_fallen [tray W H c, .und, .und, .und] h) = _
  have e : eS (callF fns K85.G Wf (k + 4)) K85.G Wf b_fallen [tray W H c, .und, .und, .und] h = .ok (.ret (.tup [gD W H c', gD W H t'])) h' := by
    have v : eE (callF fns K85.G Wf (k + 4)) K85.G (.var 0) [tray W H c, .und, .und, .und] h = .ok (tray W H c) h := rfl
    unfold b_fallen
    rw [eS_cons, eS_exp, ca1, v, bind_ok, check_call hW hH hc, bind_ok, bind_ok]
    show eS _ _ _ (.cons (.asg (.var 1) (.lc true (.var 3) .gen (.cons (.idx (.var 0) (.con (.int 2))) .nil) (.con (.bl true)) lEl)) _) [tray W H c, .und, .und, .und] h = _
    have e1 : eE (callF fns K85.G Wf (k + 4)) K85.G (.lc true (.var 3) .gen (.cons (.idx (.var 0) (.con (.int 2))) .nil) (.con (.bl true)) lEl) [tray W H c, .und, .und, .und] h = .ok (gO h.length H) (h ++ (List.range H).map fun y => Ob.lst (row W (c y))) := by
      rw [eE_lc, eE_cons, eE_idx, v, bind_ok, eE_con, bind_ok]
      show R.bind (R.bind (R.ok (gD W H c) h) _) _ = _
      rw [bind_ok, eE_nil, bind_ok, bind_ok]
      show R.bind (compL (turnL (callF fns K85.G Wf (k + 4)) K85.G (.var 3) (.con (.bl true)) lEl [tray W H c, .und, .und, .und]) [] ((List.range H).map fun y => D.tup (row W (c y))) h) _ = _
      rw [lists_ok hW.2, bind_ok]
      unfold newL
      rw [if_pos (by rw [List.length_map, List.length_range, List.length_range]; exact Nat.le_trans hH.2 (by decide)), List.length_range]
      rfl
    rw [eS_cons, eS_asg, e1, bind_ok]
    show eS _ _ _ (.cons (.asg (.var 2) (.call 6 (.cons (.var 1) .nil))) _) [tray W H c, gO h.length H, .und, .und] _ = _
    have w : ∀ (x : D) (r : Env) (hh : Heap), eE (callF fns K85.G Wf (k + 4)) K85.G (.var 1) (x :: gO h.length H :: r) hh = .ok (gO h.length H) hh := fun _ _ _ => rfl
    have er' : callF fns K85.G Wf (k + 4) 6 [gO h.length H] (h ++ (List.range H).map fun y => Ob.lst (row W (c y))) = .ok (gO (h ++ (List.range H).map fun y => Ob.lst (row W (c y))).length H) h' := er
    rw [eS_cons, eS_asg, ca1, w, bind_ok, er', bind_ok]
    show eS _ _ _ (.cons (.ret (.tup (.cons (.call 7 (.cons (.var 1) .nil)) (.cons (.call 7 (.cons (.var 2) .nil)) .nil)))) .nil) [tray W H c, gO h.length H, gO (h ++ (List.range H).map fun y => Ob.lst (row W (c y))).length H, .und] h' = _
    have a1 : callF fns K85.G Wf (k + 4) 7 [gO h.length H] h' = .ok (gD W H c') h' := as_rows_call (k := k + 3) T'.gr hH.2
    have a2 : callF fns K85.G Wf (k + 4) 7 [gO (h ++ (List.range H).map fun y => Ob.lst (row W (c y))).length H] h' = .ok (gD W H t') h' := as_rows_call (k := k + 3) T'.ti hH.2
    rw [eS_cons, eS_ret, eE_tup, eE_cons, ca1, w, bind_ok, a1, bind_ok, eE_cons, ca1]
    show R.bind (R.bind (R.bind (R.bind (R.bind (R.ok (gO (h ++ (List.range H).map fun y => Ob.lst (row W (c y))).length H) h') _) _) _) _) _ = _
    rw [bind_ok, a2, bind_ok, eE_nil, bind_ok, bind_ok, bind_ok]
    rfl
  rw [e]
  exact eb
end K85
namespace K85
open MP Sand DR
variable {Wf k : Nat} {W H : Nat} {c : Cf}
theorem lows_map {α : Type} {n : Nat} {f : α → D} : ∀ {xs : List α}, (∀ x ∈ xs, (f x).low n = true) → D.lows n (xs.map f) = true
  | [], _ => rfl
  | x :: xs, h => by
    rw [List.map_cons, D.lows, h x (by simp), lows_map fun y hy => h y (by simp [hy])]
    rfl
theorem gD_low (n : Nat) : (gD W H c).low n = true := by
  unfold gD
  rw [D.low]
  refine lows_map fun y _ => ?_
  rw [D.low]
  exact lows_map fun x _ => rfl
/-- nothing stays behind a call, where the heap holds no later place -/
theorem back_low {n : Nat} {d : D} {h h' : Heap} (hn : h.length = n) (hp : h'.take n = h) (hd : d.low n = true) (hl : h.all (Ob.low n) = true) : MP.back n (.ok (.ret d) h') = .ok d h := by
  show (if (d.low n && (h'.take n).all (Ob.low n)) = true then R.ok d (h'.take n) else .ok d h') = R.ok d h
  rw [hp, hd, hl]
  rfl
/-- fallen: what rests, and the least falls -/
theorem fallen_same (hW : 1 ≤ W ∧ W ≤ 6) (hH : 1 ≤ H ∧ H ≤ 6) (hc : On W H fun y x => 0 ≤ c y x ∧ c y x ≤ 1000) {s0 : Cf} (hs0 : St W H c s0) (hf : S2 W H s0 + 2 ≤ (Wf : Int)) {h : Heap} (hl : h.all (Ob.low h.length) = true) :
    ∃ c' t', callF fns K85.G Wf (k + 5) i_fallen [tray W H c] h = .ok (.tup [gD W H c', gD W H t']) h ∧ Least W H c t' ∧ On W H fun y x => c' y x = aft W H c t' y x := by
  obtain ⟨h', c', t', er, T', L', A', F'⟩ := rest_call (Wf := Wf) (k := k + 2) hW.2 hH.2 hs0 hf (rows_gh (W := W) (H := H) (c := c) (h := h)) (by simp)
  have hpre : h'.take h.length = h := by
    rw [far_take F' (Nat.le_refl _) (by simp)]
    rw [List.append_assoc, List.take_left']
    rfl
  have eb := back_low (d := .tup [gD W H c', gD W H t']) rfl hpre (by rw [D.low, D.lows, gD_low, D.lows, gD_low]; rfl) hl
  refine ⟨c', t', ?_, L', A'⟩
  rw [call_eq (show fns[i_fallen]? = some d_fallen from rfl) rfl]
  show MP.back h.length (eS (callF fns K85.G Wf (k + 4)) K85.G Wf b_fallen [tray W H c, .und, .und, .und] h) = _
  have e : eS (callF fns K85.G Wf (k + 4)) K85.G Wf b_fallen [tray W H c, .und, .und, .und] h = .ok (.ret (.tup [gD W H c', gD W H t'])) h' := by
    have v : eE (callF fns K85.G Wf (k + 4)) K85.G (.var 0) [tray W H c, .und, .und, .und] h = .ok (tray W H c) h := rfl
    unfold b_fallen
    rw [eS_cons, eS_exp, ca1, v, bind_ok, check_call hW hH hc, bind_ok, bind_ok]
    show eS _ _ _ (.cons (.asg (.var 1) (.lc true (.var 3) .gen (.cons (.idx (.var 0) (.con (.int 2))) .nil) (.con (.bl true)) lEl)) _) [tray W H c, .und, .und, .und] h = _
    have e1 : eE (callF fns K85.G Wf (k + 4)) K85.G (.lc true (.var 3) .gen (.cons (.idx (.var 0) (.con (.int 2))) .nil) (.con (.bl true)) lEl) [tray W H c, .und, .und, .und] h = .ok (gO h.length H) (h ++ (List.range H).map fun y => Ob.lst (row W (c y))) := by
      rw [eE_lc, eE_cons, eE_idx, v, bind_ok, eE_con, bind_ok]
      show R.bind (R.bind (R.ok (gD W H c) h) _) _ = _
      rw [bind_ok, eE_nil, bind_ok, bind_ok]
      show R.bind (compL (turnL (callF fns K85.G Wf (k + 4)) K85.G (.var 3) (.con (.bl true)) lEl [tray W H c, .und, .und, .und]) [] ((List.range H).map fun y => D.tup (row W (c y))) h) _ = _
      rw [lists_ok hW.2, bind_ok]
      unfold newL
      rw [if_pos (by rw [List.length_map, List.length_range, List.length_range]; exact Nat.le_trans hH.2 (by decide)), List.length_range]
      rfl
    rw [eS_cons, eS_asg, e1, bind_ok]
    show eS _ _ _ (.cons (.asg (.var 2) (.call 6 (.cons (.var 1) .nil))) _) [tray W H c, gO h.length H, .und, .und] _ = _
    have w : ∀ (x : D) (r : Env) (hh : Heap), eE (callF fns K85.G Wf (k + 4)) K85.G (.var 1) (x :: gO h.length H :: r) hh = .ok (gO h.length H) hh := fun _ _ _ => rfl
    have er' : callF fns K85.G Wf (k + 4) 6 [gO h.length H] (h ++ (List.range H).map fun y => Ob.lst (row W (c y))) = .ok (gO (h ++ (List.range H).map fun y => Ob.lst (row W (c y))).length H) h' := er
    rw [eS_cons, eS_asg, ca1, w, bind_ok, er', bind_ok]
    show eS _ _ _ (.cons (.ret (.tup (.cons (.call 7 (.cons (.var 1) .nil)) (.cons (.call 7 (.cons (.var 2) .nil)) .nil)))) .nil) [tray W H c, gO h.length H, gO (h ++ (List.range H).map fun y => Ob.lst (row W (c y))).length H, .und] h' = _
    have a1 : callF fns K85.G Wf (k + 4) 7 [gO h.length H] h' = .ok (gD W H c') h' := as_rows_call (k := k + 3) T'.gr hH.2
    have a2 : callF fns K85.G Wf (k + 4) 7 [gO (h ++ (List.range H).map fun y => Ob.lst (row W (c y))).length H] h' = .ok (gD W H t') h' := as_rows_call (k := k + 3) T'.ti hH.2
    rw [eS_cons, eS_ret, eE_tup, eE_cons, ca1, w, bind_ok, a1, bind_ok, eE_cons, ca1]
    show R.bind (R.bind (R.bind (R.bind (R.bind (R.ok (gO (h ++ (List.range H).map fun y => Ob.lst (row W (c y))).length H) h') _) _) _) _) _ = _
    rw [bind_ok, a2, bind_ok, eE_nil, bind_ok, bind_ok, bind_ok]
    rfl
  rw [e]
  exact eb
end K85
namespace K85
open MP Sand DR
variable {Wf k : Nat} {W H : Nat}
/-! ### the drawn tray -/
/-- what stays of the heap: the box at its head -/
def BoxAt (h : Heap) (cells : List Int) : Prop := h.length = 1 ∧ Box h 0 cells
theorem BoxAt.take {h : Heap} {cells : List Int} (B : BoxAt h cells) {m : Int} (hm : 0 < m) (hm2 : m < 1073741824) :
    ∃ t h', callF fns K85.G Wf (k + 1) i__law_take [.ref 0, .int m] h = .ok (.int t) h' ∧ 0 ≤ t ∧ t < m ∧ BoxAt h' cells := by
  obtain ⟨t, o, e, h1, h2, h3⟩ := take_call (k := k) (G := K85.G) (W := Wf) (show fns[i__law_take]? = some ⟨2, 5, bTake⟩ from rfl) B.2 hm hm2
  exact ⟨t, _, e, h1, h2, by rw [List.length_set]; exact B.1, h3⟩
def dEl : E := (.bin (.add true) (.con (.int 3)) (.call 11 (.cons (.var 1) (.cons (.con (.int 4)) .nil))))
/-- one row is drawn -/
theorem drawn_row {env : Env} (hv : ∀ x : D, (clr env [15]).set 15 x = (clr env [15]).set 15 x ∧ ∀ h, eE (callF fns K85.G Wf (k + 1)) K85.G (.var 1) ((clr env [15]).set 15 x) h = .ok (.ref 0) h) (hi : 15 < (clr env [15]).length) : ∀ (n : Nat) (s : Nat) {h : Heap} {cells : List Int}, BoxAt h cells →
    ∃ f : Nat → Int, ∃ h', compL (turnL (callF fns K85.G Wf (k + 1)) K85.G (.var 15) (.con (.bl true)) dEl (clr env [15])) [] ((List.range' s n).map fun (x : Nat) => D.int (x : Int)) h = .ok ((List.range' s n).map fun x => .int (f x)) h' ∧ BoxAt h' cells ∧ ∀ x, 3 ≤ f x ∧ f x ≤ 6
  | 0, s, h, cells, B => ⟨fun _ => 3, h, by
      show (if gdOk h [] = true then R.ok [] h else .bad) = _
      rw [if_pos (show gdOk h [] = true from rfl)]
      rfl, B, fun _ => ⟨Int.le_refl 3, by show (3 : Int) ≤ 6; decide⟩⟩
  | n + 1, s, h, cells, B => by
    obtain ⟨t, h1, e1, a1, a2, B1⟩ := B.take (Wf := Wf) (k := k) (m := 4) (by decide) (by decide)
    obtain ⟨f, h2, e2, B2, q⟩ := drawn_row hv hi n (s + 1) B1
    refine ⟨fun x => if x = s then 3 + t else f x, h2, ?_, B2, fun x => by
      show 3 ≤ (if x = s then 3 + t else f x) ∧ (if x = s then 3 + t else f x) ≤ 6
      by_cases hx : x = s
      · rw [if_pos hx]; omega
      · rw [if_neg hx]; exact q x⟩
    rw [List.range'_succ, List.map_cons]
    show (if gdOk h [] = true then _ else _) = _
    have et : turnL (callF fns K85.G Wf (k + 1)) K85.G (.var 15) (.con (.bl true)) dEl (clr env [15]) (.int (s : Int)) h = .ok (some (.int (3 + t))) h1 := by
      unfold turnL
      have : bindT (.var 15) (.int (s : Int)) (clr env [15]) = some ((clr env [15]).set 15 (.int (s : Int))) := by unfold bindT; rw [if_pos hi]
      rw [this]
      show (((eE (callF fns K85.G Wf (k + 1)) K85.G (.con (.bl true)) _ h).bind tru).calm.bind _) = _
      rw [eE_con, bind_ok, tru1]
      show (if true = true then (eE (callF fns K85.G Wf (k + 1)) K85.G dEl ((clr env [15]).set 15 (.int (s : Int))) h).calm.bind fun y h => R.ok (some y) h else .ok none h) = _
      rw [if_pos rfl]
      unfold dEl
      have e1' : callF fns K85.G Wf (k + 1) 11 [.ref 0, .int 4] h = .ok (.int t) h1 := e1
      rw [eE_bin, eE_con, bind_ok, ca2, (hv _).2, bind_ok, eE_con, bind_ok, e1', bind_ok, add1]
      rfl
    rw [if_pos (show gdOk h [] = true from rfl), et, bind_ok, e2, bind_ok]
    have er : (List.range' (s + 1) n).map (fun x => D.int (if x = s then 3 + t else f x)) = (List.range' (s + 1) n).map fun x => D.int (f x) := by
      apply List.map_congr_left
      intro x hx
      have : s + 1 ≤ x := by
        rw [List.mem_range'] at hx
        obtain ⟨i, _, rfl⟩ := hx
        omega
      rw [if_neg (by omega)]
    rw [List.map_cons]
    show R.ok (D.int (3 + t) :: (List.range' (s + 1) n).map fun x => D.int (f x)) h2 = R.ok (D.int (if s = s then 3 + t else f s) :: (List.range' (s + 1) n).map fun x => D.int (if x = s then 3 + t else f x)) h2
    rw [if_pos rfl, er]
end K85
namespace K85
open MP Sand DR
variable {Wf k : Nat} {W H : Nat}
/-- _law_full -/
theorem full_row (W : Nat) (m : Int) : rep W [D.int m] = row W fun _ => m := by
  unfold rep row
  induction W with
  | zero => rfl
  | succ n ih => rw [List.replicate_succ', List.flatten_append, ih, List.range_succ, List.map_append]; rfl
theorem range_eq (n : Nat) : List.range n = List.range' 0 n := List.range_eq_range'
/-- every heap of the law holds the box alone, and no place -/
theorem BoxAt.low {h : Heap} {cells : List Int} (B : BoxAt h cells) : h.all (Ob.low h.length) = true ∧ ∃ o, h = [o] ∧ Ob.low 0 o = true := by
  obtain ⟨hl, hb, v, st, a, e, _, _, _⟩ := B
  match h, hl with
  | [o], _ =>
    simp only [List.getElem?_cons_zero, Option.some.injEq] at e
    subst e
    have q : ∀ n, Ob.low n (.lst [.int v, .int st, .int a, .lst (cells.map .int)]) = true := fun n => by
      show D.lows n [.int v, .int st, .int a, .lst (cells.map .int)] = true
      have : D.lows n (cells.map D.int) = true := lows_map fun x _ => rfl
      simp [D.lows, D.low, this]
    refine ⟨?_, _, rfl, q 0⟩
    rw [List.all_cons, q]
    rfl
end K85
namespace K85
open MP Sand DR
variable {Wf k : Nat} {W H : Nat}
def rEl : E := .blt .tuple (.cons (.lc true (.var 15) .rng (.cons (.var 11) .nil) (.con (.bl true)) dEl) .nil)
theorem row_range' {W : Nat} {f : Nat → Int} : (List.range' 0 W).map (fun x => D.int (f x)) = row W f := by unfold row; rw [range_eq]
/-- the element that draws a row, in the law's frame -/
theorem rEl_ok (hW : W ≤ 6) {env : Env} (hv : ∀ x : D, (clr env [15]).set 15 x = (clr env [15]).set 15 x ∧ ∀ h, eE (callF fns K85.G Wf (k + 1)) K85.G (.var 1) ((clr env [15]).set 15 x) h = .ok (.ref 0) h) (hi : 15 < (clr env [15]).length)
    (hw : ∀ h, eE (callF fns K85.G Wf (k + 1)) K85.G (.var 11) env h = .ok (.int (W : Int)) h) {h : Heap} {cells : List Int} (B : BoxAt h cells) :
    ∃ f h', eE (callF fns K85.G Wf (k + 1)) K85.G rEl env h = .ok (.tup (row W f)) h' ∧ BoxAt h' cells ∧ ∀ x, 3 ≤ f x ∧ f x ≤ 6 := by
  obtain ⟨f, h', e, B', q⟩ := drawn_row (Wf := Wf) (k := k) hv hi W 0 B
  refine ⟨f, h', ?_, B', q⟩
  unfold rEl
  rw [bl1, eE_lc, eE_cons, hw, bind_ok, eE_nil, bind_ok, bind_ok]
  have it : iterOf .rng (args (.tup (D.int (W : Int) :: args (.tup [])))) h = _ := rng_it hW h
  rw [it]
  show R.bind (R.bind (compL (turnL (callF fns K85.G Wf (k + 1)) K85.G (.var 15) (.con (.bl true)) dEl (clr env [15])) [] ((List.range W).map fun (x : Nat) => D.int (x : Int)) h) _) _ = _
  rw [range_eq, e, bind_ok, row_range']
  unfold newL
  rw [if_pos (by rw [row_len]; exact Nat.le_trans hW (by decide)), if_pos rfl, bind_ok]
  rfl
end K85
namespace K85
open MP Sand DR
variable {Wf k : Nat} {W H : Nat}
/-- the drawn tray, row by row -/
theorem drawn_rows (hW : W ≤ 6) {env : Env} (hi : 13 < (clr env [13]).length) (hi2 : ∀ x : D, 15 < (clr ((clr env [13]).set 13 x) [15]).length)
    (hv : ∀ y x : D, ∀ h, eE (callF fns K85.G Wf (k + 1)) K85.G (.var 1) ((clr ((clr env [13]).set 13 y) [15]).set 15 x) h = .ok (.ref 0) h)
    (hw : ∀ (y : D) h, eE (callF fns K85.G Wf (k + 1)) K85.G (.var 11) ((clr env [13]).set 13 y) h = .ok (.int (W : Int)) h) : ∀ (n s : Nat) {h : Heap} {cells : List Int}, BoxAt h cells →
    ∃ c : Cf, ∃ h', compL (turnL (callF fns K85.G Wf (k + 1)) K85.G (.var 13) (.con (.bl true)) rEl (clr env [13])) [] ((List.range' s n).map fun (x : Nat) => D.int (x : Int)) h = .ok ((List.range' s n).map fun y => .tup (row W (c y))) h' ∧ BoxAt h' cells ∧ ∀ y x, 3 ≤ c y x ∧ c y x ≤ 6
  | 0, s, h, cells, B => ⟨fun _ _ => 3, h, by
      show (if gdOk h [] = true then R.ok [] h else .bad) = _
      rw [if_pos (show gdOk h [] = true from rfl)]
      rfl, B, fun _ _ => ⟨Int.le_refl 3, by show (3 : Int) ≤ 6; decide⟩⟩
  | n + 1, s, h, cells, B => by
    obtain ⟨f, h1, e1, B1, q1⟩ := rEl_ok (Wf := Wf) (k := k) hW (env := (clr env [13]).set 13 (.int (s : Int))) (fun x => ⟨rfl, hv _ x⟩) (hi2 _) (hw _) B
    obtain ⟨c, h2, e2, B2, q⟩ := drawn_rows hW hi hi2 hv hw n (s + 1) B1
    refine ⟨fun y => if y = s then f else c y, h2, ?_, B2, fun y x => by
      show 3 ≤ (if y = s then f else c y) x ∧ (if y = s then f else c y) x ≤ 6
      by_cases hy : y = s
      · rw [if_pos hy]; exact q1 x
      · rw [if_neg hy]; exact q y x⟩
    rw [List.range'_succ, List.map_cons]
    show (if gdOk h [] = true then _ else _) = _
    have et : turnL (callF fns K85.G Wf (k + 1)) K85.G (.var 13) (.con (.bl true)) rEl (clr env [13]) (.int (s : Int)) h = .ok (some (.tup (row W f))) h1 := by
      unfold turnL
      have : bindT (.var 13) (.int (s : Int)) (clr env [13]) = some ((clr env [13]).set 13 (.int (s : Int))) := by unfold bindT; rw [if_pos hi]
      rw [this]
      show (((eE (callF fns K85.G Wf (k + 1)) K85.G (.con (.bl true)) _ h).bind tru).calm.bind _) = _
      rw [eE_con, bind_ok, tru1]
      show (if true = true then (eE (callF fns K85.G Wf (k + 1)) K85.G rEl ((clr env [13]).set 13 (.int (s : Int))) h).calm.bind fun y h => R.ok (some y) h else .ok none h) = _
      rw [if_pos rfl, e1]
      rfl
    rw [if_pos (show gdOk h [] = true from rfl), et, bind_ok, e2, bind_ok]
    have er : (List.range' (s + 1) n).map (fun y => D.tup (row W (if y = s then f else c y))) = (List.range' (s + 1) n).map fun y => D.tup (row W (c y)) := by
      apply List.map_congr_left
      intro x hx
      have : s + 1 ≤ x := by
        rw [List.mem_range'] at hx
        obtain ⟨i, _, rfl⟩ := hx
        omega
      rw [if_neg (by omega)]
    rw [List.map_cons]
    show R.ok (D.tup (row W f) :: (List.range' (s + 1) n).map fun y => D.tup (row W (c y))) h2 = R.ok (D.tup (row W (if s = s then f else c s)) :: (List.range' (s + 1) n).map fun y => D.tup (row W (if y = s then f else c y))) h2
    rw [if_pos rfl, er]
end K85
namespace K85
open MP Sand DR
variable {Wf k : Nat} {W H : Nat} {h : Heap}
theorem zip_map {f g : Nat → D} : ∀ L : List Nat, zipD (L.map f) (L.map g) = L.map fun i => D.tup [f i, g i]
  | [] => rfl
  | i :: L => by rw [List.map_cons, List.map_cons, List.map_cons, zipD, zip_map L]
def sEl : E := .blt .tuple (.cons (.lc true (.tup (.cons (.var 4) (.cons (.var 5) .nil))) .zip (.cons (.var 2) (.cons (.var 3) .nil)) (.con (.bl true)) (.bin (.add true) (.var 4) (.var 5))) .nil)
theorem sEl_ok {Φ : Nat → List D → Heap → R D} {GG : List D} (hW : W ≤ 6) {f g : Nat → Int} {a b p q : D} : eE Φ GG sEl [a, b, .tup (row W f), .tup (row W g), p, q] h = .ok (.tup (row W fun x => f x + g x)) h := by
  unfold sEl
  rw [bl1, eE_lc]
  show R.bind (R.bind (compL (turnL Φ GG (.tup (.cons (.var 4) (.cons (.var 5) .nil))) (.con (.bl true)) (.bin (.add true) (.var 4) (.var 5)) [a, b, .tup (row W f), .tup (row W g), .und, .und]) [] (zipD (row W f) (row W g)) h) _) _ = _
  unfold row
  rw [zip_map, compL_pure (g := fun d => match d with | .tup [.int x, .int y] => .int (x + y) | d => d) fun d hd => by
    rw [List.mem_map] at hd
    obtain ⟨i, _, rfl⟩ := hd
    rfl]
  rw [bind_ok, List.map_map]
  unfold newL
  rw [if_pos (by rw [List.length_map, List.length_range]; exact Nat.le_trans hW (by decide)), if_pos rfl, bind_ok]
  rfl
def zs (W : Nat) : D → D
  | .tup [.tup xs, .tup ys] => .tup ((List.range W).map fun i => match xs[i]?, ys[i]? with | some (D.int a), some (D.int b) => D.int (a + b) | _, _ => D.non)
  | x => x
theorem zs_row {f g : Nat → Int} : zs W (.tup [.tup (row W f), .tup (row W g)]) = .tup (row W fun x => f x + g x) := by
  unfold zs
  dsimp only
  congr 1
  unfold row
  apply List.map_congr_left
  intro i hi
  have hi := List.mem_range.mp hi
  rw [List.getElem?_map, List.getElem?_map, List.getElem?_range hi]
  rfl
theorem sum_call (hW : W ≤ 6) (hH : H ≤ 6) {c d : Cf} : callF fns K85.G Wf (k + 1) 12 [gD W H c, gD W H d] h = .ok (gD W H fun y x => c y x + d y x) h := by
  rw [call_eq (show fns[12]? = some d__law_sum from rfl) rfl]
  show MP.back h.length (eS (callF fns K85.G Wf k) K85.G Wf b__law_sum [gD W H c, gD W H d, .und, .und, .und, .und] h) = _
  have e : eS (callF fns K85.G Wf k) K85.G Wf b__law_sum [gD W H c, gD W H d, .und, .und, .und, .und] h = .ok (.ret (gD W H fun y x => c y x + d y x)) h := by
    unfold b__law_sum
    rw [eS_cons, eS_ret, bl1, eE_lc]
    show R.bind (R.bind (R.bind (R.bind (compL (turnL (callF fns K85.G Wf k) K85.G (.tup (.cons (.var 2) (.cons (.var 3) .nil))) (.con (.bl true)) sEl [gD W H c, gD W H d, .und, .und, .und, .und]) [] (zipD ((List.range H).map fun y => D.tup (row W (c y))) ((List.range H).map fun y => D.tup (row W (d y)))) h) _) _) _) _ = _
    rw [zip_map, compL_pure (g := zs W) fun x hx => by
      rw [List.mem_map] at hx
      obtain ⟨y, _, rfl⟩ := hx
      unfold turnL
      show (((eE (callF fns K85.G Wf k) K85.G (.con (.bl true)) _ h).bind tru).calm.bind _) = _
      rw [eE_con, bind_ok, tru1]
      show (if true = true then (eE (callF fns K85.G Wf k) K85.G sEl [gD W H c, gD W H d, .tup (row W (c y)), .tup (row W (d y)), .und, .und] h).calm.bind fun y h => R.ok (some y) h else .ok none h) = _
      rw [if_pos rfl, sEl_ok hW, zs_row]
      rfl]
    rw [bind_ok, List.map_map]
    unfold newL
    rw [if_pos (by rw [List.length_map, List.length_range]; exact Nat.le_trans hH (by decide)), if_pos rfl, bind_ok]
    show R.ok (Fl.ret (D.tup ((List.range H).map _))) h = R.ok (Fl.ret (D.tup ((List.range H).map fun y => D.tup (row W fun x => c y x + d y x)))) h
    congr 3
    apply List.map_congr_left
    intro y _
    exact zs_row
  rw [e]
  exact back_any rfl
end K85
namespace DR
open MP
variable {Φ : Nat → List D → Heap → R D} {G : List D} {W : Nat} {env env' : Env} {h h1 : Heap} {d : D} {r : S}
theorem nxtc {s : S} (e1 : eS Φ G W s env h = .ok (.nxt env') h1) : eS Φ G W (.cons s r) env h = eS Φ G W r env' h1 := by rw [eS_cons, e1, bind_ok]
theorem asgc {t e : E} (e1 : eE Φ G e env h = .ok d h1) (e2 : setT Φ G t d env h1 = .ok env' h1) : eS Φ G W (.cons (.asg t e) r) env h = eS Φ G W r env' h1 :=
  nxtc (by rw [eS_asg, e1, bind_ok, e2, bind_ok])
theorem expc {e : E} (e1 : eE Φ G e env h = .ok d h1) : eS Φ G W (.cons (.exp e) r) env h = eS Φ G W r env h1 :=
  nxtc (by rw [eS_exp, e1, bind_ok])
theorem retc {e : E} (e1 : eE Φ G e env h = .ok d h1) : eS Φ G W (.cons (.ret e) r) env h = .ok (.ret d) h1 := by rw [eS_cons, eS_ret, e1, bind_ok, bind_ok]
theorem itef {c : E} {a : S} (e1 : eE Φ G c env h = .ok (.bl false) h1) : eS Φ G W (.cons (.ite c a .nil) r) env h = eS Φ G W r env h1 :=
  nxtc (by rw [eS_ite, e1, bind_ok, tru1, bind_ok]; rfl)
theorem itet {c : E} {a b : S} (e1 : eE Φ G c env h = .ok (.bl true) h1) {f : Fl} {h2 : Heap} (e2 : eS Φ G W a env h1 = .ok f h2) : eS Φ G W (.ite c a b) env h = .ok f h2 := by
  rw [eS_ite, e1, bind_ok, tru1, bind_ok, if_pos rfl, e2]
theorem iteff {c : E} {a b : S} (e1 : eE Φ G c env h = .ok (.bl false) h1) {f : Fl} {h2 : Heap} (e2 : eS Φ G W b env h1 = .ok f h2) : eS Φ G W (.ite c a b) env h = .ok f h2 := by
  rw [eS_ite, e1, bind_ok, tru1, bind_ok, if_neg (by decide), e2]
/-- arguments -/
theorem ar0 : eE Φ G .nil env h = .ok (.tup []) h := rfl
theorem ar1 {a : E} (e1 : eE Φ G a env h = .ok d h1) : eE Φ G (.cons a .nil) env h = .ok (.tup [d]) h1 := by rw [eE_cons, e1, bind_ok]; rfl
theorem arc {a r : E} {ds : List D} {h2 : Heap} (e1 : eE Φ G a env h = .ok d h1) (e2 : eE Φ G r env h1 = .ok (.tup ds) h2) : eE Φ G (.cons a r) env h = .ok (.tup (d :: ds)) h2 := by rw [eE_cons, e1, bind_ok, e2]; rfl
theorem callc {f : Nat} {es : E} {ds : List D} {x : D} {h2 : Heap} (e1 : eE Φ G es env h = .ok (.tup ds) h1) (e2 : Φ f ds h1 = .ok x h2) : eE Φ G (.call f es) env h = .ok x h2 := by rw [eE_call, e1, bind_ok]; exact e2
theorem bltc {f : Blt} {es : E} {ds : List D} {x : D} {h2 : Heap} (e1 : eE Φ G es env h = .ok (.tup ds) h1) (e2 : opF f ds h1 = .ok x h2) : eE Φ G (.blt f es) env h = .ok x h2 := by rw [eE_blt, e1, bind_ok]; exact e2
theorem idxc {a b : E} {x y z : D} {h2 : Heap} (e1 : eE Φ G a env h = .ok x h1) (e2 : eE Φ G b env h1 = .ok y h2) (e3 : opI x y h2 = some z) : eE Φ G (.idx a b) env h = .ok z h2 := by rw [eE_idx, e1, bind_ok, e2, bind_ok, e3, opt1]
theorem cmpc {o : COp} {a b : E} {x y : D} {k : Bool} {h2 : Heap} (e1 : eE Φ G a env h = .ok x h1) (e2 : eE Φ G b env h1 = .ok y h2) (e3 : opC o x y h2 = some k) : eE Φ G (.cmp o a b) env h = .ok (.bl k) h2 := by rw [eE_cmp, e1, bind_ok, e2, bind_ok, e3, opt1, bind_ok]
theorem binc {o : BOp} {a b : E} {x y : D} {h2 : Heap} {z : D} {h3 : Heap} (e1 : eE Φ G a env h = .ok x h1) (e2 : eE Φ G b env h1 = .ok y h2) (e3 : opB o x y h2 = .ok z h3) : eE Φ G (.bin o a b) env h = .ok z h3 := by rw [eE_bin, e1, bind_ok, e2, bind_ok, e3]
theorem or2f {a r : E} {x : D} {h2 : Heap} (e1 : eE Φ G a env h = .ok (.bl false) h1) (e2 : eE Φ G r env h1 = .ok x h2) : eE Φ G (.or2 a r) env h = .ok x h2 := by rw [eE_or2, e1, bind_ok, tru1, bind_ok, if_neg (by decide), e2]
theorem or2t {a r : E} (e1 : eE Φ G a env h = .ok (.bl true) h1) : eE Φ G (.or2 a r) env h = .ok (.bl true) h1 := by rw [eE_or2, e1, bind_ok, tru1, bind_ok, if_pos rfl]
theorem and2t {a r : E} {x : D} {h2 : Heap} (e1 : eE Φ G a env h = .ok (.bl true) h1) (e2 : eE Φ G r env h1 = .ok x h2) : eE Φ G (.and2 a r) env h = .ok x h2 := by rw [eE_and2, e1, bind_ok, tru1, bind_ok, if_pos rfl, e2]
theorem and2f {a r : E} (e1 : eE Φ G a env h = .ok (.bl false) h1) : eE Φ G (.and2 a r) env h = .ok (.bl false) h1 := by rw [eE_and2, e1, bind_ok, tru1, bind_ok, if_neg (by decide)]
theorem onec {a : E} {x : D} {h2 : Heap} (e1 : eE Φ G a env h = .ok x h2) : eE Φ G (.one a) env h = .ok x h2 := by rw [eE_one, e1]
end DR
namespace K85
open MP Sand DR
variable {Wf k : Nat} {W H : Nat} {h : Heap}
/-! ### _law_burnt -/
def bEl : E := (.bin (.add true) (.bin (.add true) (.bin (.add true) (.bin (.add true) (.idx (.idx (.var 2) (.var 4)) (.var 6)) (.cmp .eq (.var 6) (.con (.int 0)))) (.cmp .eq (.var 6) (.bin .sub (.var 0) (.con (.int 1))))) (.cmp .eq (.var 4) (.con (.int 0)))) (.cmp .eq (.var 4) (.bin .sub (.var 1) (.con (.int 1)))))
def bIn : S := (.cons (.exp (.mth .append (.var 5) (.cons bEl .nil))) .nil)
def bRow : S := (.cons (.asg (.var 5) (.lst false .nil))
 (.cons (.for (.var 6) .rng (.cons (.var 0) .nil) bIn)
 (.cons (.exp (.mth .append (.var 3) (.cons (.blt .tuple (.cons (.var 5) .nil)) .nil)))
 .nil)))
/-- sides on the border -/
def bd (W H : Nat) : Cf := fun y x => 4 - nb W H (fun _ _ => 1) y x
theorem add2 (x : Int) (k : Bool) (h : Heap) : opB (.add true) (.int x) (.bl k) h = .ok (.int (x + b2i k)) h := rfl
theorem eqI (x y : Int) (h : Heap) : opC .eq (.int x) (.int y) h = some (x == y) := rfl
theorem u0 {Φ : Nat → List D → Heap → R D} {GG : List D} (i : Int) (r : Env) (h : Heap) : eE Φ GG (.var 0) (.int i :: r) h = .ok (.int i) h := rfl
theorem u1 {Φ : Nat → List D → Heap → R D} {GG : List D} (a : D) (i : Int) (r : Env) (h : Heap) : eE Φ GG (.var 1) (a :: .int i :: r) h = .ok (.int i) h := rfl
theorem u2 {Φ : Nat → List D → Heap → R D} {GG : List D} (a b : D) (i : List D) (r : Env) (h : Heap) : eE Φ GG (.var 2) (a :: b :: .tup i :: r) h = .ok (.tup i) h := rfl
theorem u4 {Φ : Nat → List D → Heap → R D} {GG : List D} (a b c d : D) (i : Int) (r : Env) (h : Heap) : eE Φ GG (.var 4) (a :: b :: c :: d :: .int i :: r) h = .ok (.int i) h := rfl
theorem u5 {Φ : Nat → List D → Heap → R D} {GG : List D} (a b c d e : D) (i : Nat) (r : Env) (h : Heap) : eE Φ GG (.var 5) (a :: b :: c :: d :: e :: .ref i :: r) h = .ok (.ref i) h := rfl
theorem u6 {Φ : Nat → List D → Heap → R D} {GG : List D} (a b c d e f : D) (i : Int) (r : Env) (h : Heap) : eE Φ GG (.var 6) (a :: b :: c :: d :: e :: f :: .int i :: r) h = .ok (.int i) h := rfl
theorem opI_tup (xs : List D) (i : Int) (h : Heap) : opI (.tup xs) (.int i) h = atI xs i := rfl
theorem gD_row {c : Cf} {y : Nat} (hy : y < H) : opI (gD W H c) (.int (y : Int)) h = some (.tup (row W (c y))) := by
  unfold gD
  rw [opI_tup]
  exact atI_map (fun y => D.tup (row W (c y))) hy
theorem gD_cell {c : Cf} {y x : Nat} (hx : x < W) : opI (.tup (row W (c y))) (.int (x : Int)) h = some (.int (c y x)) := by
  rw [opI_tup]
  exact atI_map (fun x => D.int (c y x)) hx
theorem bd_eq {c : Cf} {y x : Nat} (hy : y < H) (hx : x < W) : c y x + b2i ((x : Int) == 0) + b2i ((x : Int) == (W : Int) - 1) + b2i ((y : Int) == 0) + b2i ((y : Int) == (H : Int) - 1) = c y x + bd W H y x := by
  have e : ∀ a b : Int, b2i (a == b) = if a = b then 1 else 0 := fun a b => by
    by_cases q : a = b
    · subst q; simp [b2i]
    · rw [if_neg q, beq_false_of_ne q]; rfl
  unfold bd nb
  rw [e, e, e, e]
  dsimp only
  split <;> split <;> split <;> split <;> split <;> split <;> split <;> split <;> omega
theorem bEl_ok {Φ : Nat → List D → Heap → R D} {GG : List D} {c : Cf} {y x : Nat} (hy : y < H) (hx : x < W) {d3 d5 : D} :
    eE Φ GG bEl [.int (W : Int), .int (H : Int), gD W H c, d3, .int (y : Int), d5, .int (x : Int)] h = .ok (.int (c y x + bd W H y x)) h := by
  have g2 : eE Φ GG (.var 2) [.int (W : Int), .int (H : Int), gD W H c, d3, .int (y : Int), d5, .int (x : Int)] h = .ok (gD W H c) h := rfl
  unfold bEl
  simp only [eE_bin, eE_idx, eE_cmp, eE_con, g2, u0, u1, u4, u6, bind_ok, gD_row hy, opt1, gD_cell hx, eqI, add2, sub1, bd_eq hy hx]
def hRow (n : Nat) (f : Nat → Int) : List D := (List.range n).map fun x => .int (f x)
theorem hRow_succ (n : Nat) (f : Nat → Int) : hRow n f ++ [.int (f n)] = hRow (n + 1) f := by
  unfold hRow; rw [List.range_succ, List.map_append]; rfl
theorem app_ok {n : Nat} {xs : List D} (e : h[n]? = some (.lst xs)) (hl : xs.length < SZ) (d : D) : opM .append (.ref n) [d] h = .ok .non (h.set n (.lst (xs ++ [d]))) := by
  unfold opM
  simp only [e, hl, if_true]
  rfl
theorem isL_ref {n : Nat} {xs : List D} (e : h[n]? = some (.lst xs)) : isL h (.ref n) = some () := by
  unfold isL
  simp only [e]
theorem bIn_for {Φ : Nat → List D → Heap → R D} {GG : List D} (hW : W ≤ 6) {c : Cf} {y r : Nat} (hy : y < H) {d3 : D} : ∀ (n s : Nat), s + n = W → ∀ {h : Heap} {d6 : D}, h[r]? = some (.lst (hRow s fun x => c y x + bd W H y x)) →
    ∃ d6', forL (fun x env h => R.opt h (bindT (.var 6) x env)) (fun env h => eS Φ GG Wf bIn env h) [] ((List.range' s n).map fun (x : Nat) => D.int (x : Int)) [.int (W : Int), .int (H : Int), gD W H c, d3, .int (y : Int), .ref r, d6] h = .ok (.nxt [.int (W : Int), .int (H : Int), gD W H c, d3, .int (y : Int), .ref r, d6']) (h.set r (.lst (row W fun x => c y x + bd W H y x)))
  | 0, s, e, h, d6, hr => ⟨d6, by
      have : s = W := by omega
      subst this
      have es : h.set r (.lst (row s fun x => c y x + bd s H y x)) = h := by
        have hl : r < h.length := (List.getElem?_eq_some_iff.mp hr).1
        have hv := (List.getElem?_eq_some_iff.mp hr).2
        show h.set r (.lst (hRow s fun x => c y x + bd s H y x)) = h
        rw [← hv, List.set_getElem_self]
      rw [es]
      exact forL0⟩
  | n + 1, s, e, h, d6, hr => by
    have hx : s < W := by omega
    have hl : r < h.length := (List.getElem?_eq_some_iff.mp hr).1
    obtain ⟨d6', e'⟩ := bIn_for (Φ := Φ) (GG := GG) hW (c := c) (d3 := d3) hy n (s + 1) (by omega) (h := h.set r (.lst (hRow (s + 1) fun x => c y x + bd W H y x))) (d6 := .int (s : Int)) (by rw [List.getElem?_set_self hl])
    refine ⟨d6', ?_⟩
    rw [List.range'_succ, List.map_cons, forL1 (env1 := [.int (W : Int), .int (H : Int), gD W H c, d3, .int (y : Int), .ref r, .int (s : Int)]) (by rfl) (env2 := [.int (W : Int), .int (H : Int), gD W H c, d3, .int (y : Int), .ref r, .int (s : Int)]) (h1 := h.set r (.lst (hRow (s + 1) fun x => c y x + bd W H y x))), e', List.set_set]
    unfold bIn
    rw [eS_cons, eS_exp, eE_mth, u5, bind_ok, isL_ref hr, opt1, bind_ok, eE_cons, bEl_ok hy hx, bind_ok, eE_nil, bind_ok, bind_ok]
    show R.bind (R.bind (opM .append (.ref r) [.int (c y s + bd W H y s)] h) _) _ = _
    rw [app_ok hr (by unfold hRow; rw [List.length_map, List.length_range]; exact Nat.lt_of_lt_of_le hx (Nat.le_trans hW (by decide))), bind_ok, bind_ok, hRow_succ s fun x => c y x + bd W H y x]
    rfl
theorem forEg {Φ : Nat → List D → Heap → R D} {GG : List D} {tg ia : E} {b : S} {env : Env} {h : Heap} {n : Nat} (hn : n ≤ 6) (e : eE Φ GG ia env h = .ok (.tup [.int (n : Int)]) h) : eS Φ GG Wf (.for tg .rng ia b) env h = forL (fun x env h => R.opt h (bindT tg x env)) (fun env h => eS Φ GG Wf b env h) [] ((List.range n).map fun (x : Nat) => D.int (x : Int)) env h := by
  rw [eS_for, e, bind_ok]
  have : iterOf .rng (args (.tup [.int (n : Int)])) h = _ := rng_it hn h
  rw [this]
/-- heap while the rows are made -/
theorem bRows {Φ : Nat → List D → Heap → R D} (hW : W ≤ 6) (hH : H ≤ 6) {c : Cf} {h0 : Heap} {n0 : Nat} (hn0 : h0.length = n0) : ∀ (n s : Nat), s + n = H → ∀ (t : Heap) {d4 d5 d6 : D},
    ∃ t' d4' d5' d6', forL (fun x env h => R.opt h (bindT (.var 4) x env)) (fun env h => eS Φ K85.G Wf bRow env h) [] ((List.range' s n).map fun (x : Nat) => D.int (x : Int)) [.int (W : Int), .int (H : Int), gD W H c, .ref n0, d4, d5, d6] (h0 ++ Ob.lst ((List.range s).map fun y => .tup (row W fun x => c y x + bd W H y x)) :: t) = .ok (.nxt [.int (W : Int), .int (H : Int), gD W H c, .ref n0, d4', d5', d6']) (h0 ++ Ob.lst ((List.range H).map fun y => .tup (row W fun x => c y x + bd W H y x)) :: t')
  | 0, s, e, t, d4, d5, d6 => ⟨t, d4, d5, d6, by
      have : s = H := by omega
      subst this
      exact forL0⟩
  | n + 1, s, e, t, d4, d5, d6 => by
    have hy : s < H := by omega
    generalize hh : h0 ++ Ob.lst ((List.range s).map fun y => .tup (row W fun x => c y x + bd W H y x)) :: t = h
    have hlen : h.length = n0 + 1 + t.length := by rw [← hh, List.length_append, List.length_cons, hn0]; omega
    obtain ⟨d6', e1⟩ := bIn_for (Φ := Φ) (GG := K85.G) (Wf := Wf) hW (c := c) (d3 := .ref n0) (r := h.length) hy W 0 (by omega) (h := h ++ [Ob.lst []]) (d6 := d6) (by rw [List.getElem?_append_right (Nat.le_refl _), Nat.sub_self]; rfl)
    obtain ⟨t', d4', d5', d6'', e2⟩ := bRows (Φ := Φ) hW hH hn0 (c := c) n (s + 1) (by omega) (t ++ [Ob.lst (row W fun x => c s x + bd W H s x)]) (d4 := .int (s : Int)) (d5 := .ref h.length) (d6 := d6')
    refine ⟨t', d4', d5', d6'', ?_⟩
    have es : (h ++ [Ob.lst []]).set h.length (Ob.lst (row W fun x => c s x + bd W H s x)) = h ++ [Ob.lst (row W fun x => c s x + bd W H s x)] := by
      rw [List.set_append_right _ _ (Nat.le_refl _), Nat.sub_self]; rfl
    have eo : (h ++ [Ob.lst (row W fun x => c s x + bd W H s x)])[n0]? = some (Ob.lst ((List.range s).map fun y => .tup (row W fun x => c y x + bd W H y x))) := by
      rw [List.getElem?_append_left (by omega), ← hh, ← hn0, List.getElem?_append_right (Nat.le_refl _), Nat.sub_self]; rfl
    have er : (h ++ [Ob.lst (row W fun x => c s x + bd W H s x)])[h.length]? = some (Ob.lst (row W fun x => c s x + bd W H s x)) := by
      rw [List.getElem?_append_right (Nat.le_refl _), Nat.sub_self]; rfl
    have ef : (h ++ [Ob.lst (row W fun x => c s x + bd W H s x)]).set n0 (Ob.lst ((List.range (s + 1)).map fun y => .tup (row W fun x => c y x + bd W H y x))) = h0 ++ Ob.lst ((List.range (s + 1)).map fun y => .tup (row W fun x => c y x + bd W H y x)) :: (t ++ [Ob.lst (row W fun x => c s x + bd W H s x)]) := by
      rw [← hh, ← hn0, List.append_assoc, List.set_append_right _ _ (Nat.le_refl _), Nat.sub_self]; rfl
    rw [List.range'_succ, List.map_cons, forL1 (env1 := [.int (W : Int), .int (H : Int), gD W H c, .ref n0, .int (s : Int), d5, d6]) (by rfl) (env2 := [.int (W : Int), .int (H : Int), gD W H c, .ref n0, .int (s : Int), .ref h.length, d6']) (h1 := h0 ++ Ob.lst ((List.range (s + 1)).map fun y => .tup (row W fun x => c y x + bd W H y x)) :: (t ++ [Ob.lst (row W fun x => c s x + bd W H s x)])), e2]
    unfold bRow
    rw [asgc (env' := [.int (W : Int), .int (H : Int), gD W H c, .ref n0, .int (s : Int), .ref h.length, d6]) (d := .ref h.length) (h1 := h ++ [Ob.lst []]) (by rw [eE_lst, eE_nil, bind_ok]; rfl) rfl]
    have e1' := e1
    rw [← range_eq] at e1'
    rw [eS_cons, forEg hW (by rw [eE_cons, u0, bind_ok, eE_nil, bind_ok]; rfl), e1', bind_ok, es]
    show eS Φ K85.G Wf (.cons (.exp (.mth .append (.var 3) (.cons (.blt .tuple (.cons (.var 5) .nil)) .nil))) .nil) [.int (W : Int), .int (H : Int), gD W H c, .ref n0, .int (s : Int), .ref h.length, d6'] _ = _
    have g3 : ∀ hh, eE Φ K85.G (.var 3) [.int (W : Int), .int (H : Int), gD W H c, .ref n0, .int (s : Int), .ref h.length, d6'] hh = .ok (.ref n0) hh := fun _ => rfl
    rw [eS_cons, eS_exp, eE_mth, g3, bind_ok, isL_ref eo, opt1, bind_ok, eE_cons, bl1, u5, bind_ok]
    have et : opF .tuple [.ref h.length] (h ++ [Ob.lst (row W fun x => c s x + bd W H s x)]) = .ok (.tup (row W fun x => c s x + bd W H s x)) (h ++ [Ob.lst (row W fun x => c s x + bd W H s x)]) := by
      show ((R.opt _ (items _ (.ref h.length))).bind fun ys h => R.ok (D.tup ys) h) = _
      have : items (h ++ [Ob.lst (row W fun x => c s x + bd W H s x)]) (.ref h.length) = some (row W fun x => c s x + bd W H s x) := by unfold items; simp only [er]
      rw [this]
      rfl
    rw [et, bind_ok, eE_nil, bind_ok, bind_ok]
    show R.bind (R.bind (opM .append (.ref n0) [.tup (row W fun x => c s x + bd W H s x)] _) _) _ = _
    rw [app_ok eo (by rw [List.length_map, List.length_range]; exact Nat.lt_of_lt_of_le hy (Nat.le_trans hH (by decide))), bind_ok, bind_ok]
    have el : (List.range s).map (fun y => D.tup (row W fun x => c y x + bd W H y x)) ++ [.tup (row W fun x => c s x + bd W H s x)] = (List.range (s + 1)).map (fun y => D.tup (row W fun x => c y x + bd W H y x)) := by
      rw [List.range_succ, List.map_append]; rfl
    rw [el, ef]
    rfl
theorem burnt_call (hW : W ≤ 6) (hH : H ≤ 6) {c : Cf} (hl : h.all (Ob.low h.length) = true) : callF fns K85.G Wf (k + 1) 14 [.int (W : Int), .int (H : Int), gD W H c] h = .ok (gD W H fun y x => c y x + bd W H y x) h := by
  rw [call_eq (show fns[14]? = some d__law_burnt from rfl) rfl]
  show MP.back h.length (eS (callF fns K85.G Wf k) K85.G Wf b__law_burnt [.int (W : Int), .int (H : Int), gD W H c, .und, .und, .und, .und] h) = _
  obtain ⟨t', d4, d5, d6, e⟩ := bRows (Φ := callF fns K85.G Wf k) (Wf := Wf) hW hH (h0 := h) rfl (c := c) H 0 (by omega) [] (d4 := .und) (d5 := .und) (d6 := .und)
  have eb : eS (callF fns K85.G Wf k) K85.G Wf b__law_burnt [.int (W : Int), .int (H : Int), gD W H c, .und, .und, .und, .und] h = .ok (.ret (gD W H fun y x => c y x + bd W H y x)) (h ++ Ob.lst ((List.range H).map fun y => .tup (row W fun x => c y x + bd W H y x)) :: t') := by
    rw [show b__law_burnt = .cons (.asg (.var 3) (.lst false .nil)) (.cons (.for (.var 4) .rng (.cons (.var 1) .nil) bRow) (.cons (.ret (.blt .tuple (.cons (.var 3) .nil))) .nil)) from rfl]
    rw [asgc (env' := [.int (W : Int), .int (H : Int), gD W H c, .ref h.length, .und, .und, .und]) (d := .ref h.length) (h1 := h ++ [Ob.lst []]) (by rw [eE_lst, eE_nil, bind_ok]; rfl) rfl]
    rw [← range_eq] at e
    rw [eS_cons, forEg hH (by rw [eE_cons, u1, bind_ok, eE_nil, bind_ok]; rfl)]
    have e' : forL (fun x env h => R.opt h (bindT (.var 4) x env)) (fun env h => eS (callF fns K85.G Wf k) K85.G Wf bRow env h) [] ((List.range H).map fun (x : Nat) => D.int (x : Int)) [.int (W : Int), .int (H : Int), gD W H c, .ref h.length, .und, .und, .und] (h ++ [Ob.lst []]) = _ := e
    rw [e', bind_ok]
    show eS (callF fns K85.G Wf k) K85.G Wf (.cons (.ret (.blt .tuple (.cons (.var 3) .nil))) .nil) [.int (W : Int), .int (H : Int), gD W H c, .ref h.length, d4, d5, d6] _ = _
    have g3 : ∀ hh, eE (callF fns K85.G Wf k) K85.G (.var 3) [.int (W : Int), .int (H : Int), gD W H c, .ref h.length, d4, d5, d6] hh = .ok (.ref h.length) hh := fun _ => rfl
    rw [eS_cons, eS_ret, bl1, g3, bind_ok]
    show R.bind (R.bind (R.bind (R.opt _ (items _ (.ref h.length))) fun ys h => R.ok (D.tup ys) h) _) _ = _
    have : items (h ++ Ob.lst ((List.range H).map fun y => .tup (row W fun x => c y x + bd W H y x)) :: t') (.ref h.length) = some ((List.range H).map fun y => .tup (row W fun x => c y x + bd W H y x)) := by
      have q : (h ++ Ob.lst ((List.range H).map fun y => .tup (row W fun x => c y x + bd W H y x)) :: t')[h.length]? = some (Ob.lst ((List.range H).map fun y => .tup (row W fun x => c y x + bd W H y x))) := by
        rw [List.getElem?_append_right (Nat.le_refl _), Nat.sub_self]; rfl
      unfold items
      simp only [q]
    rw [this]
    rfl
  rw [eb]
  exact back_low rfl (by rw [List.take_left']; rfl) (gD_low _) hl
end K85
namespace DR
open MP
variable {Φ : Nat → List D → Heap → R D} {G : List D} {W : Nat} {env env' : Env} {h h1 : Heap} {d : D} {r : S}
theorem compL_map {α : Type} {F : D → Heap → R (Option D)} {f g : α → D} : ∀ {L : List α}, (∀ i ∈ L, F (f i) h = .ok (some (g i)) h) → compL F [] (L.map f) h = .ok (L.map g) h
  | [], _ => by
    show (if gdOk h [] = true then R.ok [] h else .bad) = _
    rw [if_pos (show gdOk h [] = true from rfl)]
    rfl
  | x :: xs, e => by
    show (if gdOk h [] = true then _ else _) = _
    rw [if_pos (show gdOk h [] = true from rfl), e x (by simp), bind_ok, compL_map fun y hy => e y (by simp [hy]), bind_ok]
    rfl
theorem turnT {tg el : E} {x y : D} {h1 : Heap} (b : bindT tg x env = some env') (e : eE Φ G el env' h = .ok y h1) : turnL Φ G tg (.con (.bl true)) el env x h = .ok (some y) h1 := by
  unfold turnL
  rw [b]
  show (((eE Φ G (.con (.bl true)) env' h).bind tru).calm.bind _) = _
  rw [eE_con, bind_ok, tru1]
  show (if true = true then (eE Φ G el env' h).calm.bind fun y h => R.ok (some y) h else .ok none h) = _
  rw [if_pos rfl, e]
  rfl
theorem lcmap {α : Type} {tg ia el : E} {k : ItK} {ds : List D} {L : List α} {f g : α → D} (e1 : eE Φ G ia env h = .ok (.tup ds) h) (e2 : iterOf k ds h = some (L.map f, []))
    (he : ∀ i ∈ L, turnL Φ G tg (.con (.bl true)) el (clr env (tgI tg)) (f i) h = .ok (some (g i)) h) (hn : L.length ≤ SZ) : eE Φ G (.lc true tg k ia (.con (.bl true)) el) env h = .ok (.lst (L.map g)) h := by
  rw [eE_lc, e1, bind_ok]
  have e2' : iterOf k (args (.tup ds)) h = some (L.map f, []) := e2
  rw [e2']
  show R.bind (compL (turnL Φ G tg (.con (.bl true)) el (clr env (tgI tg))) [] (L.map f) h) _ = _
  rw [compL_map he, bind_ok]
  unfold newL
  rw [if_pos (by rw [List.length_map]; exact hn), if_pos rfl]
theorem tuplst (xs : List D) (h : Heap) : opF .tuple [.lst xs] h = .ok (.tup xs) h := rfl
theorem revt (imm : Bool) {a : E} {xs : List D} (e : eE Φ G a env h = .ok (.tup xs) h1) : eE Φ G (.rev imm a) env h = .ok (.tup xs.reverse) h1 := by
  rw [eE_rev, e, bind_ok]; rfl
/-! equality of plain data -/
theorem eqvs_map {α : Type} {f : α → D} : ∀ {L : List α}, (∀ i ∈ L, D.eqv (f i) (f i) = true) → D.eqvs (L.map f) (L.map f) = true
  | [], _ => by rw [List.map_nil, D.eqvs]
  | x :: xs, e => by rw [List.map_cons, D.eqvs, e x (by simp), eqvs_map fun y hy => e y (by simp [hy])]; rfl
theorem flats_map {α : Type} {n : Nat} {f : α → D} : ∀ {L : List α}, (∀ i ∈ L, D.flat n (f i) = true) → D.flats (n + 1) (L.map f) = true
  | [], _ => by rw [List.map_nil, D.flats]
  | x :: xs, e => by rw [List.map_cons, D.flats, e x (by simp), flats_map fun y hy => e y (by simp [hy])]; rfl
theorem eqD_flat {a b : D} (ha : a.flat DEEP = true) (hb : b.flat DEEP = true) : eqD h a b = some (D.eqv a b) := by
  unfold eqD rsvD
  rw [if_pos ha, if_pos hb]
  rfl
/-! a closed call's answer over the hidden heap -/
mutual
def deq : D → D → Bool
  | .int i, .int j => decide (i = j)
  | .bl i, .bl j => i == j
  | .tup xs, .tup ys => deqs xs ys
  | _, _ => false
def deqs : List D → List D → Bool
  | [], [] => true
  | x :: xs, y :: ys => deq x y && deqs xs ys
  | _, _ => false
end
mutual
theorem deq_eq : ∀ {a b : D}, deq a b = true → a = b
  | a, b, e => by
    unfold deq at e
    split at e
    · rw [of_decide_eq_true e]
    · rw [beq_iff_eq.mp e]
    · rw [deqs_eq e]
    · cases e
theorem deqs_eq : ∀ {a b : List D}, deqs a b = true → a = b
  | [], [], _ => rfl
  | x :: xs, y :: ys, e => by
    unfold deqs at e
    rw [Bool.and_eq_true] at e
    rw [deq_eq e.1, deqs_eq e.2]
  | [], _ :: _, e => by unfold deqs at e; cases e
  | _ :: _, [], e => by unfold deqs at e; cases e
end
def isR (r : R D) (d : D) : Bool := match r with
  | .ok x [.hid] => deq x d
  | _ => false
theorem isR_eq {r : R D} {d : D} (e : isR r d = true) : r = .ok d [.hid] := by
  unfold isR at e
  split at e
  · rw [deq_eq e]
  · cases e
end DR
namespace K85
open MP Sand DR HD
/-! ### what depends on the size alone -/
def cfl (l : List (List Int)) : Cf := fun y x => (l.getD y []).getD x 0
def allG (W H : Nat) (p : Nat → Nat → Bool) : Bool := (List.range H).all fun y => (List.range W).all fun x => p y x
theorem allG_on {W H : Nat} {p : Nat → Nat → Bool} (e : allG W H p = true) : On W H fun y x => p y x = true := fun y x hy hx => by
  unfold allG at e
  rw [List.all_eq_true] at e
  have := e y (List.mem_range.mpr hy)
  rw [List.all_eq_true] at this
  exact this x (List.mem_range.mpr hx)
def s0 (W : Nat) : Cf := fun _ x => 4 * ((x : Int) + 1) * ((W : Int) - (x : Int))
def run (f : Nat) (ds : List D) : R D := callF fns K85.G 5000 11 f ds [.hid]
def fal (W H : Nat) (c r t : Cf) : Bool := isR (run 8 [tray W H c]) (.tup [gD W H r, gD W H t])
def chk (W H : Nat) (told rest t6 td ts w : Cf) : Bool :=
  isR (run 9 [.int (W : Int), .int (H : Int)]) (gD W H told) && isR (run 9 [.int (H : Int), .int (W : Int)]) (gD H W fun y x => told x y) && isR (run 9 [.int 1, .int 1]) (.tup [.tup [.int 0]])
  && isR (run 13 [.int (W : Int), .int (H : Int), .int 6]) (gD W H fun _ _ => 6) && isR (run 13 [.int (W : Int), .int (H : Int), .int 3]) (gD W H fun _ _ => 3) && isR (run 13 [.int (W : Int), .int (H : Int), .int 1]) (gD W H fun _ _ => 1)
  && fal W H (fun _ _ => 6) rest t6 && fal W H (fun y x => 6 - rest y x) told td && fal W H (fun y x => told y x + told y x) told ts
  && fal W H (fun y x => told y x + bd W H y x) told (fun _ _ => 1) && fal W H (fun y x => 3 + bd W H y x) (fun _ _ => 3) (fun _ _ => 1) && fal W H (fun y x => 3 + told y x) (fun _ _ => 3) w
  && allG W H (fun y x => decide (0 ≤ told y x) && decide (told y x ≤ 3)) && allG W H (fun y x => decide (told y (W - 1 - x) = told y x)) && allG W H (fun y x => decide (told (H - 1 - y) x = told y x))
  && allG W H (fun y x => decide (0 ≤ s0 W y x) && decide (aft W H (fun _ _ => 10) (s0 W) y x ≤ 3)) && decide (S2 W H (s0 W) ≤ 4998)
  && decide (1 ≤ W) && decide (W ≤ 4) && decide (1 ≤ H) && decide (H ≤ 4)
structure Fx (W H : Nat) where
  told : Cf
  rest : Cf
  t6 : Cf
  td : Cf
  ts : Cf
  w : Cf
  ok : chk W H told rest t6 td ts w = true
def fx11 : Fx 1 1 := ⟨cfl [[0]], cfl [[2]], cfl [[1]], cfl [[1]], cfl [[0]], cfl [[0]], by decide +kernel⟩
def fx12 : Fx 1 2 := ⟨cfl [[3], [3]], cfl [[3], [3]], cfl [[1], [1]], cfl [[0], [0]], cfl [[1], [1]], cfl [[1], [1]], by decide +kernel⟩
def fx13 : Fx 1 3 := ⟨cfl [[3], [2], [3]], cfl [[0], [2], [0]], cfl [[2], [2], [2]], cfl [[1], [1], [1]], cfl [[1], [1], [1]], cfl [[1], [1], [1]], by decide +kernel⟩
def fx14 : Fx 1 4 := ⟨cfl [[3], [2], [2], [3]], cfl [[0], [2], [2], [0]], cfl [[2], [2], [2], [2]], cfl [[1], [1], [1], [1]], cfl [[1], [1], [1], [1]], cfl [[1], [1], [1], [1]], by decide +kernel⟩
def fx21 : Fx 2 1 := ⟨cfl [[3, 3]], cfl [[3, 3]], cfl [[1, 1]], cfl [[0, 0]], cfl [[1, 1]], cfl [[1, 1]], by decide +kernel⟩
def fx22 : Fx 2 2 := ⟨cfl [[2, 2], [2, 2]], cfl [[2, 2], [2, 2]], cfl [[2, 2], [2, 2]], cfl [[1, 1], [1, 1]], cfl [[1, 1], [1, 1]], cfl [[1, 1], [1, 1]], by decide +kernel⟩
def fx23 : Fx 2 3 := ⟨cfl [[2, 2], [1, 1], [2, 2]], cfl [[3, 3], [1, 1], [3, 3]], cfl [[2, 2], [3, 3], [2, 2]], cfl [[1, 1], [2, 2], [1, 1]], cfl [[1, 1], [1, 1], [1, 1]], cfl [[1, 1], [1, 1], [1, 1]], by decide +kernel⟩
def fx24 : Fx 2 4 := ⟨cfl [[1, 1], [3, 3], [3, 3], [1, 1]], cfl [[3, 3], [2, 2], [2, 2], [3, 3]], cfl [[2, 2], [3, 3], [3, 3], [2, 2]], cfl [[1, 1], [1, 1], [1, 1], [1, 1]], cfl [[1, 1], [2, 2], [2, 2], [1, 1]], cfl [[1, 1], [2, 2], [2, 2], [1, 1]], by decide +kernel⟩
def fx31 : Fx 3 1 := ⟨cfl [[3, 2, 3]], cfl [[0, 2, 0]], cfl [[2, 2, 2]], cfl [[1, 1, 1]], cfl [[1, 1, 1]], cfl [[1, 1, 1]], by decide +kernel⟩
def fx32 : Fx 3 2 := ⟨cfl [[2, 1, 2], [2, 1, 2]], cfl [[3, 1, 3], [3, 1, 3]], cfl [[2, 3, 2], [2, 3, 2]], cfl [[1, 2, 1], [1, 2, 1]], cfl [[1, 1, 1], [1, 1, 1]], cfl [[1, 1, 1], [1, 1, 1]], by decide +kernel⟩
def fx33 : Fx 3 3 := ⟨cfl [[2, 1, 2], [1, 0, 1], [2, 1, 2]], cfl [[2, 1, 2], [1, 2, 1], [2, 1, 2]], cfl [[3, 4, 3], [4, 5, 4], [3, 4, 3]], cfl [[2, 3, 2], [3, 4, 3], [2, 3, 2]], cfl [[1, 1, 1], [1, 1, 1], [1, 1, 1]], cfl [[1, 1, 1], [1, 1, 1], [1, 1, 1]], by decide +kernel⟩
def fx34 : Fx 3 4 := ⟨cfl [[0, 3, 0], [2, 3, 2], [2, 3, 2], [0, 3, 0]], cfl [[2, 1, 2], [2, 3, 2], [2, 3, 2], [2, 1, 2]], cfl [[3, 4, 3], [4, 5, 4], [4, 5, 4], [3, 4, 3]], cfl [[2, 2, 2], [2, 2, 2], [2, 2, 2], [2, 2, 2]], cfl [[1, 2, 1], [2, 3, 2], [2, 3, 2], [1, 2, 1]], cfl [[1, 2, 1], [2, 3, 2], [2, 3, 2], [1, 2, 1]], by decide +kernel⟩
def fx41 : Fx 4 1 := ⟨cfl [[3, 2, 2, 3]], cfl [[0, 2, 2, 0]], cfl [[2, 2, 2, 2]], cfl [[1, 1, 1, 1]], cfl [[1, 1, 1, 1]], cfl [[1, 1, 1, 1]], by decide +kernel⟩
def fx42 : Fx 4 2 := ⟨cfl [[1, 3, 3, 1], [1, 3, 3, 1]], cfl [[3, 2, 2, 3], [3, 2, 2, 3]], cfl [[2, 3, 3, 2], [2, 3, 3, 2]], cfl [[1, 1, 1, 1], [1, 1, 1, 1]], cfl [[1, 2, 2, 1], [1, 2, 2, 1]], cfl [[1, 2, 2, 1], [1, 2, 2, 1]], by decide +kernel⟩
def fx43 : Fx 4 3 := ⟨cfl [[0, 2, 2, 0], [3, 3, 3, 3], [0, 2, 2, 0]], cfl [[2, 2, 2, 2], [1, 3, 3, 1], [2, 2, 2, 2]], cfl [[3, 4, 4, 3], [4, 5, 5, 4], [3, 4, 4, 3]], cfl [[2, 2, 2, 2], [2, 2, 2, 2], [2, 2, 2, 2]], cfl [[1, 2, 2, 1], [2, 3, 3, 2], [1, 2, 2, 1]], cfl [[1, 2, 2, 1], [2, 3, 3, 2], [1, 2, 2, 1]], by decide +kernel⟩
def fx44 : Fx 4 4 := ⟨cfl [[2, 3, 3, 2], [3, 2, 2, 3], [3, 2, 2, 3], [2, 3, 3, 2]], cfl [[2, 3, 3, 2], [3, 2, 2, 3], [3, 2, 2, 3], [2, 3, 3, 2]], cfl [[3, 4, 4, 3], [4, 6, 6, 4], [4, 6, 6, 4], [3, 4, 4, 3]], cfl [[1, 1, 1, 1], [1, 2, 2, 1], [1, 2, 2, 1], [1, 1, 1, 1]], cfl [[2, 3, 3, 2], [3, 4, 4, 3], [3, 4, 4, 3], [2, 3, 3, 2]], cfl [[2, 3, 3, 2], [3, 4, 4, 3], [3, 4, 4, 3], [2, 3, 3, 2]], by decide +kernel⟩
end K85
namespace K85
open MP Sand DR HD
variable {W H : Nat} {h : Heap} {cells : List Int}
theorem hidc (B : BoxAt h cells) {f : Nat} {ds : List D} {d : D} (e : isR (run f ds) d = true) : callF fns K85.G 5000 11 f ds h = .ok d h := by
  obtain ⟨_, o, rfl, ho⟩ := B.low
  exact callF_hid (isR_eq e) ho
theorem row_inj {f g : Nat → Int} (e : row W f = row W g) : ∀ x, x < W → f x = g x := fun x hx => by
  unfold row at e
  have := congrArg (fun l => l[x]?) e
  simp only [List.getElem?_map, List.getElem?_range hx, Option.map_some, Option.some.injEq, D.int.injEq] at this
  exact this
theorem gD_inj {c d : Cf} (e : gD W H c = gD W H d) : On W H fun y x => c y x = d y x := fun y x hy hx => by
  unfold gD at e
  injection e with e
  have := congrArg (fun l => l[y]?) e
  simp only [List.getElem?_map, List.getElem?_range hy, Option.map_some, Option.some.injEq, D.tup.injEq] at this
  exact row_inj this x hx
theorem gD_on {c d : Cf} (e : On W H fun y x => c y x = d y x) : gD W H c = gD W H d := by
  unfold gD row
  congr 1
  apply List.map_congr_left
  intro y hy
  congr 1
  apply List.map_congr_left
  intro x hx
  rw [e y x (List.mem_range.mp hy) (List.mem_range.mp hx)]
theorem gD_flat : (gD W H c).flat 11 = true := by
  unfold gD
  rw [D.flat]
  exact flats_map fun y _ => by
    rw [D.flat]
    exact flats_map fun x _ => rfl
theorem gD_flat2 {c : Cf} : (gD W H c).flat 12 = true := by
  unfold gD
  rw [D.flat]
  exact flats_map fun y _ => by
    rw [D.flat]
    exact flats_map fun x _ => rfl
theorem gD_eqv {c : Cf} : D.eqv (gD W H c) (gD W H c) = true := by
  unfold gD
  rw [D.eqv]
  exact eqvs_map fun y _ => by
    rw [D.eqv]
    exact eqvs_map fun x _ => by rw [D.eqv]; exact beq_self_eq_true _
theorem gD_eq {c : Cf} : opC .eq (gD W H c) (gD W H c) h = some true := by
  show eqD h (gD W H c) (gD W H c) = _
  rw [eqD_flat gD_flat2 gD_flat2, gD_eqv]
theorem gD_ne {c : Cf} : opC .ne (gD W H c) (gD W H c) h = some false := by
  show (eqD h (gD W H c) (gD W H c)).map (!·) = _
  rw [eqD_flat gD_flat2 gD_flat2, gD_eqv]
  rfl
theorem pair_ne {c d : Cf} : opC .ne (.tup [gD W H c, gD W H d]) (.tup [gD W H c, gD W H d]) h = some false := by
  show (eqD h _ _).map (!·) = _
  have f : (D.tup [gD W H c, gD W H d]).flat DEEP = true := by
    show D.flat 12 _ = true
    rw [D.flat, D.flats, gD_flat, D.flats, gD_flat, D.flats]
    rfl
  rw [eqD_flat f f, D.eqv, D.eqvs, gD_eqv, D.eqvs, gD_eqv, D.eqvs]
  rfl
structure Fp (W H : Nat) (told rest w t6 td ts : Cf) : Prop where
  back : isR (run 9 [.int (W : Int), .int (H : Int)]) (gD W H told) = true
  backT : isR (run 9 [.int (H : Int), .int (W : Int)]) (gD H W fun y x => told x y) = true
  back1 : isR (run 9 [.int 1, .int 1]) (.tup [.tup [.int 0]]) = true
  full6 : isR (run 13 [.int (W : Int), .int (H : Int), .int 6]) (gD W H fun _ _ => 6) = true
  full3 : isR (run 13 [.int (W : Int), .int (H : Int), .int 3]) (gD W H fun _ _ => 3) = true
  full1 : isR (run 13 [.int (W : Int), .int (H : Int), .int 1]) (gD W H fun _ _ => 1) = true
  f6 : fal W H (fun _ _ => 6) rest t6 = true
  fd : fal W H (fun y x => 6 - rest y x) told td = true
  fs : fal W H (fun y x => told y x + told y x) told ts = true
  fb : fal W H (fun y x => told y x + bd W H y x) told (fun _ _ => 1) = true
  f3 : fal W H (fun y x => 3 + bd W H y x) (fun _ _ => 3) (fun _ _ => 1) = true
  fw : fal W H (fun y x => 3 + told y x) (fun _ _ => 3) w = true
  t3 : On W H fun y x => 0 ≤ told y x ∧ told y x ≤ 3
  mir : On W H fun y x => told y (W - 1 - x) = told y x
  rev : On W H fun y x => told (H - 1 - y) x = told y x
  st : St W H (fun _ _ => 10) (s0 W)
  s2 : S2 W H (s0 W) ≤ 4998
  w1 : 1 ≤ W
  w4 : W ≤ 4
  h1 : 1 ≤ H
  h4 : H ≤ 4
theorem Fx.fp (F : Fx W H) : Fp W H F.told F.rest F.w F.t6 F.td F.ts := by
  have ok := F.ok
  unfold chk at ok
  simp only [Bool.and_eq_true, decide_eq_true_eq] at ok
  obtain ⟨⟨⟨⟨⟨⟨⟨⟨⟨⟨⟨⟨⟨⟨⟨⟨⟨⟨⟨⟨a1, a2⟩, a3⟩, a4⟩, a5⟩, a6⟩, a7⟩, a8⟩, a9⟩, a10⟩, a11⟩, a12⟩, a13⟩, a14⟩, a15⟩, a16⟩, a17⟩, a18⟩, a19⟩, a20⟩, a21⟩ := ok
  have b13 := allG_on a13
  have b16 := allG_on a16
  refine ⟨a1, a2, a3, a4, a5, a6, a7, a8, a9, a10, a11, a12, fun y x hy hx => ?_, fun y x hy hx => of_decide_eq_true (allG_on a14 y x hy hx), fun y x hy hx => of_decide_eq_true (allG_on a15 y x hy hx), ⟨fun y x hy hx => ?_, fun y x hy hx => ?_⟩, a17, a18, a19, a20, a21⟩
  · have := b13 y x hy hx
    simp only [Bool.and_eq_true, decide_eq_true_eq] at this
    exact this
  · have := b16 y x hy hx
    simp only [Bool.and_eq_true, decide_eq_true_eq] at this
    exact this.1
  · have := b16 y x hy hx
    simp only [Bool.and_eq_true, decide_eq_true_eq] at this
    exact this.2
section
variable {told rest w t6 td ts : Cf}
theorem Fp.falS (F : Fp W H told rest w t6 td ts) {c : Cf} (hc : On W H fun y x => 0 ≤ c y x ∧ c y x ≤ 10) {h : Heap} (hl : h.all (Ob.low h.length) = true) :
    ∃ c' t', callF fns K85.G 5000 11 8 [tray W H c] h = .ok (.tup [gD W H c', gD W H t']) h ∧ Least W H c t' ∧ On W H fun y x => c' y x = aft W H c t' y x :=
  fallen_same (k := 6) (Wf := 5000) ⟨F.w1, Nat.le_trans F.w4 (by decide)⟩ ⟨F.h1, Nat.le_trans F.h4 (by decide)⟩ (fun y x hy hx => by have := hc y x hy hx; omega) (F.st.mono (fun y x hy hx => (hc y x hy hx).2)) (by have := F.s2; omega) hl
theorem Fp.least (F : Fp W H told rest w t6 td ts) {c r t : Cf} (hc : On W H fun y x => 0 ≤ c y x ∧ c y x ≤ 10) (e : fal W H c r t = true) : Least W H c t ∧ On W H fun y x => r y x = aft W H c t y x := by
  obtain ⟨c', t', e', L, A⟩ := F.falS hc (h := [.hid]) rfl
  unfold fal run at e
  have := isR_eq e
  rw [e'] at this
  injection this with this
  injection this with this
  injection this with q1 q2
  injection q2 with q2
  have q1 := gD_inj q1
  have q2 := gD_inj q2
  refine ⟨⟨⟨fun y x hy hx => ?_, fun y x hy hx => ?_⟩, fun s hs y x hy hx => ?_⟩, fun y x hy hx => ?_⟩
  · have := L.1.1 y x hy hx
    have := q2 y x hy hx
    show 0 ≤ t y x
    omega
  · have a := L.1.2 y x hy hx
    have n := nb_on q2 hy hx
    have := q2 y x hy hx
    unfold aft at *
    omega
  · have := L.2 s hs y x hy hx
    have := q2 y x hy hx
    show t y x ≤ s y x
    omega
  · have a := A y x hy hx
    have n := nb_on q2 hy hx
    have := q2 y x hy hx
    have := q1 y x hy hx
    unfold aft at *
    omega
end
end K85
namespace K85
open MP Sand DR HD
variable {W H : Nat} {h : Heap} {cells : List Int} {told rest w t6 td ts : Cf}
theorem six4 {n : Nat} (h : n ≤ 4) : n ≤ 6 := Nat.le_trans h (by decide)
/-- six less what rests -/
theorem inv_ok (hW : W ≤ 6) (hH : H ≤ 6) {c : Cf} {env : Env} (e4 : eE (callF fns K85.G 5000 11) K85.G (.cons (.var 4) .nil) env h = .ok (.tup [gD W H c]) h)
    (hb : ∀ d : D, bindT (.var 14) d (clr env [14]) = some ((clr env [14]).set 14 d)) (hb2 : ∀ d d' : D, bindT (.var 16) d' (clr ((clr env [14]).set 14 d) [16]) = some ((clr ((clr env [14]).set 14 d) [16]).set 16 d'))
    (h14 : ∀ xs : List D, eE (callF fns K85.G 5000 11) K85.G (.cons (.var 14) .nil) ((clr env [14]).set 14 (.tup xs)) h = .ok (.tup [.tup xs]) h) (h16 : ∀ (d : D) (i : Int), eE (callF fns K85.G 5000 11) K85.G (.var 16) ((clr ((clr env [14]).set 14 d) [16]).set 16 (.int i)) h = .ok (.int i) h) :
    eE (callF fns K85.G 5000 11) K85.G (.blt .tuple (.cons (.lc true (.var 14) .gen (.cons (.var 4) .nil) (.con (.bl true)) (.blt .tuple (.cons (.lc true (.var 16) .gen (.cons (.var 14) .nil) (.con (.bl true)) (.bin .sub (.con (.int 6)) (.var 16))) .nil))) .nil)) env h = .ok (gD W H fun y x => 6 - c y x) h := by
  refine bltc (ar1 (lcmap (L := List.range H) (f := fun y => .tup (row W (c y))) (g := fun y => .tup (row W fun x => 6 - c y x)) e4 rfl (fun y _ => ?_) (by rw [List.length_range]; exact Nat.le_trans hH (by decide)))) rfl
  refine turnT (hb _) (bltc (ar1 (lcmap (L := List.range W) (f := fun x => .int (c y x)) (g := fun x => .int (6 - c y x)) (h14 _) rfl (fun x _ => ?_) (by rw [List.length_range]; exact Nat.le_trans hW (by decide)))) rfl)
  exact turnT (hb2 _ _) (binc rfl (h16 _ _) rfl)
def mx (ns : List Int) : Int := match ns with
  | [] => 0
  | n :: ns => ns.foldl max n
theorem foldl_max {m : Int} : ∀ {ns : List Int} {a : Int}, a ≤ m → (∀ n ∈ ns, n ≤ m) → ns.foldl max a ≤ m
  | [], a, ha, _ => ha
  | n :: ns, a, ha, h => by
    rw [List.foldl_cons]
    exact foldl_max (Int.max_le.mpr ⟨ha, h n (by simp)⟩) fun x hx => h x (by simp [hx])
theorem mx_le {ns : List Int} {m : Int} (h0 : 0 ≤ m) (h : ∀ n ∈ ns, n ≤ m) : mx ns ≤ m := by
  match ns, h with
  | [], _ => exact h0
  | n :: ns, h => exact foldl_max (h n (by simp)) fun x hx => h x (by simp [hx])
theorem ints_map {α : Type} {f : α → Int} : ∀ L : List α, intsOf (L.map fun x => .int (f x)) = some (L.map f)
  | [] => rfl
  | x :: xs => by rw [List.map_cons, intsOf, ints_map xs]; rfl
theorem max_row {f : Nat → Int} (hW : 1 ≤ W) : opF .maxL [.tup (row W f)] h = .ok (.int (mx ((List.range W).map f))) h := by
  show ((R.opt h (intsOf (row W f))).bind _) = _
  unfold row
  rw [ints_map]
  match W, hW with
  | n + 1, _ => rw [List.range_succ_eq_map, List.map_cons]; rfl
theorem max_lst {f : Nat → Int} (hW : 1 ≤ W) : opF .maxL [.lst ((List.range W).map fun x => .int (f x))] h = .ok (.int (mx ((List.range W).map f))) h := by
  show ((R.opt h (intsOf ((List.range W).map fun x => .int (f x)))).bind _) = _
  rw [ints_map]
  match W, hW with
  | n + 1, _ => rw [List.range_succ_eq_map, List.map_cons]; rfl
theorem rows_rev (W H : Nat) (c : Cf) : (gD W H fun y x => c (H - 1 - y) x) = .tup ((List.range H).map fun y => .tup (row W (c y))).reverse := by
  unfold gD
  congr 1
  apply List.ext_getElem?
  intro i
  by_cases hi : i < H
  · rw [List.getElem?_reverse (by rw [List.length_map, List.length_range]; exact hi), List.getElem?_map, List.getElem?_map, List.getElem?_range hi, List.length_map, List.length_range, List.getElem?_range (by omega)]
    rfl
  · rw [List.getElem?_eq_none (by rw [List.length_map, List.length_range]; omega), List.getElem?_eq_none (by rw [List.length_reverse, List.length_map, List.length_range]; omega)]
theorem row_rev (W : Nat) (f : Nat → Int) : (row W f).reverse = row W fun x => f (W - 1 - x) := by
  unfold row
  apply List.ext_getElem?
  intro i
  by_cases hi : i < W
  · rw [List.getElem?_reverse (by rw [List.length_map, List.length_range]; exact hi), List.getElem?_map, List.getElem?_map, List.getElem?_range hi, List.length_map, List.length_range, List.getElem?_range (by omega)]
    rfl
  · rw [List.getElem?_eq_none (by rw [List.length_reverse, List.length_map, List.length_range]; omega), List.getElem?_eq_none (by rw [List.length_map, List.length_range]; omega)]
def tl : S → S
  | .cons _ r => r
  | s => s
variable {s d2 d3 d4 d5 d6 d7 d8 d9 d10 d13 d14 d15 d16 : D}
/-- the third part: mirror, turned, the answer -/
theorem part3 (F : Fp W H told rest w t6 td ts) (B : BoxAt h cells) :
    eS (callF fns K85.G 5000 11) K85.G 5000 (tl (tl (tl (tl (tl (tl (tl (tl (tl (tl (tl (tl b_law)))))))))))) [s, .ref 0, gD W H told, d3, d4, d5, d6, d7, d8, .und, .und, .int (W : Int), .int (H : Int), d13, d14, d15, d16] h = .ok (.ret (.bl true)) h := by
  unfold b_law
  dsimp only [tl]
  refine (asgc (env' := [s, .ref 0, gD W H told, d3, d4, d5, d6, d7, d8, gD W H told, .und, .int (W : Int), .int (H : Int), d13, d14, d15, d16]) (d := gD W H told) (h1 := h) ?_ rfl).trans ?_
  · refine bltc (ar1 (lcmap (L := List.range H) (f := fun y => .tup (row W (told y))) (g := fun y => .tup (row W (told y))) rfl rfl (fun y hy => ?_) (by rw [List.length_range]; exact Nat.le_trans F.h4 (by decide)))) rfl
    refine turnT (env' := [s, .ref 0, gD W H told, d3, d4, d5, d6, d7, d8, .und, .und, .int (W : Int), .int (H : Int), d13, .tup (row W (told y)), d15, d16]) rfl ?_
    have er : row W (told y) = (row W (told y)).reverse := by
      rw [row_rev]
      unfold row
      apply List.map_congr_left
      intro x hx
      dsimp only
      rw [F.mir y x (List.mem_range.mp hy) (List.mem_range.mp hx)]
    have := revt (Φ := (callF fns K85.G 5000 11)) (G := K85.G) true (a := .var 14) (env := [s, .ref 0, gD W H told, d3, d4, d5, d6, d7, d8, .und, .und, .int (W : Int), .int (H : Int), d13, .tup (row W (told y)), d15, d16]) (h := h) (h1 := h) (xs := row W (told y)) rfl
    rw [← er] at this
    exact this
  refine (asgc (env' := [s, .ref 0, gD W H told, d3, d4, d5, d6, d7, d8, gD W H told, gD H W fun y x => told x y, .int (W : Int), .int (H : Int), d13, d14, d15, d16]) (d := gD H W fun y x => told x y) (h1 := h) ?_ rfl).trans ?_
  · refine bltc (ar1 (lcmap (L := List.range W) (f := fun (x : Nat) => .int (x : Int)) (g := fun x => .tup (row H fun y => told y x)) (ds := [.int (W : Int)]) rfl (rng_it (six4 F.w4) h) (fun x hx => ?_) (by rw [List.length_range]; exact Nat.le_trans F.w4 (by decide)))) rfl
    refine turnT (env' := [s, .ref 0, gD W H told, d3, d4, d5, d6, d7, d8, gD W H told, .und, .int (W : Int), .int (H : Int), d13, d14, .int (x : Int), d16]) rfl ?_
    refine bltc (ar1 (lcmap (L := List.range H) (f := fun (y : Nat) => .int (y : Int)) (g := fun y => .int (told y x)) (ds := [.int (H : Int)]) rfl (rng_it (six4 F.h4) h) (fun y hy => ?_) (by rw [List.length_range]; exact Nat.le_trans F.h4 (by decide)))) rfl
    refine turnT (env' := [s, .ref 0, gD W H told, d3, d4, d5, d6, d7, d8, gD W H told, .und, .int (W : Int), .int (H : Int), .int (y : Int), d14, .int (x : Int), d16]) rfl ?_
    exact idxc (idxc rfl rfl (gD_row (List.mem_range.mp hy))) rfl (gD_cell (List.mem_range.mp hx))
  refine retc ?_
  refine and2t (cmpc rfl rfl gD_eq) (and2t (cmpc (x := gD W H told) (revt true (xs := (List.range H).map fun y => .tup (row W (told y))) rfl |>.trans ?_) rfl gD_eq) (onec (cmpc (callc (arc rfl (ar1 rfl)) (hidc B F.backT)) rfl gD_eq)))
  rw [← rows_rev, gD_on (c := fun y x => told (H - 1 - y) x) (d := told) fun y x hy hx => F.rev y x hy hx]
end K85
namespace K85
open MP Sand DR HD
variable {W H : Nat} {h : Heap} {cells : List Int} {told rest w t6 td ts : Cf}
theorem bd_le (y x : Nat) : 0 ≤ bd W H y x ∧ bd W H y x ≤ 4 := by
  unfold bd nb
  dsimp only
  split <;> split <;> split <;> split <;> omega
theorem St.congr {c d s : Cf} (e : On W H fun y x => c y x = d y x) (k : St W H c s) : St W H d s := k.mono fun y x hy hx => by have := e y x hy hx; omega
theorem Least.congr {c d t : Cf} (e : On W H fun y x => c y x = d y x) (k : Least W H c t) : Least W H d t :=
  ⟨St.congr e k.1, fun s hs => k.2 s (St.congr (fun y x hy hx => (e y x hy hx).symm) hs)⟩
def lBody : S := (.cons (.ite (.cmp .ne (.call 8 (.cons (.tup (.cons (.var 11) (.cons (.var 12) (.cons (.call 14 (.cons (.var 11) (.cons (.var 12) (.cons (.var 8) .nil)))) .nil)))) .nil)) (.tup (.cons (.var 8) (.cons (.call 13 (.cons (.var 11) (.cons (.var 12) (.cons (.con (.int 1)) .nil)))) .nil))))
 (.cons (.ret (.con (.bl false)))
 .nil)
 .nil)
 .nil)
theorem Least.nonneg {c t : Cf} (hc : On W H fun y x => 0 ≤ c y x) (L : Least W H c t) : On W H fun y x => 0 ≤ aft W H c t y x := fun y x hy hx => by
  apply Classical.byContradiction
  intro hn
  have hn : aft W H c t y x < 0 := by omega
  have z : nb W H (fun _ _ => 0) y x ≤ nb W H t y x := nb_le (s := fun _ _ => 0) L.1.1 hy hx
  rw [nb0] at z
  have c0 := hc y x hy hx
  have t1 : 1 ≤ t y x := by unfold aft at hn; omega
  have le : On W H fun j i => (fun j i => if j = y ∧ i = x then t y x - 1 else t j i) j i ≤ t j i := fun j i hj hi => by
    dsimp only
    split
    · rename_i e; rw [e.1, e.2]; omega
    · omega
  have := L.2 (fun j i => if j = y ∧ i = x then t y x - 1 else t j i) ⟨fun j i hj hi => by
    have := L.1.1 j i hj hi
    show 0 ≤ if j = y ∧ i = x then t y x - 1 else t j i
    split <;> omega, fun j i hj hi => by
    have n := nb_le le hj hi
    have r := L.1.2 j i hj hi
    unfold aft at *
    by_cases e : j = y ∧ i = x
    · obtain ⟨rfl, rfl⟩ := e
      simp only [and_self, if_true]
      omega
    · simp only [e, if_false]
      omega⟩ y x hy hx
  simp only [and_self, if_true] at this
  omega
variable {s d2 d3 d4 d5 d6 d7 d8 d9 d10 d13 d14 d15 d16 : D}
theorem lBody_ok (F : Fp W H told rest w t6 td ts) (B : BoxAt h cells) {c : Cf} (e : callF fns K85.G 5000 11 8 [tray W H fun y x => c y x + bd W H y x] h = .ok (.tup [gD W H c, gD W H fun _ _ => 1]) h) :
    eS (callF fns K85.G 5000 11) K85.G 5000 lBody [s, .ref 0, d2, d3, d4, d5, d6, d7, gD W H c, d9, d10, .int (W : Int), .int (H : Int), d13, d14, d15, d16] h = .ok (.nxt [s, .ref 0, d2, d3, d4, d5, d6, d7, gD W H c, d9, d10, .int (W : Int), .int (H : Int), d13, d14, d15, d16]) h := by
  unfold lBody
  refine (itef (h1 := h) (cmpc (callc (ar1 (arc rfl (arc rfl (ar1 (callc (arc rfl (arc rfl (ar1 rfl))) (burnt_call (k := 10) (six4 F.w4) (six4 F.h4) B.low.1))))) ) e) (arc rfl (ar1 (callc (arc rfl (arc rfl (ar1 rfl))) (hidc B F.full1)))) pair_ne)).trans ?_
  rfl
theorem part2 (F : Fp W H told rest w t6 td ts) (B : BoxAt h cells) :
    ∃ h', eS (callF fns K85.G 5000 11) K85.G 5000 (tl (tl (tl (tl (tl (tl (tl (tl b_law)))))))) [s, .ref 0, gD W H told, d3, d4, d5, .und, .und, .und, .und, .und, .int (W : Int), .int (H : Int), .und, .und, .und, .und] h = .ok (.ret (.bl true)) h' := by
  obtain ⟨c0, h', ed, B', q0⟩ := drawn_rows (Wf := 5000) (k := 10) (six4 F.w4) (env := [s, .ref 0, gD W H told, d3, d4, d5, .und, .und, .und, .und, .und, .int (W : Int), .int (H : Int), .und, .und, .und, .und]) (by decide : 13 < 17) (fun x => (by decide : 15 < 17)) (fun y x h => rfl) (fun y h => rfl) H 0 B
  refine ⟨h', ?_⟩
  have q0' : On W H fun y x => 3 ≤ c0 y x := fun y x _ _ => (q0 y x).1
  obtain ⟨r, u, er, Lu, Au⟩ := F.falS (c := c0) (fun y x _ _ => by have := q0 y x; omega) B'.low.1
  have rr : On W H fun y x => aft W H c0 u y x = r y x := fun y x hy hx => (Au y x hy hx).symm
  have r3 : On W H fun y x => 0 ≤ r y x ∧ r y x ≤ 3 := fun y x hy hx => by
    have a := Au y x hy hx
    have b := Lu.1.2 y x hy hx
    have d := K85.Least.nonneg (fun y x _ _ => by have := q0 y x; omega) Lu y x hy hx
    exact ⟨a ▸ d, a ▸ b⟩
  obtain ⟨r2, t, e2, Lt, At⟩ := F.falS (c := fun y x => r y x + told y x) (fun y x hy hx => by have := r3 y x hy hx; have := F.t3 y x hy hx; dsimp only; omega) B'.low.1
  obtain ⟨r3', v, e3, Lv, Av⟩ := F.falS (c := fun y x => r y x + bd W H y x) (fun y x hy hx => by have := r3 y x hy hx; have := bd_le (W := W) (H := H) y x; dsimp only; omega) B'.low.1
  obtain ⟨_, s1, _, Ls1, _⟩ := F.falS (c := fun y x => c0 y x + told y x) (fun y x hy hx => by have := q0 y x; have := F.t3 y x hy hx; dsimp only; omega) B'.low.1
  obtain ⟨_, s2, _, Ls2, _⟩ := F.falS (c := fun y x => c0 y x + bd W H y x) (fun y x hy hx => by have := q0 y x; have := bd_le (W := W) (H := H) y x; dsimp only; omega) B'.low.1
  have Fw := F.least (fun y x hy hx => by have := F.t3 y x hy hx; dsimp only; omega) F.fw
  have F3 := F.least (fun y x hy hx => by have := bd_le (W := W) (H := H) y x; dsimp only; omega) F.f3
  have hr2 : On W H fun y x => r2 y x = r y x := fun y x hy hx => by
    have Lt' : Least W H (fun y x => aft W H c0 u y x + told y x) t := K85.Least.congr (fun y x hy hx => by have := rr y x hy hx; dsimp only; omega) Lt
    have k := Sand.back q0' Fw.1 (fun y x hy hx => (Fw.2 y x hy hx).symm) Lu Lt' Ls1 y x hy hx
    have a := At y x hy hx
    have b := rr y x hy hx
    unfold aft at *
    dsimp only at *
    omega
  have hv : On W H fun y x => v y x = 1 :=
    Sand.burn q0' (b := bd W H) (fun y x _ _ => rfl) F3.1 Lu (K85.Least.congr (fun y x hy hx => by have := rr y x hy hx; dsimp only; omega) Lv) Ls2
  have hr3 : On W H fun y x => r3' y x = r y x := fun y x hy hx => by
    have a := Av y x hy hx
    have n := nb_on hv hy hx
    have b := hv y x hy hx
    unfold aft bd at a
    dsimp only at *
    omega
  unfold b_law
  dsimp only [tl]
  refine (asgc (env' := [s, .ref 0, gD W H told, d3, d4, d5, gD W H c0, .und, .und, .und, .und, .int (W : Int), .int (H : Int), .und, .und, .und, .und]) (d := gD W H c0) (h1 := h') ?_ rfl).trans ?_
  · refine bltc (ar1 (d := .lst ((List.range H).map fun y => .tup (row W (c0 y)))) (h1 := h') ?_) rfl
    rw [eE_lc]
    show R.bind (R.ok (D.tup [.int (H : Int)]) h) _ = _
    rw [bind_ok]
    have it : iterOf .rng (args (.tup [D.int (H : Int)])) h = _ := rng_it (six4 F.h4) h
    rw [it]
    show R.bind (compL (turnL (callF fns K85.G 5000 11) K85.G (.var 13) (.con (.bl true)) rEl _) [] _ h) _ = _
    rw [← range_eq] at ed
    refine (congrArg (fun x => R.bind x _) ed).trans ?_
    rw [bind_ok]
    unfold newL
    rw [if_pos (by rw [List.length_map, List.length_range]; exact Nat.le_trans F.h4 (by decide)), if_pos rfl]
  refine (asgc (env' := [s, .ref 0, gD W H told, d3, d4, d5, gD W H c0, gD W H r, .und, .und, .und, .int (W : Int), .int (H : Int), .und, .und, .und, .und]) (d := gD W H r) (h1 := h') (idxc (callc (ar1 (arc rfl (arc rfl (ar1 rfl)))) er) rfl rfl) rfl).trans ?_
  refine (itef (h1 := h') (cmpc (idxc (callc (ar1 (arc rfl (arc rfl (ar1 (callc (arc rfl (ar1 rfl)) (sum_call (k := 10) (six4 F.w4) (six4 F.h4))))))) e2) rfl (z := gD W H r2) rfl) rfl (by rw [gD_on hr2]; exact gD_ne))).trans ?_
  refine (nxtc (s := .for (.var 8) .gen _ lBody) (env' := [s, .ref 0, gD W H told, d3, d4, d5, gD W H c0, gD W H r, gD W H fun _ _ => 3, .und, .und, .int (W : Int), .int (H : Int), .und, .und, .und, .und]) (h1 := h') ?_).trans ?_
  · have ea : eE (callF fns K85.G 5000 11) K85.G (.cons (.tup (.cons (.var 2) (.cons (.var 7) (.cons (.call 13 (.cons (.var 11) (.cons (.var 12) (.cons (.con (.int 3)) .nil)))) .nil)))) .nil) [s, .ref 0, gD W H told, d3, d4, d5, gD W H c0, gD W H r, .und, .und, .und, .int (W : Int), .int (H : Int), .und, .und, .und, .und] h' = .ok (.tup [.tup [gD W H told, gD W H r, gD W H fun _ _ => 3]]) h' :=
      ar1 (arc rfl (arc rfl (ar1 (callc (arc rfl (arc rfl (ar1 rfl))) (hidc B' F.full3)))))
    rw [eS_for, ea, bind_ok]
    show forL _ _ [] [gD W H told, gD W H r, gD W H fun _ _ => 3] _ h' = _
    rw [forL1 rfl (lBody_ok F B' (hidc B' F.fb)), forL1 rfl (lBody_ok F B' (by rw [e3, gD_on hr3, gD_on hv])), forL1 rfl (lBody_ok F B' (hidc B' F.f3)), forL0]
  exact part3 F B'
end K85
namespace K85
open MP Sand DR HD
variable {W H : Nat} {h : Heap} {cells : List Int} {told rest w t6 td ts : Cf}
variable {s : D}
theorem opM_max {o : Int} (ho : o ≤ 3) : opC .gt (.int o) (.int 3) h = some false := by
  rw [gt1, decide_eq_false (by omega)]
theorem part1 (F : Fp W H told rest w t6 td ts) (B : BoxAt h cells) :
    ∃ h', eS (callF fns K85.G 5000 11) K85.G 5000 (tl (tl b_law)) [s, .ref 0, .und, .und, .und, .und, .und, .und, .und, .und, .und, .int (W : Int), .int (H : Int), .und, .und, .und, .und] h = .ok (.ret (.bl true)) h' := by
  obtain ⟨h', e⟩ := part2 (s := s) (d3 := gD W H fun _ _ => 6) (d4 := gD W H rest) (d5 := gD W H told) F B
  refine ⟨h', ?_⟩
  unfold b_law at e ⊢
  dsimp only [tl] at e ⊢
  refine (asgc (env' := [s, .ref 0, gD W H told, .und, .und, .und, .und, .und, .und, .und, .und, .int (W : Int), .int (H : Int), .und, .und, .und, .und]) (h1 := h) (callc (arc rfl (ar1 rfl)) (hidc B F.back)) rfl).trans ?_
  refine (asgc (env' := [s, .ref 0, gD W H told, gD W H fun _ _ => 6, .und, .und, .und, .und, .und, .und, .und, .int (W : Int), .int (H : Int), .und, .und, .und, .und]) (h1 := h) (callc (arc rfl (arc rfl (ar1 rfl))) (hidc B F.full6)) rfl).trans ?_
  refine (asgc (env' := [s, .ref 0, gD W H told, gD W H fun _ _ => 6, gD W H rest, .und, .und, .und, .und, .und, .und, .int (W : Int), .int (H : Int), .und, .und, .und, .und]) (h1 := h) (idxc (callc (ar1 (arc rfl (arc rfl (ar1 rfl)))) (hidc B F.f6)) rfl rfl) rfl).trans ?_
  refine (asgc (env' := [s, .ref 0, gD W H told, gD W H fun _ _ => 6, gD W H rest, gD W H told, .und, .und, .und, .und, .und, .int (W : Int), .int (H : Int), .und, .und, .und, .und]) (h1 := h)
    (idxc (callc (ar1 (arc rfl (arc rfl (ar1 (inv_ok (six4 F.w4) (six4 F.h4) (c := rest) rfl (fun _ => rfl) (fun _ _ => rfl) (fun _ => rfl) (fun _ _ => rfl)))))) (hidc B F.fd)) rfl rfl) rfl).trans ?_
  refine (itef (h1 := h) (or2f (cmpc rfl rfl gD_ne) (or2f (cmpc (x := .int (mx ((List.range H).map fun y => mx ((List.range W).map (told y))))) (bltc (ar1 (lcmap (L := List.range H) (f := fun y => .tup (row W (told y))) (g := fun y => .int (mx ((List.range W).map (told y)))) rfl rfl (fun y hy => ?_) (by rw [List.length_range]; exact Nat.le_trans F.h4 (by decide)))) (max_lst F.h1)) rfl (opM_max ?_)) (onec (cmpc (callc (arc rfl (ar1 rfl)) (hidc B F.back1)) rfl rfl))))).trans ?_
  · exact turnT rfl (bltc (ar1 rfl) (max_row F.w1))
  · refine mx_le (by decide) fun n hn => ?_
    obtain ⟨y, hy, rfl⟩ := List.mem_map.mp hn
    refine mx_le (by decide) fun n hn => ?_
    obtain ⟨x, hx, rfl⟩ := List.mem_map.mp hn
    exact (F.t3 y x (List.mem_range.mp hy) (List.mem_range.mp hx)).2
  refine (itef (h1 := h) (cmpc (idxc (callc (ar1 (arc rfl (arc rfl (ar1 (callc (arc rfl (ar1 rfl)) (sum_call (k := 10) (six4 F.w4) (six4 F.h4))))))) (hidc B F.fs)) rfl (z := gD W H told) rfl) rfl gD_ne)).trans ?_
  exact e
theorem sizes (W H : Nat) (w1 : 1 ≤ W) (w4 : W ≤ 4) (h1 : 1 ≤ H) (h4 : H ≤ 4) : Nonempty (Fx W H) := by
  have c : ∀ n, 1 ≤ n → n ≤ 4 → n = 1 ∨ n = 2 ∨ n = 3 ∨ n = 4 := fun n a b => by omega
  rcases c W w1 w4 with rfl | rfl | rfl | rfl <;> rcases c H h1 h4 with rfl | rfl | rfl | rfl
  · exact ⟨fx11⟩
  · exact ⟨fx12⟩
  · exact ⟨fx13⟩
  · exact ⟨fx14⟩
  · exact ⟨fx21⟩
  · exact ⟨fx22⟩
  · exact ⟨fx23⟩
  · exact ⟨fx24⟩
  · exact ⟨fx31⟩
  · exact ⟨fx32⟩
  · exact ⟨fx33⟩
  · exact ⟨fx34⟩
  · exact ⟨fx41⟩
  · exact ⟨fx42⟩
  · exact ⟨fx43⟩
  · exact ⟨fx44⟩
/-- the law -/
theorem plain : ∀ ns : List Int, ns.length ≤ 63 → ∃ h', callF fns K85.G 5000 12 i_law [.frz (ns.map .int)] [] = .ok (.bl true) h' := by
  intro ns hn
  obtain ⟨h0, cells, e0, hl, hB⟩ := box_call (fns := fns) (G := K85.G) (W := 5000) (k := 10) (show fns[i__law_box]? = some ⟨1, 2, bBox⟩ from rfl) hn
  have B0 : BoxAt h0 cells := ⟨hl, hB⟩
  obtain ⟨t1, h1, e1, a1, b1, B1⟩ := B0.take (Wf := 5000) (k := 10) (m := 4) (by decide) (by decide)
  obtain ⟨t2, h2, e2, a2, b2, B2⟩ := B1.take (Wf := 5000) (k := 10) (m := 4) (by decide) (by decide)
  obtain ⟨W, hW⟩ : ∃ W : Nat, 1 + t1 = W := ⟨(1 + t1).toNat, by omega⟩
  obtain ⟨H, hH⟩ : ∃ H : Nat, 1 + t2 = H := ⟨(1 + t2).toNat, by omega⟩
  obtain ⟨F⟩ := sizes W H (by omega) (by omega) (by omega) (by omega)
  obtain ⟨h', e⟩ := part1 (s := .frz (ns.map .int)) F.fp B2
  have el : eS (callF fns K85.G 5000 11) K85.G 5000 b_law [.frz (ns.map .int), .und, .und, .und, .und, .und, .und, .und, .und, .und, .und, .und, .und, .und, .und, .und, .und] [] = .ok (.ret (.bl true)) h' := by
    unfold b_law at e ⊢
    dsimp only [tl] at e
    refine (asgc (env' := [.frz (ns.map .int), .ref 0, .und, .und, .und, .und, .und, .und, .und, .und, .und, .und, .und, .und, .und, .und, .und]) (h1 := h0) (callc (ar1 rfl) e0) rfl).trans ?_
    refine (asgc (env' := [.frz (ns.map .int), .ref 0, .und, .und, .und, .und, .und, .und, .und, .und, .und, .int (W : Int), .int (H : Int), .und, .und, .und, .und]) (d := .tup [.int (W : Int), .int (H : Int)]) (h1 := h2)
      (arc (h1 := h1) (binc rfl (callc (arc rfl (ar1 rfl)) e1) (by rw [add1, hW])) (ar1 (binc rfl (callc (arc rfl (ar1 rfl)) e2) (by rw [add1, hH])))) rfl).trans ?_
    exact e
  rw [call_eq (show fns[i_law]? = some d_law from rfl) rfl]
  have eb : ∃ h'', MP.back 0 (.ok (.ret (.bl true)) h') = .ok (.bl true) h'' := by
    unfold MP.back
    dsimp only
    split
    · exact ⟨_, rfl⟩
    · exact ⟨_, rfl⟩
  obtain ⟨h'', eb⟩ := eb
  refine ⟨h'', ?_⟩
  refine Eq.trans ?_ eb
  exact congrArg (MP.back 0) el
end K85
set_option maxHeartbeats 0
namespace K85
open PySem PySem.Spec PyProof.Rows L2 PySem.W
def top (i : Nat) : Stmt := PySem.Challenge.pw_evenflow_k85_sand_that_comes_back.main.body.getD i (.Pass ⟨0, 0, 0, 0⟩)
def tb : MPS.Tb := ⟨["is_number", "is_below", "is_side", "is_tray", "check_tray", "fall", "come_to_rest", "as_rows", "fallen", "back_and_forth", "_law_box", "_law_take", "_law_sum", "_law_full", "_law_burnt", "law"], ["MOST_SIDE", "MOST_GRAINS"], [], ["isinstance", "int", "bool", "tuple", "list", "len", "abs", "range", "zip", "max", "all"]⟩
theorem c_is_number : MPS.defB tb ["x"] ["x"] d_is_number (top 4) = true := by decide +kernel
theorem c_is_below : MPS.defB tb ["n", "x"] ["n", "x"] d_is_below (top 6) = true := by decide +kernel
theorem c_is_side : MPS.defB tb ["x"] ["x"] d_is_side (top 10) = true := by decide +kernel
theorem c_is_tray : MPS.defB tb ["x", "wide", "high", "grains", "row", "one"] ["x"] d_is_tray (top 11) = true := by decide +kernel
theorem c_check_tray : MPS.defB tb ["x"] ["x"] d_check_tray (top 12) = true := by decide +kernel
theorem c_fall : MPS.defB tb ["grains", "x", "y", "many", "u", "v"] ["grains", "x", "y", "many"] d_fall (top 13) = true := by decide +kernel
theorem c_come_to_rest : MPS.defB tb ["grains", "times", "moved", "y", "row", "x", "many"] ["grains"] d_come_to_rest (top 14) = true := by decide +kernel
theorem c_as_rows : MPS.defB tb ["rows", "row"] ["rows"] d_as_rows (top 15) = true := by decide +kernel
theorem c_fallen : MPS.defB tb ["tray", "grains", "times", "row"] ["tray"] d_fallen (top 16) = true := by decide +kernel
theorem c_back_and_forth : MPS.defB tb ["wide", "high", "first", "second", "y", "row", "one"] ["wide", "high"] d_back_and_forth (top 17) = true := by decide +kernel
theorem c__law_box : MPS.defB tb ["script", "x"] ["script"] d__law_box (top 19) = true := by decide +kernel
theorem c__law_take : MPS.defB tb ["box", "m", "at", "cell", "told"] ["box", "m"] d__law_take (top 20) = true := by decide +kernel
theorem c__law_sum : MPS.defB tb ["one", "other", "row", "line", "a", "b"] ["one", "other"] d__law_sum (top 21) = true := by decide +kernel
theorem c__law_full : MPS.defB tb ["wide", "high", "many", "y"] ["wide", "high", "many"] d__law_full (top 22) = true := by decide +kernel
theorem c__law_burnt : MPS.defB tb ["wide", "high", "grains", "out", "y", "row", "x"] ["wide", "high", "grains"] d__law_burnt (top 23) = true := by decide +kernel
theorem c_law : MPS.defB tb ["script", "box", "told", "six", "rest", "due", "drawn", "recurring", "grains", "mirror", "turned", "wide", "high", "y", "row", "x", "one"] ["script"] d_law (top 24) = true := by decide +kernel
theorem all_mk {K : PySem.W.Frag} {h : Heap} {mg : Str → Option Value} (X : K.In h) (Gn : h.Ns mainGlobals mg)
  {f0 : Addr} {od0 an0 : Option Addr} {sl0 : Array (Option Value)} {oc0 kV0 dc0 pm0 cd0 ct0 : Value}
  {f1 : Addr} {od1 an1 : Option Addr} {sl1 : Array (Option Value)} {oc1 kV1 dc1 pm1 cd1 ct1 : Value}
  {f2 : Addr} {od2 an2 : Option Addr} {sl2 : Array (Option Value)} {oc2 kV2 dc2 pm2 cd2 ct2 : Value}
  {f3 : Addr} {od3 an3 : Option Addr} {sl3 : Array (Option Value)} {oc3 kV3 dc3 pm3 cd3 ct3 : Value}
  {f4 : Addr} {od4 an4 : Option Addr} {sl4 : Array (Option Value)} {oc4 kV4 dc4 pm4 cd4 ct4 : Value}
  {f5 : Addr} {od5 an5 : Option Addr} {sl5 : Array (Option Value)} {oc5 kV5 dc5 pm5 cd5 ct5 : Value}
  {f6 : Addr} {od6 an6 : Option Addr} {sl6 : Array (Option Value)} {oc6 kV6 dc6 pm6 cd6 ct6 : Value}
  {f7 : Addr} {od7 an7 : Option Addr} {sl7 : Array (Option Value)} {oc7 kV7 dc7 pm7 cd7 ct7 : Value}
  {f8 : Addr} {od8 an8 : Option Addr} {sl8 : Array (Option Value)} {oc8 kV8 dc8 pm8 cd8 ct8 : Value}
  {f9 : Addr} {od9 an9 : Option Addr} {sl9 : Array (Option Value)} {oc9 kV9 dc9 pm9 cd9 ct9 : Value}
  {f10 : Addr} {od10 an10 : Option Addr} {sl10 : Array (Option Value)} {oc10 kV10 dc10 pm10 cd10 ct10 : Value}
  {f11 : Addr} {od11 an11 : Option Addr} {sl11 : Array (Option Value)} {oc11 kV11 dc11 pm11 cd11 ct11 : Value}
  {f12 : Addr} {od12 an12 : Option Addr} {sl12 : Array (Option Value)} {oc12 kV12 dc12 pm12 cd12 ct12 : Value}
  {f13 : Addr} {od13 an13 : Option Addr} {sl13 : Array (Option Value)} {oc13 kV13 dc13 pm13 cd13 ct13 : Value}
  {f14 : Addr} {od14 an14 : Option Addr} {sl14 : Array (Option Value)} {oc14 kV14 dc14 pm14 cd14 ct14 : Value}
  {f15 : Addr} {od15 an15 : Option Addr} {sl15 : Array (Option Value)} {oc15 kV15 dc15 pm15 cd15 ct15 : Value}
  {t0 : Tok}
  {t1 : Tok}
  (a0 : PySem.W.nsIn K mainGlobals "is_number" = some (some (.ref f0))) (l0 : K.lookup f0 = some ⟨oc0, od0, .func (PySem.W.fnOf "is_number" "is_number" (defArgs (top 4)) (defBody (top 4)) (defScope (top 4)) .none kV0 dc0 pm0 an0 cd0 ct0), sl0⟩) (c0 : PySem.W.codeIn K cd0 "is_number" = true) (k0 : PySem.W.keepIn K (.ref f0) = true)
  (a1 : PySem.W.nsIn K mainGlobals "is_below" = some (some (.ref f1))) (l1 : K.lookup f1 = some ⟨oc1, od1, .func (PySem.W.fnOf "is_below" "is_below" (defArgs (top 6)) (defBody (top 6)) (defScope (top 6)) .none kV1 dc1 pm1 an1 cd1 ct1), sl1⟩) (c1 : PySem.W.codeIn K cd1 "is_below" = true) (k1 : PySem.W.keepIn K (.ref f1) = true)
  (a2 : PySem.W.nsIn K mainGlobals "is_side" = some (some (.ref f2))) (l2 : K.lookup f2 = some ⟨oc2, od2, .func (PySem.W.fnOf "is_side" "is_side" (defArgs (top 10)) (defBody (top 10)) (defScope (top 10)) .none kV2 dc2 pm2 an2 cd2 ct2), sl2⟩) (c2 : PySem.W.codeIn K cd2 "is_side" = true) (k2 : PySem.W.keepIn K (.ref f2) = true)
  (a3 : PySem.W.nsIn K mainGlobals "is_tray" = some (some (.ref f3))) (l3 : K.lookup f3 = some ⟨oc3, od3, .func (PySem.W.fnOf "is_tray" "is_tray" (defArgs (top 11)) (defBody (top 11)) (defScope (top 11)) .none kV3 dc3 pm3 an3 cd3 ct3), sl3⟩) (c3 : PySem.W.codeIn K cd3 "is_tray" = true) (k3 : PySem.W.keepIn K (.ref f3) = true)
  (a4 : PySem.W.nsIn K mainGlobals "check_tray" = some (some (.ref f4))) (l4 : K.lookup f4 = some ⟨oc4, od4, .func (PySem.W.fnOf "check_tray" "check_tray" (defArgs (top 12)) (defBody (top 12)) (defScope (top 12)) .none kV4 dc4 pm4 an4 cd4 ct4), sl4⟩) (c4 : PySem.W.codeIn K cd4 "check_tray" = true) (k4 : PySem.W.keepIn K (.ref f4) = true)
  (a5 : PySem.W.nsIn K mainGlobals "fall" = some (some (.ref f5))) (l5 : K.lookup f5 = some ⟨oc5, od5, .func (PySem.W.fnOf "fall" "fall" (defArgs (top 13)) (defBody (top 13)) (defScope (top 13)) .none kV5 dc5 pm5 an5 cd5 ct5), sl5⟩) (c5 : PySem.W.codeIn K cd5 "fall" = true) (k5 : PySem.W.keepIn K (.ref f5) = true)
  (a6 : PySem.W.nsIn K mainGlobals "come_to_rest" = some (some (.ref f6))) (l6 : K.lookup f6 = some ⟨oc6, od6, .func (PySem.W.fnOf "come_to_rest" "come_to_rest" (defArgs (top 14)) (defBody (top 14)) (defScope (top 14)) .none kV6 dc6 pm6 an6 cd6 ct6), sl6⟩) (c6 : PySem.W.codeIn K cd6 "come_to_rest" = true) (k6 : PySem.W.keepIn K (.ref f6) = true)
  (a7 : PySem.W.nsIn K mainGlobals "as_rows" = some (some (.ref f7))) (l7 : K.lookup f7 = some ⟨oc7, od7, .func (PySem.W.fnOf "as_rows" "as_rows" (defArgs (top 15)) (defBody (top 15)) (defScope (top 15)) .none kV7 dc7 pm7 an7 cd7 ct7), sl7⟩) (c7 : PySem.W.codeIn K cd7 "as_rows" = true) (k7 : PySem.W.keepIn K (.ref f7) = true)
  (a8 : PySem.W.nsIn K mainGlobals "fallen" = some (some (.ref f8))) (l8 : K.lookup f8 = some ⟨oc8, od8, .func (PySem.W.fnOf "fallen" "fallen" (defArgs (top 16)) (defBody (top 16)) (defScope (top 16)) .none kV8 dc8 pm8 an8 cd8 ct8), sl8⟩) (c8 : PySem.W.codeIn K cd8 "fallen" = true) (k8 : PySem.W.keepIn K (.ref f8) = true)
  (a9 : PySem.W.nsIn K mainGlobals "back_and_forth" = some (some (.ref f9))) (l9 : K.lookup f9 = some ⟨oc9, od9, .func (PySem.W.fnOf "back_and_forth" "back_and_forth" (defArgs (top 17)) (defBody (top 17)) (defScope (top 17)) .none kV9 dc9 pm9 an9 cd9 ct9), sl9⟩) (c9 : PySem.W.codeIn K cd9 "back_and_forth" = true) (k9 : PySem.W.keepIn K (.ref f9) = true)
  (a10 : PySem.W.nsIn K mainGlobals "_law_box" = some (some (.ref f10))) (l10 : K.lookup f10 = some ⟨oc10, od10, .func (PySem.W.fnOf "_law_box" "_law_box" (defArgs (top 19)) (defBody (top 19)) (defScope (top 19)) .none kV10 dc10 pm10 an10 cd10 ct10), sl10⟩) (c10 : PySem.W.codeIn K cd10 "_law_box" = true) (k10 : PySem.W.keepIn K (.ref f10) = true)
  (a11 : PySem.W.nsIn K mainGlobals "_law_take" = some (some (.ref f11))) (l11 : K.lookup f11 = some ⟨oc11, od11, .func (PySem.W.fnOf "_law_take" "_law_take" (defArgs (top 20)) (defBody (top 20)) (defScope (top 20)) .none kV11 dc11 pm11 an11 cd11 ct11), sl11⟩) (c11 : PySem.W.codeIn K cd11 "_law_take" = true) (k11 : PySem.W.keepIn K (.ref f11) = true)
  (a12 : PySem.W.nsIn K mainGlobals "_law_sum" = some (some (.ref f12))) (l12 : K.lookup f12 = some ⟨oc12, od12, .func (PySem.W.fnOf "_law_sum" "_law_sum" (defArgs (top 21)) (defBody (top 21)) (defScope (top 21)) .none kV12 dc12 pm12 an12 cd12 ct12), sl12⟩) (c12 : PySem.W.codeIn K cd12 "_law_sum" = true) (k12 : PySem.W.keepIn K (.ref f12) = true)
  (a13 : PySem.W.nsIn K mainGlobals "_law_full" = some (some (.ref f13))) (l13 : K.lookup f13 = some ⟨oc13, od13, .func (PySem.W.fnOf "_law_full" "_law_full" (defArgs (top 22)) (defBody (top 22)) (defScope (top 22)) .none kV13 dc13 pm13 an13 cd13 ct13), sl13⟩) (c13 : PySem.W.codeIn K cd13 "_law_full" = true) (k13 : PySem.W.keepIn K (.ref f13) = true)
  (a14 : PySem.W.nsIn K mainGlobals "_law_burnt" = some (some (.ref f14))) (l14 : K.lookup f14 = some ⟨oc14, od14, .func (PySem.W.fnOf "_law_burnt" "_law_burnt" (defArgs (top 23)) (defBody (top 23)) (defScope (top 23)) .none kV14 dc14 pm14 an14 cd14 ct14), sl14⟩) (c14 : PySem.W.codeIn K cd14 "_law_burnt" = true) (k14 : PySem.W.keepIn K (.ref f14) = true)
  (a15 : PySem.W.nsIn K mainGlobals "law" = some (some (.ref f15))) (l15 : K.lookup f15 = some ⟨oc15, od15, .func (PySem.W.fnOf "law" "law" (defArgs (top 24)) (defBody (top 24)) (defScope (top 24)) .none kV15 dc15 pm15 an15 cd15 ct15), sl15⟩) (c15 : PySem.W.codeIn K cd15 "law" = true) (k15 : PySem.W.keepIn K (.ref f15) = true)
  (g0 : PySem.W.nsIn K mainGlobals "MOST_SIDE" = some (some (.int 6 t0)))
  (g1 : PySem.W.nsIn K mainGlobals "MOST_GRAINS" = some (some (.int 1000 t1)))
  (z0 : PySem.W.nsIn K mainGlobals "isinstance" = some none)
  (z1 : PySem.W.nsIn K mainGlobals "int" = some none)
  (z2 : PySem.W.nsIn K mainGlobals "bool" = some none)
  (z3 : PySem.W.nsIn K mainGlobals "tuple" = some none)
  (z4 : PySem.W.nsIn K mainGlobals "list" = some none)
  (z5 : PySem.W.nsIn K mainGlobals "len" = some none)
  (z6 : PySem.W.nsIn K mainGlobals "abs" = some none)
  (z7 : PySem.W.nsIn K mainGlobals "range" = some none)
  (z8 : PySem.W.nsIn K mainGlobals "zip" = some none)
  (z9 : PySem.W.nsIn K mainGlobals "max" = some none)
  (z10 : PySem.W.nsIn K mainGlobals "all" = some none) :
  MPS.Txt K mg tb fns G [["x"], ["n", "x"], ["x"], ["x"], ["x"], ["grains", "x", "y", "many"], ["grains"], ["rows"], ["tray"], ["wide", "high"], ["script"], ["box", "m"], ["one", "other"], ["wide", "high", "many"], ["wide", "high", "grains"], ["script"]] :=
  MPS.txt_of (.cons (MPS.def_mk X Gn a0 l0 c0 k0 c_is_number fun _ _ _ _ _ _ us hl => match us, hl with | [_], _ => rfl)
  (.cons (MPS.def_mk X Gn a1 l1 c1 k1 c_is_below fun _ _ _ _ _ _ us hl => match us, hl with | [_, _], _ => rfl)
  (.cons (MPS.def_mk X Gn a2 l2 c2 k2 c_is_side fun _ _ _ _ _ _ us hl => match us, hl with | [_], _ => rfl)
  (.cons (MPS.def_mk X Gn a3 l3 c3 k3 c_is_tray fun _ _ _ _ _ _ us hl => match us, hl with | [_], _ => rfl)
  (.cons (MPS.def_mk X Gn a4 l4 c4 k4 c_check_tray fun _ _ _ _ _ _ us hl => match us, hl with | [_], _ => rfl)
  (.cons (MPS.def_mk X Gn a5 l5 c5 k5 c_fall fun _ _ _ _ _ _ us hl => match us, hl with | [_, _, _, _], _ => rfl)
  (.cons (MPS.def_mk X Gn a6 l6 c6 k6 c_come_to_rest fun _ _ _ _ _ _ us hl => match us, hl with | [_], _ => rfl)
  (.cons (MPS.def_mk X Gn a7 l7 c7 k7 c_as_rows fun _ _ _ _ _ _ us hl => match us, hl with | [_], _ => rfl)
  (.cons (MPS.def_mk X Gn a8 l8 c8 k8 c_fallen fun _ _ _ _ _ _ us hl => match us, hl with | [_], _ => rfl)
  (.cons (MPS.def_mk X Gn a9 l9 c9 k9 c_back_and_forth fun _ _ _ _ _ _ us hl => match us, hl with | [_, _], _ => rfl)
  (.cons (MPS.def_mk X Gn a10 l10 c10 k10 c__law_box fun _ _ _ _ _ _ us hl => match us, hl with | [_], _ => rfl)
  (.cons (MPS.def_mk X Gn a11 l11 c11 k11 c__law_take fun _ _ _ _ _ _ us hl => match us, hl with | [_, _], _ => rfl)
  (.cons (MPS.def_mk X Gn a12 l12 c12 k12 c__law_sum fun _ _ _ _ _ _ us hl => match us, hl with | [_, _], _ => rfl)
  (.cons (MPS.def_mk X Gn a13 l13 c13 k13 c__law_full fun _ _ _ _ _ _ us hl => match us, hl with | [_, _, _], _ => rfl)
  (.cons (MPS.def_mk X Gn a14 l14 c14 k14 c__law_burnt fun _ _ _ _ _ _ us hl => match us, hl with | [_, _, _], _ => rfl)
  (.cons (MPS.def_mk X Gn a15 l15 c15 k15 c_law fun _ _ _ _ _ _ us hl => match us, hl with | [_], _ => rfl)
  .nil))))))))))))))))
  (.cons (MPS.glo_int X Gn g0) (.cons (MPS.glo_int X Gn g1) .nil))
  (.cons (PySem.W.mg_none_of X Gn z0) (.cons (PySem.W.mg_none_of X Gn z1) (.cons (PySem.W.mg_none_of X Gn z2) (.cons (PySem.W.mg_none_of X Gn z3) (.cons (PySem.W.mg_none_of X Gn z4) (.cons (PySem.W.mg_none_of X Gn z5) (.cons (PySem.W.mg_none_of X Gn z6) (.cons (PySem.W.mg_none_of X Gn z7) (.cons (PySem.W.mg_none_of X Gn z8) (.cons (PySem.W.mg_none_of X Gn z9) (.cons (PySem.W.mg_none_of X Gn z10) .nil)))))))))))
end K85
open PySem PySem.W PyProof.Rows
set_option maxRecDepth 100000 in
set_option maxHeartbeats 0 in
theorem PySem.Challenge.cw_evenflow_k85_sand_that_comes_back_holds : PySem.Challenge.rw_evenflow_k85_sand_that_comes_back.Holds := by
  w_on; o_law; k_head; (case hw => w_witness2)
  k_fill
  refine MPS.walk (tb := K85.tb) (fns := K85.fns) (G := K85.G) (Wf := 5000) (Kk := 12) (fL := K85.i_law) (l := PySem.Challenge.rw_evenflow_k85_sand_that_comes_back) (pss := [["x"], ["n", "x"], ["x"], ["x"], ["x"], ["grains", "x", "y", "many"], ["grains"], ["rows"], ["tray"], ["wide", "high"], ["script"], ["box", "m"], ["one", "other"], ["wide", "high", "many"], ["wide", "high", "grains"], ["script"]]) (x := "script") rfl rfl ⟨rfl, by decide, by decide⟩ (fun w h Y => PySem.W.kIn_of Y) rfl rfl ?F K85.plain
  case F =>
    intro w mg fa h KX G hmg
    refine' K85.all_mk KX G ?mp_a0 ?mp_l0 ?mp_c0 ?mp_k0 ?mp_a1 ?mp_l1 ?mp_c1 ?mp_k1 ?mp_a2 ?mp_l2 ?mp_c2 ?mp_k2 ?mp_a3 ?mp_l3 ?mp_c3 ?mp_k3 ?mp_a4 ?mp_l4 ?mp_c4 ?mp_k4 ?mp_a5 ?mp_l5 ?mp_c5 ?mp_k5 ?mp_a6 ?mp_l6 ?mp_c6 ?mp_k6 ?mp_a7 ?mp_l7 ?mp_c7 ?mp_k7 ?mp_a8 ?mp_l8 ?mp_c8 ?mp_k8 ?mp_a9 ?mp_l9 ?mp_c9 ?mp_k9 ?mp_a10 ?mp_l10 ?mp_c10 ?mp_k10 ?mp_a11 ?mp_l11 ?mp_c11 ?mp_k11 ?mp_a12 ?mp_l12 ?mp_c12 ?mp_k12 ?mp_a13 ?mp_l13 ?mp_c13 ?mp_k13 ?mp_a14 ?mp_l14 ?mp_c14 ?mp_k14 ?mp_a15 ?mp_l15 ?mp_c15 ?mp_k15 ?mp_g0 ?mp_g1 ?mp_z0 ?mp_z1 ?mp_z2 ?mp_z3 ?mp_z4 ?mp_z5 ?mp_z6 ?mp_z7 ?mp_z8 ?mp_z9 ?mp_z10
    (case mp_a0 => k_is)
    (case mp_l0 => k_is)
    (case mp_c0 => k_is)
    (case mp_k0 => k_is)
    (case mp_a1 => k_is)
    (case mp_l1 => k_is)
    (case mp_c1 => k_is)
    (case mp_k1 => k_is)
    (case mp_a2 => k_is)
    (case mp_l2 => k_is)
    (case mp_c2 => k_is)
    (case mp_k2 => k_is)
    (case mp_a3 => k_is)
    (case mp_l3 => k_is)
    (case mp_c3 => k_is)
    (case mp_k3 => k_is)
    (case mp_a4 => k_is)
    (case mp_l4 => k_is)
    (case mp_c4 => k_is)
    (case mp_k4 => k_is)
    (case mp_a5 => k_is)
    (case mp_l5 => k_is)
    (case mp_c5 => k_is)
    (case mp_k5 => k_is)
    (case mp_a6 => k_is)
    (case mp_l6 => k_is)
    (case mp_c6 => k_is)
    (case mp_k6 => k_is)
    (case mp_a7 => k_is)
    (case mp_l7 => k_is)
    (case mp_c7 => k_is)
    (case mp_k7 => k_is)
    (case mp_a8 => k_is)
    (case mp_l8 => k_is)
    (case mp_c8 => k_is)
    (case mp_k8 => k_is)
    (case mp_a9 => k_is)
    (case mp_l9 => k_is)
    (case mp_c9 => k_is)
    (case mp_k9 => k_is)
    (case mp_a10 => k_is)
    (case mp_l10 => k_is)
    (case mp_c10 => k_is)
    (case mp_k10 => k_is)
    (case mp_a11 => k_is)
    (case mp_l11 => k_is)
    (case mp_c11 => k_is)
    (case mp_k11 => k_is)
    (case mp_a12 => k_is)
    (case mp_l12 => k_is)
    (case mp_c12 => k_is)
    (case mp_k12 => k_is)
    (case mp_a13 => k_is)
    (case mp_l13 => k_is)
    (case mp_c13 => k_is)
    (case mp_k13 => k_is)
    (case mp_a14 => k_is)
    (case mp_l14 => k_is)
    (case mp_c14 => k_is)
    (case mp_k14 => k_is)
    (case mp_a15 => k_is)
    (case mp_l15 => k_is)
    (case mp_c15 => k_is)
    (case mp_k15 => k_is)
    (case mp_g0 => k_is)
    (case mp_g1 => k_is)
    (case mp_z0 => k_is)
    (case mp_z1 => k_is)
    (case mp_z2 => k_is)
    (case mp_z3 => k_is)
    (case mp_z4 => k_is)
    (case mp_z5 => k_is)
    (case mp_z6 => k_is)
    (case mp_z7 => k_is)
    (case mp_z8 => k_is)
    (case mp_z9 => k_is)
    (case mp_z10 => k_is)
