import PyProof.Rows.All
import Wide.All
import OpenK.AllK
import Wide.FinOn
import PySem.Challenge.RW_evenflow_k46_rotors_lead
import HandS.ForMost
import HandS.ForExc
import HandS.Flow
import HandS.TupAny
import HandS.TupMul
import HandS.TupLe
import HandS.Deep
import HandS.IsInst
import HandS.Style
import HandS.Zip
import HandS.Conv
import HandS.Small
import HandS.Wide
import HandS.SortInts
import HandS.Lambda
import KE.KDictKeyed
import PyProof.Rows.IntBool
import KE.DataMinMax
import HandS.SetFor
import HandS.Strs
import KE.GoesMore
import KE.GoesEnum
import HandS.Iter
import HandS.TupSets
import KE.KTupSum
import PyProof.ReprRoads
import PyProof.ReprBulk
import HandS.TupLen
import HandS.More
import HandS.TryMany
import HandS.ExcOwn
import PyProof.Rows.TupDisplay
import HandS.Words
import HandS.WordsExc
import HandS.Ends
import HandS.EndOwn
import KE.KNestM
set_option Elab.async false
set_option linter.all false
set_option maxRecDepth 100000
set_option maxHeartbeats 8000000
/-! Mp: a small deterministic language (the part of Python that the given package is written in), its values and its meaning as a plain function. -/
namespace MP

/-- values: immutable data as trees, mutable lists by their place in the heap -/
inductive D where
  | und | non
  | bl (b : Bool) | int (i : Int) | str (s : List Nat)
  | tup (xs : List D) | lst (xs : List D) | frz (xs : List D)
  | ref (n : Nat) | clo (k : Nat) (env : List D)
  deriving Inhabited

inductive Ob where
  | lst (xs : List D) | dic (kvs : List (D × D)) | set (xs : List D)
  | dct (kvs : List (D × D))
  | hid
  deriving Inhabited

abbrev Env := List D
abbrev Heap := List Ob

/-! ### equality of values -/
mutual
def D.beq : D → D → Bool
  | .und, .und => true
  | .non, .non => true
  | .bl a, .bl b => a == b
  | .int a, .int b => a == b
  | .str a, .str b => a == b
  | .tup xs, .tup ys => D.beqs xs ys
  | .lst xs, .lst ys => D.beqs xs ys
  | .frz xs, .frz ys => D.beqs xs ys
  | .ref a, .ref b => a == b
  | .clo a xs, .clo b ys => a == b && D.beqs xs ys
  | _, _ => false
def D.beqs : List D → List D → Bool
  | [], [] => true
  | x :: xs, y :: ys => D.beq x y && D.beqs xs ys
  | _, _ => false
end
def D.beqp : List (D × D) → List (D × D) → Bool
  | [], [] => true
  | (a, b) :: xs, (c, d) :: ys => D.beq a c && D.beq b d && D.beqp xs ys
  | _, _ => false
def Ob.beq : Ob → Ob → Bool
  | .lst xs, .lst ys => D.beqs xs ys
  | .dic xs, .dic ys => D.beqp xs ys
  | .dct xs, .dct ys => D.beqp xs ys
  | .set xs, .set ys => D.beqs xs ys
  | _, _ => false

/-! Python's == on data -/
mutual
def D.eqv : D → D → Bool
  | .non, .non => true
  | .bl a, .bl b => a == b
  | .bl a, .int j => (if a then 1 else 0) == j
  | .int i, .bl b => i == (if b then 1 else 0)
  | .int i, .int j => i == j
  | .str x, .str y => x == y
  | .lst xs, .lst ys => D.eqvs xs ys
  | .tup xs, .tup ys => D.eqvs xs ys
  | _, _ => false
def D.eqvs : List D → List D → Bool
  | [], [] => true
  | x :: xs, y :: ys => D.eqv x y && D.eqvs xs ys
  | _, _ => false
end

/-! plain data: no place of the heap in it, at most n deep -/
mutual
def D.flat : Nat → D → Bool
  | _, .non => true
  | _, .bl _ => true
  | _, .int _ => true
  | _, .str s => s.all (· < 1114112)
  | n, .tup xs => D.flats n xs
  | n, .lst xs => D.flats n xs
  | _, _ => false
def D.flats : Nat → List D → Bool
  | _, [] => true
  | 0, _ :: _ => false
  | n + 1, x :: xs => D.flat n x && D.flats (n + 1) xs
end
/-! no place from n on -/
mutual
def D.low : Nat → D → Bool
  | n, .ref k => decide (k < n)
  | n, .tup xs => D.lows n xs
  | n, .lst xs => D.lows n xs
  | n, .frz xs => D.lows n xs
  | n, .clo _ xs => D.lows n xs
  | _, _ => true
def D.lows : Nat → List D → Bool
  | _, [] => true
  | n, x :: xs => D.low n x && D.lows n xs
end
def Ob.low (n : Nat) : Ob → Bool
  | .lst xs => D.lows n xs
  | .dic kvs => kvs.all fun p => D.low n p.1 && D.low n p.2
  | .dct kvs => kvs.all fun p => D.low n p.1 && D.low n p.2
  | .set xs => D.lows n xs
  | .hid => true

def DEEP : Nat := 12
/-! what a value is as plain data, places read -/
mutual
def rsv (h : Heap) : Nat → D → Option D
  | 0, _ => none
  | _ + 1, .non => some .non
  | _ + 1, .bl b => some (.bl b)
  | _ + 1, .int i => some (.int i)
  | _ + 1, .str s => if s.all (· < 1114112) then some (.str s) else none
  | n + 1, .tup xs => (rsvs h n xs).map .tup
  | n + 1, .lst xs => (rsvs h n xs).map .lst
  | n + 1, .ref k => match h[k]? with
    | some (.lst xs) => (rsvs h n xs).map .lst
    | _ => none
  | _ + 1, _ => none
def rsvs (h : Heap) : Nat → List D → Option (List D)
  | 0, _ => none
  | _ + 1, [] => some []
  | n + 1, x :: xs => (rsv h n x).bind fun y => (rsvs h (n + 1) xs).map (y :: ·)
end
def rsvD (h : Heap) (d : D) : Option D := if d.flat DEEP then some d else rsv h DEEP d
def eqD (h : Heap) (a b : D) : Option Bool := (rsvD h a).bind fun x => (rsvD h b).map fun y => D.eqv x y

/-! ### results -/
inductive R (α : Type) where
  | ok (a : α) (h : Heap) | exc (c : Nat) (h : Heap) | bad
def R.bind {α β : Type} (r : R α) (f : α → Heap → R β) : R β := match r with
  | .ok a h => f a h
  | .exc c h => .exc c h
  | .bad => .bad
/-- an exception is not meant here -/
def R.calm {α : Type} : R α → R α
  | .ok a h => .ok a h
  | _ => .bad
def R.opt {α : Type} (h : Heap) : Option α → R α
  | some a => .ok a h
  | none => .bad

def SZ : Nat := 16777216
def items (h : Heap) : D → Option (List D)
  | .tup xs => some xs
  | .lst xs => some xs
  | .frz xs => some xs
  | .ref n => match h[n]? with
    | some (.lst xs) => some xs
    | _ => none
  | _ => none
def truthy (h : Heap) : D → Option Bool
  | .non => some false
  | .bl b => some b
  | .int i => some (i != 0)
  | .str s => if s.length ≤ SZ then some (!s.isEmpty) else none
  | .tup xs => some (!xs.isEmpty)
  | .lst xs => some (!xs.isEmpty)
  | .ref n => match h[n]? with
    | some (.lst xs) => some (!xs.isEmpty)
    | _ => none
  | _ => none

/-! ### operators -/
inductive BOp where
  | add (imm : Bool) | sub | mul (imm : Bool) | fdiv | mod | pow
  deriving DecidableEq
inductive COp where
  | eq | ne | lt | le | gt | ge | is | isnot | isin | notin
  deriving DecidableEq
def b2i (b : Bool) : Int := if b then 1 else 0
def newL (imm : Bool) (xs : List D) (h : Heap) : R D :=
  if xs.length ≤ SZ then (if imm then .ok (.lst xs) h else .ok (.ref h.length) (h ++ [.lst xs])) else .bad
def rlist (h : Heap) : D → Option (List D)
  | .lst xs => some xs
  | .ref n => match h[n]? with
    | some (.lst xs) => some xs
    | _ => none
  | _ => none
def smallI (i : Int) : Bool := decide (-18446744073709551616 < i) && decide (i < 18446744073709551616)
/-- below 2 ^ 400000: bits -/
def wideI (i : Int) : Bool := decide (i.natAbs < 2 ^ 200000)
def mulOk (i j : Int) : Bool := smallI i || smallI j || (wideI i && wideI j)
def rep (k : Nat) (xs : List D) : List D := (List.replicate k xs).flatten
def opB (o : BOp) (a b : D) (h : Heap) : R D :=
  match o, a, b with
  | .add _, .int i, .int j => .ok (.int (i + j)) h
  | .add _, .int i, .bl j => .ok (.int (i + b2i j)) h
  | .add _, .bl i, .int j => .ok (.int (b2i i + j)) h
  | .add _, .bl i, .bl j => .ok (.int (b2i i + b2i j)) h
  | .add _, .tup xs, .tup ys => if xs.length + ys.length ≤ SZ then .ok (.tup (xs ++ ys)) h else .bad
  | .add _, .str xs, .str ys => if xs.length + ys.length ≤ SZ then .ok (.str (xs ++ ys)) h else .bad
  | .add m, x, y => match rlist h x, rlist h y with
    | some xs, some ys => if xs.length + ys.length ≤ SZ then newL m (xs ++ ys) h else .bad
    | _, _ => .bad
  | .sub, .int i, .int j => .ok (.int (i - j)) h
  | .sub, .int i, .bl j => .ok (.int (i - b2i j)) h
  | .sub, .bl i, .int j => .ok (.int (b2i i - j)) h
  | .mul _, .int i, .int j => if mulOk i j then .ok (.int (i * j)) h else .bad
  | .mul _, .tup xs, .int k => if xs.isEmpty || decide (k < 2) || decide (1000 < k) || decide (1000 < xs.length) then
      (if k = 1 then .ok (.tup xs) h else .bad) else .ok (.tup (rep k.toNat xs)) h
  | .mul m, x, .int k => match rlist h x with
    | some xs => if decide (k ≤ 4096) && decide (-4096 ≤ k) && decide (xs.length ≤ 4096) then newL m (rep k.toNat xs) h else .bad
    | none => .bad
  | .fdiv, .int i, .int j => if 0 < j ∧ j < 1073741824 then .ok (.int (i / j)) h else if 0 < j ∧ j.natAbs < 2 ^ 8999 then .ok (.int (i / j)) h else .bad
  | .mod, .int i, .int j => if 0 < j then .ok (.int (i % j)) h else .bad
  | .pow, .int i, .int j => if 0 ≤ j ∧ j ≤ 1000 ∧ i.natAbs < 18446744073709551616 then .ok (.int (i ^ j.toNat)) h else .bad
  | _, _, _ => .bad

/-- op= of intsOf -/
def augI (o : BOp) (a b : D) : Option D := match o, a, b with
  | .add _, .int i, .int j => some (.int (i + j))
  | .sub, .int i, .int j => some (.int (i - j))
  | .mul _, .int i, .int j => if mulOk i j then some (.int (i * j)) else none
  | _, _, _ => none
/-- t < u of tuples of intsOf -/
def intsOf : List D → Option (List Int)
  | [] => some []
  | .int i :: r => (intsOf r).map (i :: ·)
  | _ :: _ => none
def lexLt : List Int → List Int → Bool
  | [], [] => false
  | [], _ :: _ => true
  | _ :: _, [] => false
  | x :: xs, y :: ys => if x = y then lexLt xs ys else decide (x < y)
def opC (o : COp) (a b : D) (h : Heap) : Option Bool :=
  match o, a, b with
  | .eq, .int i, .int j => some (i == j)
  | .ne, .int i, .int j => some (!(i == j))
  | .eq, x, y => eqD h x y
  | .ne, x, y => (eqD h x y).map (!·)
  | .lt, .int i, .int j => some (decide (i < j))
  | .le, .int i, .int j => some (decide (i ≤ j))
  | .gt, .int i, .int j => some (decide (j < i))
  | .ge, .int i, .int j => some (decide (j ≤ i))
  | .lt, .tup xs, .tup ys => (intsOf xs).bind fun ns => (intsOf ys).map fun ms => lexLt ns ms
  | .is, x, .non => match x with
    | .non => some true
    | .und => none
    | _ => some false
  | .isnot, x, .non => match x with
    | .non => some false
    | .und => none
    | _ => some true
  | .is, .bl x, .bl y => some (x == y)
  | .isnot, .bl x, .bl y => some (!(x == y))
  | .isin, x, y => (rsvD h x).bind fun d => (rsvD h y).bind fun ys => match ys with
    | .lst zs => some (zs.any fun z => D.eqv z d)
    | .tup zs => some (zs.any fun z => D.eqv z d)
    | _ => none
  | .notin, x, y => (rsvD h x).bind fun d => (rsvD h y).bind fun ys => match ys with
    | .lst zs => some (!zs.any fun z => D.eqv z d)
    | .tup zs => some (!zs.any fun z => D.eqv z d)
    | _ => none
  | _, _, _ => none

/-! ### places -/
def ixN (n : Nat) (i : Int) : Option Nat := if 0 ≤ i then (if i < n then some i.toNat else none) else if -(n : Int) ≤ i then some (i + n).toNat else none
def atI {α : Type} (xs : List α) (i : Int) : Option α := (ixN xs.length i).bind fun j => xs[j]?
def sIx (n d : Nat) : Option Int → Nat
  | none => d
  | some v => if v < 0 then (v + (n : Int)).toNat else min v.toNat n
def cut (xs : List D) (lo hi : Option Int) : List D := (xs.drop (sIx xs.length 0 lo)).take (sIx xs.length xs.length hi - sIx xs.length 0 lo)
def opI (a b : D) (h : Heap) : Option D := match a, b with
  | .tup xs, .int i => atI xs i
  | .lst xs, .int i => atI xs i
  | .frz xs, .int i => atI xs i
  | .ref n, .int i => match h[n]? with
    | some (.lst xs) => atI xs i
    | _ => none
  | _, _ => none
/-! dicts whose keys are whole numbers -/
def kget : List (D × D) → Int → Option D
  | [], _ => none
  | (.int j, d) :: r, i => if j = i then some d else kget r i
  | _ :: r, i => kget r i
def krep (i : Int) (d : D) : List (D × D) → List (D × D)
  | [] => []
  | (.int j, e) :: r => (if j = i then (.int j, d) else (.int j, e)) :: krep i d r
  | p :: r => p :: krep i d r
def kput (kvs : List (D × D)) (i : Int) (d : D) : List (D × D) := if (kget kvs i).isSome then krep i d kvs else kvs ++ [(.int i, d)]
/-! dicts whose keys are tuples: hashable ones, at most 8 deep -/
mutual
def D.hsh : Nat → D → Bool
  | _, .non => true
  | _, .bl _ => true
  | _, .int _ => true
  | _, .str _ => true
  | 0, .tup _ => false
  | n + 1, .tup xs => D.hshs n xs
  | _, _ => false
def D.hshs : Nat → List D → Bool
  | _, [] => true
  | n, x :: xs => D.hsh n x && D.hshs n xs
end
def hkey : D → Bool
  | .tup xs => D.hsh 8 (.tup xs)
  | _ => false
def dget : List (D × D) → D → Option D
  | [], _ => none
  | (k, v) :: r, d => if D.eqv k d then some v else dget r d
def dput (kvs : List (D × D)) (d v : D) : List (D × D) := if (dget kvs d).isSome then kvs.map (fun p => if D.eqv p.1 d then (p.1, v) else p) else kvs ++ [(d, v)]
def opJ (a b : D) (h : Heap) : Option D := match a, b with
  | .ref n, .int i => (match h[n]? with
    | some (.dic kvs) => kget kvs i
    | _ => opI (.ref n) (.int i) h)
  | .ref n, .tup xs => (match h[n]? with
    | some (.dct kvs) => if hkey (.tup xs) then dget kvs (.tup xs) else none
    | _ => none)
  | a, b => opI a b h
def opK (o : COp) (a b : D) (h : Heap) : Option Bool := match o, a, b with
  | .isin, .int i, .ref n => (match h[n]? with
    | some (.dic kvs) => some (kget kvs i).isSome
    | _ => opC .isin (.int i) (.ref n) h)
  | .isin, .tup xs, .ref n => (match h[n]? with
    | some (.dct kvs) => if hkey (.tup xs) then some (dget kvs (.tup xs)).isSome else none
    | some (.dic []) => if hkey (.tup xs) then some false else none
    | _ => opC .isin (.tup xs) (.ref n) h)
  | .notin, .int i, .ref n => (match h[n]? with
    | some (.dic kvs) => some (!(kget kvs i).isSome)
    | _ => opC .notin (.int i) (.ref n) h)
  | .notin, .tup xs, .ref n => (match h[n]? with
    | some (.dct kvs) => if hkey (.tup xs) then some (!(dget kvs (.tup xs)).isSome) else none
    | some (.dic []) => if hkey (.tup xs) then some true else none
    | _ => opC .notin (.tup xs) (.ref n) h)
  | o, a, b => opC o a b h
def part : D → Option (Option Int)
  | .und => some none
  | .int i => some (some i)
  | _ => none
/-- a tuple's or a list's items made anew -/
def remade (imm : Bool) (f : List D → List D) (a : D) (h : Heap) : R D := match a with
  | .tup xs => .ok (.tup (f xs)) h
  | .lst xs => newL imm (f xs) h
  | .ref n => match h[n]? with
    | some (.lst xs) => newL imm (f xs) h
    | _ => .bad
  | _ => .bad
def opV (imm : Bool) (a : D) (h : Heap) : R D := remade imm List.reverse a h

/-! ### built-ins -/
inductive Ty where
  | int | bool | tuple | list | str | dict
  deriving DecidableEq
inductive Blt where
  | len | abs | int | tuple | list (imm : Bool) | listR (imm : Bool) | min2 | max2 | minL | maxL | sumL
  | sorted (imm : Bool) | all | any | isinst (t : Ty) | lenSet | sortedSet (imm : Bool) | repr | repNe
  deriving DecidableEq
def insI (x : Int) : List Int → List Int
  | [] => [x]
  | y :: ys => if x ≤ y then x :: y :: ys else y :: insI x ys
def sortI : List Int → List Int
  | [] => []
  | x :: xs => insI x (sortI xs)
def insT (x : List Int) : List (List Int) → List (List Int)
  | [] => [x]
  | y :: ys => if lexLt y x then y :: insT x ys else x :: y :: ys
def sortT : List (List Int) → List (List Int)
  | [] => []
  | x :: xs => insT x (sortT xs)
/-- tuples of whole numbers -/
def tupsI : List D → Option (List (List Int))
  | [] => some []
  | .tup xs :: r => (intsOf xs).bind fun ns => (tupsI r).map (ns :: ·)
  | _ :: _ => none
def tupI (ns : List Int) : D := .tup (ns.map .int)
/-- whole numbers, or fewer than 64 tuples of whole numbers from 0 on, alike long, in order -/
def sortD (xs : List D) : Option (List D) := match intsOf xs with
  | some ns => some ((sortI ns).map .int)
  | none => (tupsI xs).bind fun ts => match ts with
    | [] => none
    | t :: _ => if decide (ts.length < 64) && decide (1 ≤ t.length) && ts.all (fun ns => decide (ns.length = t.length) && ns.all fun i => decide (0 ≤ i)) then some ((sortT ts).map tupI) else none
def sortOf (h : Heap) : D → Option (List D)
  | .tup xs => (intsOf xs).map fun ns => (sortI ns).map .int
  | x => (rlist h x).bind sortD
def nubI : List Int → List Int
  | [] => []
  | x :: xs => x :: (nubI xs).filter (· != x)
def bools : List D → Option (List Bool)
  | [] => some []
  | .bl b :: r => (bools r).map (b :: ·)
  | _ :: _ => none
def rangeI (a b : Int) : List Int := (List.range (b - a).toNat).map fun (i : Nat) => a + (i : Int)
def big62 (i : Int) : Bool := decide (-4611686018427387904 ≤ i) && decide (i < 4611686018427387904)
def isTy : Ty → D → Option Bool
  | _, .und => none
  | _, .clo _ _ => none
  | _, .frz _ => none
  | t, .non => some false
  | t, .bl _ => some (decide (t = .bool ∨ t = .int))
  | t, .int _ => some (decide (t = .int))
  | t, .str _ => some (decide (t = .str))
  | t, .tup _ => some (decide (t = .tuple))
  | t, .lst _ => some (decide (t = .list))
  | _, .ref _ => none
/-! the text of plain data -/
def cpsOf (s : String) : List Nat := s.toList.map Char.toNat
def joinN : List (List Nat) → List Nat
  | [] => []
  | [x] => x
  | x :: y :: r => x ++ cpsOf ", " ++ joinN (y :: r)
mutual
def D.shw : D → List Nat
  | .non => cpsOf "None"
  | .bl b => cpsOf (if b then "True" else "False")
  | .int i => cpsOf (toString i)
  | .tup xs => cpsOf "(" ++ joinN (D.shws xs) ++ cpsOf (if xs.length == 1 then ",)" else ")")
  | _ => []
def D.shws : List D → List (List Nat)
  | [] => []
  | x :: xs => D.shw x :: D.shws xs
end
mutual
def D.rp : D → Bool
  | .non => true
  | .bl _ => true
  | .int i => decide (i.natAbs < 1000000000000000000000000000000)
  | .tup xs => D.rps xs
  | _ => false
def D.rps : List D → Bool
  | [] => true
  | x :: xs => D.rp x && D.rps xs
end
mutual
def D.bk : D → Nat
  | .tup xs => D.bks xs
  | _ => 0
def D.bks : List D → Nat
  | [] => 0
  | x :: xs => D.bk x + 1 + D.bks xs
end
def opF (f : Blt) (xs : List D) (h : Heap) : R D :=
  match f, xs with
  | .len, [.str s] => if s.length ≤ SZ then .ok (.int s.length) h else .bad
  | .len, [.ref n] => (match h[n]? with
    | some (.dic kvs) => .ok (.int kvs.length) h
    | some (.dct kvs) => .ok (.int kvs.length) h
    | _ => (R.opt h (items h (.ref n))).bind fun ys h => .ok (.int ys.length) h)
  | .len, [x] => (R.opt h (items h x)).bind fun ys h => .ok (.int ys.length) h
  | .abs, [.int i] => .ok (.int (if i < 0 then -i else i)) h
  | .int, [.int i] => .ok (.int i) h
  | .int, [.bl b] => .ok (.int (b2i b)) h
  | .tuple, [.tup xs] => .ok (.tup xs) h
  | .tuple, [x] => (R.opt h (items h x)).bind fun ys h => .ok (.tup ys) h
  | .list imm, [x] => (R.opt h (items h x)).bind fun ys h => newL imm ys h
  | .listR imm, [.int b] => if big62 b && decide (b ≤ 4096) then newL imm ((rangeI 0 b).map .int) h else .bad
  | .listR imm, [.int a, .int b] => if big62 a && big62 b && decide (b - a ≤ 4096) then newL imm ((rangeI a b).map .int) h else .bad
  | .min2, [.int a, .int b] => .ok (.int (if b < a then b else a)) h
  | .max2, [.int a, .int b] => .ok (.int (if b > a then b else a)) h
  | .minL, [x] => (R.opt h ((items h x).bind intsOf)).bind fun ns h => match ns with
    | [] => .bad
    | n :: ns => .ok (.int (ns.foldl min n)) h
  | .maxL, [x] => (R.opt h ((items h x).bind intsOf)).bind fun ns h => match ns with
    | [] => .bad
    | n :: ns => .ok (.int (ns.foldl max n)) h
  | .sumL, [x] => (R.opt h ((items h x).bind intsOf)).bind fun ns h => .ok (.int ns.sum) h
  | .sorted imm, [x] => (R.opt h (sortOf h x)).bind fun ys h => newL imm ys h
  | .sortedSet imm, [x] => (R.opt h ((rlist h x).bind intsOf)).bind fun ns h => if ns.length < 64 then newL imm ((sortI (nubI ns)).map .int) h else .bad
  | .lenSet, [x] => (R.opt h ((rlist h x).bind intsOf)).bind fun ns h => if ns.length < 64 then .ok (.int ((nubI ns).length : Nat)) h else .bad
  | .repr, [.tup xs] => if (D.tup xs).flat DEEP && D.rps xs && decide (D.bks xs ≤ 100000) then .ok (.str (D.tup xs).shw) h else .bad
  | .all, [x] => (R.opt h ((rlist h x).bind bools)).bind fun bs h => .ok (.bl (bs.all id)) h
  | .any, [x] => (R.opt h ((rlist h x).bind bools)).bind fun bs h => .ok (.bl (bs.any id)) h
  | .isinst t, [x] => match x with
    | .ref n => (match h[n]? with
      | some (.lst _) => .ok (.bl (decide (t = .list))) h
      | _ => .bad)
    | x => (R.opt h (isTy t x)).bind fun b h => .ok (.bl b) h
  | _, _ => .bad

/-! ### methods -/
inductive Mth where
  | append | extend | pop | popAt | insert | index | remove | count
  deriving DecidableEq
def setO (h : Heap) (n : Nat) (xs : List D) : Heap := h.set n (.lst xs)
def opM (m : Mth) (o : D) (vs : List D) (h : Heap) : R D :=
  match o with
  | .ref n => (match h[n]? with
    | some (.lst xs) => (match m, vs with
      | .append, [y] => if xs.length < SZ then .ok .non (setO h n (xs ++ [y])) else .bad
      | .extend, [y] => (match rlist h y with
        | some ys => if xs.length + ys.length ≤ SZ then .ok .non (setO h n (xs ++ ys)) else .bad
        | none => .bad)
      | .pop, [] => match xs[xs.length - 1]? with
        | some y => .ok y (setO h n xs.dropLast)
        | none => .bad
      | .popAt, [.int i] => if big62 i then (match ixN xs.length i with
        | some k => match xs[k]? with
          | some y => .ok y (setO h n (xs.eraseIdx k))
          | none => .bad
        | none => .bad) else .bad
      | .insert, [.int i, y] => if decide (0 ≤ i) && big62 i && decide (xs.length < SZ) then .ok .non (setO h n (xs.take i.toNat ++ [y] ++ xs.drop i.toNat)) else .bad
      | _, _ => .bad)
    | _ => .bad)
  | _ => .bad

/-- a list that may be changed -/
def isL (h : Heap) : D → Option Unit
  | .ref n => match h[n]? with
    | some (.lst _) => some ()
    | _ => none
  | _ => none
/-! ### what a loop walks: the items, and the lists that must stay as they are -/
inductive ItK where
  | gen | rng | enum | zip
  deriving DecidableEq
abbrev Gd := List (Nat × List D)
def gdOf (h : Heap) : D → Gd
  | .ref n => match h[n]? with
    | some (.lst xs) => [(n, xs)]
    | _ => []
  | _ => []
def gdOk (h : Heap) (g : Gd) : Bool := g.all fun p => match h[p.1]? with
  | some (.lst xs) => D.beqs xs p.2
  | _ => false
def rangeC (a b c : Int) : List Int :=
  if 0 < c then (List.range ((b - a + c - 1) / c).toNat).map fun (i : Nat) => a + (i : Int) * c
  else (List.range ((a - b - c - 1) / (-c)).toNat).map fun (i : Nat) => a + (i : Int) * c
def enumD : Nat → List D → List D
  | _, [] => []
  | k, x :: xs => .tup [.int k, x] :: enumD (k + 1) xs
def zipD : List D → List D → List D
  | x :: xs, y :: ys => .tup [x, y] :: zipD xs ys
  | _, _ => []
def iterOf (k : ItK) (args : List D) (h : Heap) : Option (List D × Gd) :=
  match k, args with
  | .gen, [x] => (items h x).map fun xs => (xs, gdOf h x)
  | .rng, [.int b] => if big62 b then some ((rangeI 0 b).map .int, []) else none
  | .rng, [.int a, .int b] => if big62 a && big62 b then some ((rangeI a b).map .int, []) else none
  | .enum, [.tup xs] => some (enumD 0 xs, [])
  | .enum, [x] => (rlist h x).map fun xs => (enumD 0 xs, gdOf h x)
  | .zip, [.tup xs, .tup ys] => some (zipD xs ys, [])
  | .zip, [.tup xs, y] => (rlist h y).map fun ys => (zipD xs ys, gdOf h y)
  | .zip, [x, .tup ys] => (rlist h x).map fun xs => (zipD xs ys, gdOf h x)
  | .zip, [x, y] => (rlist h x).bind fun xs => (rlist h y).map fun ys => (zipD xs ys, gdOf h x ++ gdOf h y)
  | _, _ => none

/-! ### expressions -/
inductive E where
  | var (i : Nat) | con (d : D) | glo (j : Nat)
  | nil | cons (a r : E)
  | tup (es : E) | lst (imm : Bool) (es : E)
  | bin (o : BOp) (a b : E) | neg (a : E)
  | cmp (o : COp) (a b : E) | chn (o p : COp) (a b c : E)
  | and2 (a r : E) | or2 (a r : E) | one (a : E) | nt (a : E)
  | ite (c a b : E)
  | idx (a b : E) | slc (imm : Bool) (a lo hi : E) | rev (imm : Bool) (a : E)
  | call (f : Nat) (es : E) | blt (f : Blt) (es : E) | mth (m : Mth) (o es : E)
  | lc (imm : Bool) (tg : E) (k : ItK) (ia c el : E)
  | dct0 | dct1 (k v : E)
  | lamc (hs : List (Nat × List Nat × D)) (d0 : D) (e : E)
  | lc2 (imm : Bool) (tg : E) (k : ItK) (ia c : E) (tg1 : E) (k1 : ItK) (ia1 c1 el : E)
  deriving Inhabited

/-! a comprehension's, a loop's target: names and tuples of such -/
mutual
def bindT : E → D → Env → Option Env
  | .var i, d, env => if i < env.length then some (env.set i d) else none
  | .tup es, .tup ds, env => bindTs es ds env
  | _, _, _ => none
def bindTs : E → List D → Env → Option Env
  | .nil, [], env => some env
  | .cons a r, d :: ds, env => (bindT a d env).bind fun env => bindTs r ds env
  | _, _, _ => none
end

/-! the names of a comprehension's own block start unbound -/
def tgI : E → List Nat
  | .var i => [i]
  | .tup es => tgI es
  | .cons a r => tgI a ++ tgI r
  | _ => []
def clr (env : Env) : List Nat → Env
  | [] => env
  | v :: vs => (clr env vs).set v .und

def compL (f : D → Heap → R (Option D)) (g : Gd) : List D → Heap → R (List D)
  | [], h => if gdOk h g then .ok [] h else .bad
  | x :: xs, h => if gdOk h g then (f x h).bind fun o h1 => (compL f g xs h1).bind fun ys h2 => .ok (match o with | some y => y :: ys | none => ys) h2 else .bad
def compL2 (f : D → Heap → R (List D)) (g : Gd) : List D → Heap → R (List D)
  | [], h => if gdOk h g then .ok [] h else .bad
  | x :: xs, h => if gdOk h g then (f x h).bind fun o h1 => (compL2 f g xs h1).bind fun ys h2 => .ok (o ++ ys) h2 else .bad

def tru (d : D) (h : Heap) : R Bool := R.opt h (truthy h d)
def args : D → List D
  | .tup xs => xs
  | _ => []

/-- {k: v} -/
def newD (k v : D) (h : Heap) : R D := match k with
  | .int i => .ok (.ref h.length) (h ++ [.dic [(.int i, v)]])
  | .tup xs => if hkey (.tup xs) then .ok (.ref h.length) (h ++ [.dct [(.tup xs, v)]]) else .bad
  | _ => .bad
/-- f(lambda: e), f a def that calls it and tells the exceptions -/
def handE : List (Nat × List Nat × D) → Nat → Heap → R D
  | [], _, _ => .bad
  | (_, l, d) :: r, c, h => if l.contains c then .ok d h else handE r c h
def capt (hs : List (Nat × List Nat × D)) (d0 : D) : R D → R D
  | .ok _ h => .ok d0 h
  | .exc c h => handE hs c h
  | .bad => .bad
section
variable (Φ : Nat → List D → Heap → R D) (G : List D)
def eE : E → Env → Heap → R D
  | .var i, env, h => match env[i]? with
    | some .und => .bad
    | some d => .ok d h
    | none => .bad
  | .con d, _, h => .ok d h
  | .glo j, _, h => match G[j]? with
    | some d => .ok d h
    | none => .bad
  | .nil, _, h => .ok (.tup []) h
  | .cons a r, env, h => (eE a env h).bind fun d h1 => (eE r env h1).bind fun ds h2 => .ok (.tup (d :: args ds)) h2
  | .tup es, env, h => eE es env h
  | .lst imm es, env, h => (eE es env h).bind fun d h1 => newL imm (args d) h1
  | .bin o a b, env, h => (eE a env h).bind fun x h1 => (eE b env h1).bind fun y h2 => opB o x y h2
  | .neg a, env, h => (eE a env h).bind fun x h1 => match x with
    | .int i => .ok (.int (-i)) h1
    | _ => .bad
  | .cmp o a b, env, h => (eE a env h).bind fun x h1 => (eE b env h1).bind fun y h2 => (R.opt h2 (opK o x y h2)).bind fun b h => .ok (.bl b) h
  | .chn o p a b c, env, h => (eE a env h).bind fun x h1 => (eE b env h1).bind fun y h2 => (R.opt h2 (opC o x y h2)).bind fun k h3 =>
      if k then (eE c env h3).bind fun z h4 => (R.opt h4 (opC p y z h4)).bind fun b h => .ok (.bl b) h else .ok (.bl false) h3
  | .and2 a r, env, h => (eE a env h).bind fun x h1 => (tru x h1).bind fun k h2 => if k then eE r env h2 else .ok x h2
  | .or2 a r, env, h => (eE a env h).bind fun x h1 => (tru x h1).bind fun k h2 => if k then .ok x h2 else eE r env h2
  | .one a, env, h => eE a env h
  | .nt a, env, h => (eE a env h).bind fun x h1 => (tru x h1).bind fun k h2 => .ok (.bl (!k)) h2
  | .ite c a b, env, h => (eE c env h).bind fun x h1 => (tru x h1).bind fun k h2 => if k then eE a env h2 else eE b env h2
  | .idx a b, env, h => (eE a env h).bind fun x h1 => (eE b env h1).bind fun y h2 => R.opt h2 (opJ x y h2)
  | .dct0, _, h => .ok (.ref h.length) (h ++ [.dic []])
  | .dct1 k v, env, h => (eE k env h).calm.bind fun x h1 => (eE v env h1).calm.bind fun y h2 => newD x y h2
  | .lamc hs d0 e, env, h => capt hs d0 (eE e env h)
  | .slc imm a lo hi, env, h => (eE a env h).bind fun x h1 => ((eE lo env h1).bind fun d h => R.opt h (part d)).bind fun l h2 => ((eE hi env h2).bind fun d h => R.opt h (part d)).bind fun u h3 => remade imm (fun xs => cut xs l u) x h3
  | .rev imm a, env, h => (eE a env h).bind fun x h1 => opV imm x h1
  | .call f es, env, h => (eE es env h).bind fun ds h1 => Φ f (args ds) h1
  | .blt f es, env, h => (eE es env h).bind fun ds h1 => opF f (args ds) h1
  | .mth m o es, env, h => (eE o env h).bind fun x h1 => (R.opt h1 (isL h1 x)).bind fun _ h2 => (eE es env h2).bind fun ds h3 => opM m x (args ds) h3
  | .lc imm tg k ia c el, env, h => (eE ia env h).bind fun ds h1 => match iterOf k (args ds) h1 with
    | none => .bad
    | some (xs, g) => (compL (fun x h => match bindT tg x (clr env (tgI tg)) with
        | none => .bad
        | some env' => ((eE c env' h).bind tru).calm.bind fun b h => if b then (eE el env' h).calm.bind fun y h => .ok (some y) h else .ok none h) g xs h1).bind fun ys h2 => newL imm ys h2
  | .lc2 imm tg k ia c tg1 k1 ia1 c1 el, env, h => (eE ia env h).bind fun ds h1 => match iterOf k (args ds) h1 with
    | none => .bad
    | some (xs, g) => (compL2 (fun x h => match bindT tg x (clr env (tgI tg ++ tgI tg1)) with
        | none => .bad
        | some env' => ((eE c env' h).bind tru).calm.bind fun b h => if b then (eE ia1 env' h).calm.bind fun ds h1 => match iterOf k1 (args ds) h1 with
            | none => .bad
            | some (xs1, g1) => compL (fun x h => match bindT tg1 x (clr env' (tgI tg1)) with
              | none => .bad
              | some env' => ((eE c1 env' h).bind tru).calm.bind fun b h => if b then (eE el env' h).calm.bind fun y h => .ok (some y) h else .ok none h) (g ++ g1) xs1 h1
          else .ok [] h) g xs h1).bind fun ys h2 => newL imm ys h2

/-- how many targets -/
def elen : E → Nat
  | .cons _ r => elen r + 1
  | _ => 0
/-! ### statements -/
inductive Fl where
  | nxt (env : Env) | ret (d : D) | brk (env : Env) | cnt (env : Env)
inductive S where
  | pass | asg (t e : E) | par (is : List Nat) (es : E) | aug (o : BOp) (t e : E) | exp (e : E)
  | ite (c : E) (a b : S) | whl (c : E) (b : S) | for (t : E) (k : ItK) (ia : E) (b : S)
  | ret (e : E) | retN | brk | cnt | rai (c : Nat) | bad
  | tri (hs : List (Nat × List Nat × D)) (e : E)
  | nil | cons (a r : S)
  deriving Inhabited

def setL (o i v : D) (h : Heap) : R Unit := match o, i with
  | .ref n, .int i => (match h[n]? with
    | some (.lst xs) => match ixN xs.length i with
      | some j => .ok () (setO h n (xs.set j v))
      | none => .bad
    | _ => .bad)
  | _, _ => .bad
def setJ (o i v : D) (h : Heap) : R Unit := match o, i with
  | .ref n, .int i => (match h[n]? with
    | some (.dic kvs) => if kvs.length < SZ then .ok () (h.set n (.dic (kput kvs i v))) else .bad
    | _ => setL (.ref n) (.int i) v h)
  | .ref n, .tup xs => (match h[n]? with
    | some (.dct kvs) => if hkey (.tup xs) && decide (kvs.length < SZ) then .ok () (h.set n (.dct (dput kvs (.tup xs) v))) else .bad
    | some (.dic []) => if hkey (.tup xs) then .ok () (h.set n (.dct [(.tup xs, v)])) else .bad
    | _ => .bad)
  | o, i => setL o i v h
mutual
def setT : E → D → Env → Heap → R Env
  | .var i, d, env, h => if i < env.length then .ok (env.set i d) h else .bad
  | .idx a b, d, env, h => (eE Φ G a env h).bind fun x h1 => (eE Φ G b env h1).bind fun y h2 => (setJ x y d h2).bind fun _ h3 => .ok env h3
  | .tup es, .tup ds, env, h => if ds.length = elen es then setTs es ds env h else .bad
  | _, _, _, _ => .bad
def setTs : E → List D → Env → Heap → R Env
  | .nil, [], env, h => .ok env h
  | .cons a r, d :: ds, env, h => (setT a d env h).bind fun env h => setTs r ds env h
  | _, _, _, _ => .bad
end
def setN : List Nat → List D → Env → Option Env
  | [], [], env => some env
  | i :: is, d :: ds, env => if i < env.length then setN is ds (env.set i d) else none
  | _, _, _ => none
def loop (c : Env → Heap → R Bool) (b : Env → Heap → R Fl) : Nat → Env → Heap → R Fl
  | 0, _, _ => .bad
  | n + 1, env, h => (c env h).bind fun k h1 => if k then (b env h1).bind fun f h2 => match f with
      | .nxt env' => loop c b n env' h2
      | .cnt env' => loop c b n env' h2
      | .brk env' => .ok (.nxt env') h2
      | .ret d => .ok (.ret d) h2
    else .ok (.nxt env) h1
def forL (t : D → Env → Heap → R Env) (b : Env → Heap → R Fl) (g : Gd) : List D → Env → Heap → R Fl
  | [], env, h => if gdOk h g then .ok (.nxt env) h else .bad
  | x :: xs, env, h => if gdOk h g then (t x env h).bind fun env h => (b env h).bind fun f h2 => match f with
      | .nxt env' => forL t b g xs env' h2
      | .cnt env' => forL t b g xs env' h2
      | .brk env' => .ok (.nxt env') h2
      | .ret d => .ok (.ret d) h2
    else .bad
/-- try: return e / except c: return d .. -/
def hand : List (Nat × List Nat × D) → Nat → Heap → R Fl
  | [], c, h => .exc c h
  | (_, l, d) :: r, c, h => if l.contains c then .ok (.ret d) h else hand r c h
def caught (hs : List (Nat × List Nat × D)) : R D → R Fl
  | .ok d h => .ok (.ret d) h
  | .exc c h => hand hs c h
  | .bad => .bad
def eS (W : Nat) : S → Env → Heap → R Fl
  | .pass, env, h => .ok (.nxt env) h
  | .asg t e, env, h => (eE Φ G e env h).bind fun d h1 => (setT Φ G t d env h1).bind fun env h2 => .ok (.nxt env) h2
  | .par is es, env, h => (eE Φ G es env h).bind fun ds h1 => (R.opt h1 (setN is (args ds) env)).bind fun env h2 => .ok (.nxt env) h2
  | .aug o t e, env, h => (match t with
    | .var i => (eE Φ G (.var i) env h).bind fun x h1 => (eE Φ G e env h1).bind fun y h2 => (R.opt h2 (augI o x y)).bind fun z h3 => if i < env.length then .ok (.nxt (env.set i z)) h3 else .bad
    | .idx a b => (eE Φ G a env h).bind fun x h1 => (eE Φ G b env h1).bind fun i h2 => (R.opt h2 ((isL h2 x).bind fun _ => opI x i h2)).bind fun y h3 => (eE Φ G e env h3).bind fun z h4 => (R.opt h4 (augI o y z)).bind fun u h5 =>
        (setL x i u h5).bind fun _ h6 => .ok (.nxt env) h6
    | _ => .bad)
  | .exp e, env, h => (eE Φ G e env h).bind fun _ h1 => .ok (.nxt env) h1
  | .ite c a b, env, h => (eE Φ G c env h).bind fun x h1 => (tru x h1).bind fun k h2 => if k then eS W a env h2 else eS W b env h2
  | .whl c b, env, h => loop (fun env h => (eE Φ G c env h).bind fun x h1 => tru x h1) (fun env h => eS W b env h) W env h
  | .for t k ia b, env, h => (eE Φ G ia env h).bind fun ds h1 => match iterOf k (args ds) h1 with
    | none => .bad
    | some (xs, g) => forL (fun x env h => R.opt h (bindT t x env)) (fun env h => eS W b env h) g xs env h1
  | .ret e, env, h => (eE Φ G e env h).bind fun d h1 => .ok (.ret d) h1
  | .retN, _, h => .ok (.ret .non) h
  | .brk, env, h => .ok (.brk env) h
  | .cnt, env, h => .ok (.cnt env) h
  | .rai c, _, h => .exc c h
  | .bad, _, _ => .bad
  | .tri hs e, env, h => caught hs (eE Φ G e env h)
  | .nil, env, h => .ok (.nxt env) h
  | .cons a r, env, h => (eS W a env h).bind fun f h1 => match f with
    | .nxt env' => eS W r env' h1
    | f => .ok f h1
end

/-! ### defs -/
structure Fn where
  np : Nat
  ns : Nat
  body : S
  deriving Inhabited
def trim (n : Nat) (h : Heap) : Heap := if (h.take n).all (Ob.low n) then h.take n else h
def back (n : Nat) : R Fl → R D
  | .ok (.ret d) h => if d.low n && (h.take n).all (Ob.low n) then .ok d (h.take n) else .ok d h
  | .ok (.nxt _) h => .ok .non (trim n h)
  | .exc c h => .exc c (trim n h)
  | _ => .bad
def callF (fns : List Fn) (G : List D) (W : Nat) : Nat → Nat → List D → Heap → R D
  | 0, _, _, _ => .bad
  | k + 1, f, ds, h => match fns[f]? with
    | none => .bad
    | some fn => if ds.length = fn.np then back h.length (eS (callF fns G W k) G W fn.body (ds ++ List.replicate (fn.ns - fn.np) .und) h) else .bad
end MP
namespace MP
section
variable (Φ : Nat → List D → Heap → R D) (G : List D) (env : Env) (h : Heap)
theorem eE_var (i : Nat) : eE Φ G (.var i) env h = (match env[i]? with | some .und => .bad | some d => .ok d h | none => .bad) := rfl
theorem eE_con (d : D) : eE Φ G (.con d) env h = .ok d h := rfl
theorem eE_glo (j : Nat) : eE Φ G (.glo j) env h = (match G[j]? with | some d => .ok d h | none => .bad) := rfl
theorem eE_nil : eE Φ G .nil env h = .ok (.tup []) h := rfl
theorem eE_cons (a r : E) : eE Φ G (.cons a r) env h = (eE Φ G a env h).bind fun d h1 => (eE Φ G r env h1).bind fun ds h2 => .ok (.tup (d :: args ds)) h2 := rfl
theorem eE_tup (es : E) : eE Φ G (.tup es) env h = eE Φ G es env h := rfl
theorem eE_lst (imm : Bool) (es : E) : eE Φ G (.lst imm es) env h = (eE Φ G es env h).bind fun d h1 => newL imm (args d) h1 := rfl
theorem eE_bin (o : BOp) (a b : E) : eE Φ G (.bin o a b) env h = (eE Φ G a env h).bind fun x h1 => (eE Φ G b env h1).bind fun y h2 => opB o x y h2 := rfl
theorem eE_neg (a : E) : eE Φ G (.neg a) env h = (eE Φ G a env h).bind fun x h1 => match x with | .int i => .ok (.int (-i)) h1 | _ => .bad := rfl
theorem eE_cmp (o : COp) (a b : E) : eE Φ G (.cmp o a b) env h = (eE Φ G a env h).bind fun x h1 => (eE Φ G b env h1).bind fun y h2 => (R.opt h2 (opK o x y h2)).bind fun b h => .ok (.bl b) h := rfl
theorem eE_chn (o p : COp) (a b c : E) : eE Φ G (.chn o p a b c) env h = (eE Φ G a env h).bind fun x h1 => (eE Φ G b env h1).bind fun y h2 => (R.opt h2 (opC o x y h2)).bind fun k h3 =>
      if k then (eE Φ G c env h3).bind fun z h4 => (R.opt h4 (opC p y z h4)).bind fun b h => .ok (.bl b) h else .ok (.bl false) h3 := rfl
theorem eE_and2 (a r : E) : eE Φ G (.and2 a r) env h = (eE Φ G a env h).bind fun x h1 => (tru x h1).bind fun k h2 => if k then eE Φ G r env h2 else .ok x h2 := rfl
theorem eE_or2 (a r : E) : eE Φ G (.or2 a r) env h = (eE Φ G a env h).bind fun x h1 => (tru x h1).bind fun k h2 => if k then .ok x h2 else eE Φ G r env h2 := rfl
theorem eE_one (a : E) : eE Φ G (.one a) env h = eE Φ G a env h := rfl
theorem eE_nt (a : E) : eE Φ G (.nt a) env h = (eE Φ G a env h).bind fun x h1 => (tru x h1).bind fun k h2 => .ok (.bl (!k)) h2 := rfl
theorem eE_ite (c a b : E) : eE Φ G (.ite c a b) env h = (eE Φ G c env h).bind fun x h1 => (tru x h1).bind fun k h2 => if k then eE Φ G a env h2 else eE Φ G b env h2 := rfl
theorem eE_idx (a b : E) : eE Φ G (.idx a b) env h = (eE Φ G a env h).bind fun x h1 => (eE Φ G b env h1).bind fun y h2 => R.opt h2 (opJ x y h2) := rfl
theorem eE_dct0 : eE Φ G .dct0 env h = .ok (.ref h.length) (h ++ [.dic []]) := rfl
theorem eE_dct1 (k v : E) : eE Φ G (.dct1 k v) env h = (eE Φ G k env h).calm.bind fun x h1 => (eE Φ G v env h1).calm.bind fun y h2 => newD x y h2 := rfl
theorem eE_lamc (hs : List (Nat × List Nat × D)) (d0 : D) (e : E) : eE Φ G (.lamc hs d0 e) env h = capt hs d0 (eE Φ G e env h) := rfl
theorem eE_slc (imm : Bool) (a lo hi : E) : eE Φ G (.slc imm a lo hi) env h = (eE Φ G a env h).bind fun x h1 => ((eE Φ G lo env h1).bind fun d h => R.opt h (part d)).bind fun l h2 => ((eE Φ G hi env h2).bind fun d h => R.opt h (part d)).bind fun u h3 => remade imm (fun xs => cut xs l u) x h3 := rfl
theorem eE_rev (imm : Bool) (a : E) : eE Φ G (.rev imm a) env h = (eE Φ G a env h).bind fun x h1 => opV imm x h1 := rfl
theorem eE_call (f : Nat) (es : E) : eE Φ G (.call f es) env h = (eE Φ G es env h).bind fun ds h1 => Φ f (args ds) h1 := rfl
theorem eE_blt (f : Blt) (es : E) : eE Φ G (.blt f es) env h = (eE Φ G es env h).bind fun ds h1 => opF f (args ds) h1 := rfl
theorem eE_mth (m : Mth) (o es : E) : eE Φ G (.mth m o es) env h = (eE Φ G o env h).bind fun x h1 => (R.opt h1 (isL h1 x)).bind fun _ h2 => (eE Φ G es env h2).bind fun ds h3 => opM m x (args ds) h3 := rfl
/-- a turn of a comprehension's last clause -/
def turnL (tg c el : E) (env : Env) (x : D) (h : Heap) : R (Option D) := match bindT tg x env with
  | none => .bad
  | some env' => ((eE Φ G c env' h).bind tru).calm.bind fun b h => if b then (eE Φ G el env' h).calm.bind fun y h => .ok (some y) h else .ok none h
/-- of the first of two -/
def turnL2 (g : Gd) (tg c tg1 : E) (k1 : ItK) (ia1 c1 el : E) (env : Env) (x : D) (h : Heap) : R (List D) := match bindT tg x env with
  | none => .bad
  | some env' => ((eE Φ G c env' h).bind tru).calm.bind fun b h => if b then (eE Φ G ia1 env' h).calm.bind fun ds h1 => match iterOf k1 (args ds) h1 with
      | none => .bad
      | some (xs1, g1) => compL (turnL Φ G tg1 c1 el (clr env' (tgI tg1))) (g ++ g1) xs1 h1
    else .ok [] h
theorem eE_lc (imm : Bool) (tg : E) (k : ItK) (ia c el : E) : eE Φ G (.lc imm tg k ia c el) env h = (eE Φ G ia env h).bind fun ds h1 => match iterOf k (args ds) h1 with
    | none => .bad
    | some (xs, g) => (compL (turnL Φ G tg c el (clr env (tgI tg))) g xs h1).bind fun ys h2 => newL imm ys h2 := rfl
theorem eE_lc2 (imm : Bool) (tg : E) (k : ItK) (ia c tg1 : E) (k1 : ItK) (ia1 c1 el : E) : eE Φ G (.lc2 imm tg k ia c tg1 k1 ia1 c1 el) env h = (eE Φ G ia env h).bind fun ds h1 => match iterOf k (args ds) h1 with
    | none => .bad
    | some (xs, g) => (compL2 (turnL2 Φ G g tg c tg1 k1 ia1 c1 el (clr env (tgI tg ++ tgI tg1))) g xs h1).bind fun ys h2 => newL imm ys h2 := rfl
variable (W : Nat)
theorem eS_pass : eS Φ G W .pass env h = .ok (.nxt env) h := rfl
theorem eS_asg (t e : E) : eS Φ G W (.asg t e) env h = (eE Φ G e env h).bind fun d h1 => (setT Φ G t d env h1).bind fun env h2 => .ok (.nxt env) h2 := rfl
theorem eS_par (is : List Nat) (es : E) : eS Φ G W (.par is es) env h = (eE Φ G es env h).bind fun ds h1 => (R.opt h1 (setN is (args ds) env)).bind fun env h2 => .ok (.nxt env) h2 := rfl
theorem eS_augV (o : BOp) (i : Nat) (e : E) : eS Φ G W (.aug o (.var i) e) env h = (eE Φ G (.var i) env h).bind fun x h1 => (eE Φ G e env h1).bind fun y h2 => (R.opt h2 (augI o x y)).bind fun z h3 => if i < env.length then .ok (.nxt (env.set i z)) h3 else .bad := rfl
theorem eS_augI (o : BOp) (a b e : E) : eS Φ G W (.aug o (.idx a b) e) env h = (eE Φ G a env h).bind fun x h1 => (eE Φ G b env h1).bind fun i h2 => (R.opt h2 ((isL h2 x).bind fun _ => opI x i h2)).bind fun y h3 => (eE Φ G e env h3).bind fun z h4 => (R.opt h4 (augI o y z)).bind fun u h5 =>
        (setL x i u h5).bind fun _ h6 => .ok (.nxt env) h6 := rfl
theorem eS_bad : eS Φ G W .bad env h = .bad := rfl
theorem eS_exp (e : E) : eS Φ G W (.exp e) env h = (eE Φ G e env h).bind fun _ h1 => .ok (.nxt env) h1 := rfl
theorem eS_ite (c : E) (a b : S) : eS Φ G W (.ite c a b) env h = (eE Φ G c env h).bind fun x h1 => (tru x h1).bind fun k h2 => if k then eS Φ G W a env h2 else eS Φ G W b env h2 := rfl
theorem eS_whl (c : E) (b : S) : eS Φ G W (.whl c b) env h = loop (fun env h => (eE Φ G c env h).bind fun x h1 => tru x h1) (fun env h => eS Φ G W b env h) W env h := rfl
theorem eS_for (t : E) (k : ItK) (ia : E) (b : S) : eS Φ G W (.for t k ia b) env h = (eE Φ G ia env h).bind fun ds h1 => match iterOf k (args ds) h1 with
    | none => .bad
    | some (xs, g) => forL (fun x env h => R.opt h (bindT t x env)) (fun env h => eS Φ G W b env h) g xs env h1 := rfl
theorem eS_ret (e : E) : eS Φ G W (.ret e) env h = (eE Φ G e env h).bind fun d h1 => .ok (.ret d) h1 := rfl
theorem eS_retN : eS Φ G W .retN env h = .ok (.ret .non) h := rfl
theorem eS_brk : eS Φ G W .brk env h = .ok (.brk env) h := rfl
theorem eS_cnt : eS Φ G W .cnt env h = .ok (.cnt env) h := rfl
theorem eS_tri (hs : List (Nat × List Nat × D)) (e : E) : eS Φ G W (.tri hs e) env h = caught hs (eE Φ G e env h) := rfl
theorem eS_rai (c : Nat) : eS Φ G W (.rai c) env h = .exc c h := rfl
theorem eS_nil : eS Φ G W .nil env h = .ok (.nxt env) h := rfl
theorem eS_cons (a r : S) : eS Φ G W (.cons a r) env h = (eS Φ G W a env h).bind fun f h1 => match f with
    | .nxt env' => eS Φ G W r env' h1
    | f => .ok f h1 := rfl
end
theorem opK_eq (a b : D) (h : Heap) : opK .eq a b h = opC .eq a b h := rfl
theorem opK_ne (a b : D) (h : Heap) : opK .ne a b h = opC .ne a b h := rfl
theorem opK_lt (a b : D) (h : Heap) : opK .lt a b h = opC .lt a b h := rfl
theorem opK_le (a b : D) (h : Heap) : opK .le a b h = opC .le a b h := rfl
theorem opK_gt (a b : D) (h : Heap) : opK .gt a b h = opC .gt a b h := rfl
theorem opK_ge (a b : D) (h : Heap) : opK .ge a b h = opC .ge a b h := rfl
/-! what holds of the plain reading holds of that which knows dicts -/
theorem opJ_of {x y z : D} {h : Heap} (e : opI x y h = some z) : opJ x y h = some z := by
  unfold opJ
  split
  · split
    · rename_i n i kvs e2
      unfold opI at e
      simp only [e2] at e
      cases e
    · exact e
  · cases e
  · exact e
/-- what a look at a dict gives: nothing -/
theorem rsv_none {h : Heap} {n : Nat} (e : ∀ xs, h[n]? ≠ some (.lst xs)) : rsvD h (.ref n) = none := by
  unfold rsvD
  have f : D.flat DEEP (.ref n) = false := rfl
  rw [f]
  show rsv h DEEP (.ref n) = none
  unfold DEEP
  rw [rsv]
  split
  · rename_i xs q; exact absurd q (e xs)
  · rfl
theorem rsv_dic {h : Heap} {n : Nat} {kvs : List (D × D)} (e : h[n]? = some (.dic kvs)) : rsvD h (.ref n) = none := rsv_none fun xs z => by rw [e] at z; cases z
theorem rsv_dct {h : Heap} {n : Nat} {kvs : List (D × D)} (e : h[n]? = some (.dct kvs)) : rsvD h (.ref n) = none := rsv_none fun xs z => by rw [e] at z; cases z
theorem isin_none {h : Heap} {x : D} {n : Nat} (e : rsvD h (.ref n) = none) : opC .isin x (.ref n) h = none := by
  have z : opC .isin x (.ref n) h = (rsvD h x).bind fun d => (rsvD h (.ref n)).bind fun ys => match ys with
    | .lst zs => some (zs.any fun z => D.eqv z d)
    | .tup zs => some (zs.any fun z => D.eqv z d)
    | _ => none := by cases x <;> rfl
  rw [z, e]
  cases rsvD h x <;> rfl
theorem notin_none {h : Heap} {x : D} {n : Nat} (e : rsvD h (.ref n) = none) : opC .notin x (.ref n) h = none := by
  have z : opC .notin x (.ref n) h = (rsvD h x).bind fun d => (rsvD h (.ref n)).bind fun ys => match ys with
    | .lst zs => some (!zs.any fun z => D.eqv z d)
    | .tup zs => some (!zs.any fun z => D.eqv z d)
    | _ => none := by cases x <;> rfl
  rw [z, e]
  cases rsvD h x <;> rfl
theorem opK_of {o : COp} {x y : D} {k : Bool} {h : Heap} (e : opC o x y h = some k) : opK o x y h = some k := by
  unfold opK
  split
  · split
    · rename_i e2
      rw [isin_none (rsv_dic e2)] at e
      cases e
    · exact e
  · split
    · rename_i e2
      rw [isin_none (rsv_dct e2)] at e
      cases e
    · rename_i e2
      rw [isin_none (rsv_dic e2)] at e
      cases e
    · exact e
  · split
    · rename_i e2
      rw [notin_none (rsv_dic e2)] at e
      cases e
    · exact e
  · split
    · rename_i e2
      rw [notin_none (rsv_dct e2)] at e
      cases e
    · rename_i e2
      rw [notin_none (rsv_dic e2)] at e
      cases e
    · exact e
  · exact e
theorem setJ_of {o i v : D} {h h' : Heap} {u : Unit} (e : setL o i v h = .ok u h') : setJ o i v h = .ok u h' := by
  unfold setJ
  split
  · split
    · rename_i n i kvs e2
      unfold setL at e
      simp only [e2] at e
      cases e
    · exact e
  · cases e
  · exact e
end MP
namespace MPS
open PySem PySem.Spec PyProof.Rows L2
/-- code objects' tables: where they stand, and the name of the codes in them -/
class Tbs where
  l : List (Addr × Str)
  c : List (Addr × Addr)
  w : World
variable [Tbs]

/-! ### how values stand in the abstract heap -/
/-- the places of the small heap, and the addresses that no value may name (lists that are being made) -/
structure Pl where
  at_ : List Addr
  ban : List Addr
/-- one place more -/
abbrev Pl.add (m : Pl) (p : Addr) : Pl := ⟨m.at_ ++ [p], m.ban⟩
/-- a list that is being made -/
abbrev Pl.hide (m : Pl) (p : Addr) : Pl := ⟨m.at_, p :: m.ban⟩
/-- no table -/
abbrev NT (o : HO) : Prop := ∀ ps, o ≠ .tbl ps
theorem nt_lst {vs : List V} : NT (.lst vs) := fun _ z => by cases z
theorem nt_frz {o : Obj} {u : HO} : NT (.frz o u) := fun _ z => by cases z
theorem nt_tup {vs : List V} : NT (.tup vs) := fun _ z => by cases z
theorem nt_dK {vs : List (Key × V)} : NT (.dK vs) := fun _ z => by cases z
/-- a list that nothing changes: locked, tracked apart, or of the module -/
def Fz (K : PySem.W.Frag) (m : Pl) (H : Hp) (a : Addr) (vs : List V) : Prop :=
  (Rd H a (.lst vs) ∧ a ∉ m.at_ ∧ a ∉ m.ban) ∨ ∃ (o : Obj) (its : Array Value) (n : Nat), K.lookup a = some o ∧ o.cls = .type "list" ∧ o.dict = none ∧ o.data = .seq its n ∧ its.size ≤ sizeLine ∧ Vals vs its.toList
theorem Fz.sq {K : PySem.W.Frag} {m : Pl} {H : Hp} {a : Addr} {vs : List V} (h : Fz K m H a vs) : SqL K H a vs := h.elim (fun x => .inl x.1) .inr
section
variable (K : PySem.W.Frag)
mutual
inductive Rel (m : Pl) (H : Hp) : MP.D → V → Prop
  | non : Rel m H .non .non
  | bl (b : Bool) : Rel m H (.bl b) (.bl b)
  | int (i : Int) : Rel m H (.int i) (.int i)
  | str (x : Str) : Rel m H (.str x.cps.toList) (.str x)
  | tup {a : Addr} {vs : List V} {ds : List MP.D} (h : SqT K H a vs) (r : Rels m H ds vs) : Rel m H (.tup ds) (.ref a)
  | lst {a : Addr} {vs : List V} {ds : List MP.D} (h : H a = some (.lst vs)) (n : a ∉ m.at_) (nb : a ∉ m.ban) (r : Rels m H ds vs) : Rel m H (.lst ds) (.ref a)
  | frz {a : Addr} {vs : List V} {ds : List MP.D} (h : Fz K m H a vs) (r : Rels m H ds vs) : Rel m H (.frz ds) (.ref a)
  | ref {a : Addr} {n : Nat} (h : m.at_[n]? = some a) : Rel m H (.ref n) (.ref a)
inductive Rels (m : Pl) (H : Hp) : List MP.D → List V → Prop
  | nil : Rels m H [] []
  | cons {d : MP.D} {v : V} {ds : List MP.D} {vs : List V} (h : Rel m H d v) (r : Rels m H ds vs) : Rels m H (d :: ds) (v :: vs)
end
end
/-! ### dicts whose keys are tuples -/
mutual
def nk : MP.D → NestedKey
  | .non => .none
  | .bl b => .num (if b = true then 1 else 0)
  | .int i => .num i
  | .str s => .text ⟨s.toArray⟩
  | .tup xs => .tup (nks xs)
  | _ => .none
def nks : List MP.D → List NestedKey
  | [] => []
  | x :: xs => nk x :: nks xs
end
def entN (w : World) (x : NestedKey × Addr × Value) : DictEntry := ⟨x.1.hash w, .ref x.2.1, x.2.2⟩
/-- what is true of a dict with these entries -/
def dctF (a : Addr) (xs : List (NestedKey × Addr × Value)) : Heap → Prop := fun h =>
  (a == sysModules) = false ∧ xs.length ≤ sizeLine ∧ (xs.map (·.1)).Nodup ∧ ∃ o es ep, h.get? a = some o ∧ o.ExactDict ∧ o.data = .dict es ep ∧ es.toList = xs.map (entN Tbs.w)
abbrev dctO (a : Addr) (xs : List (NestedKey × Addr × Value)) : HO := .ext (dctF a xs)
/-- a dict is no code -/
theorem dctF_code {a c : Addr} {xs : List (NestedKey × Addr × Value)} {q : Str} : LamX.CodeO c q ≠ dctO a xs := fun z => by
  unfold LamX.CodeO at z
  injection z with z
  have e := congrFun z ⟨Array.replicate (c + 1) { cls := .none, data := .fields #[.none, .str q default] }, {}⟩
  have g : ∀ b o, (⟨Array.replicate (c + 1) { cls := .none, data := .fields #[.none, .str q default] }, {}⟩ : Heap).get? b = some o → o.data = .fields #[.none, .str q default] := fun b o x => by
    unfold Heap.get? at x
    rw [Array.getElem?_replicate] at x
    split at x
    · rename_i y
      split at y
      · cases y
      · cases y
    · split at x
      · cases x; rfl
      · cases x
  have h1 : dctF a xs ⟨Array.replicate (c + 1) { cls := .none, data := .fields #[.none, .str q default] }, {}⟩ := by
    rw [← e]
    refine ⟨{ cls := .none, data := .fields #[.none, .str q default] }, _, default, ?_, rfl, rfl⟩
    unfold Heap.get?
    rw [Array.getElem?_replicate, if_pos (Nat.lt_succ_self c)]
  obtain ⟨_, _, _, o, es, ep, h2, _, h3, _⟩ := h1
  rw [g a o h2] at h3
  cases h3
/-- what may stand at a place of the small heap -/
def mutO : Option HO → Prop
  | some (.ext φ) => ∃ a xs, φ = dctF a xs
  | some (.lst _) => True
  | some (.dK _) => True
  | some (.dT _) => True
  | some (.set _ _) => True
  | _ => False
theorem nt_mut {H : Hp} {a : Addr} {o : HO} (h : mutO (H a)) (e : H a = some o) : NT o := fun ps z => by rw [e, z] at h; exact h
/-- a dict whose keys are whole numbers -/
inductive KR (K : PySem.W.Frag) (m : Pl) (H : Hp) : List (MP.D × MP.D) → List (Key × V) → Prop
  | nil : KR K m H [] []
  | cons {i : Int} {d : MP.D} {v : V} {kvs : List (MP.D × MP.D)} {ks : List (Key × V)} (h : Rel K m H d v) (r : KR K m H kvs ks) : KR K m H ((.int i, d) :: kvs) ((.inl i, v) :: ks)
inductive NR (K : PySem.W.Frag) (m : Pl) (H : Hp) : List (MP.D × MP.D) → List (NestedKey × Addr × Value) → Prop
  | nil : NR K m H [] []
  | cons {k d : MP.D} {b : Addr} {v : V} {u : Value} {kvs : List (MP.D × MP.D)} {xs : List (NestedKey × Addr × Value)} (hk : Rel K m H k (.ref b)) (hh : MP.hkey k = true) (hv : Rel K m H d v) (ru : RelV v u) (r : NR K m H kvs xs) : NR K m H ((k, d) :: kvs) ((nk k, b, u) :: xs)
def ObR (K : PySem.W.Frag) (m : Pl) (H : Hp) (a : Addr) : MP.Ob → Prop
  | .lst xs => ∃ vs, H a = some (.lst vs) ∧ Rels K m H xs vs
  | .dic kvs => ∃ ks, H a = some (.dK ks) ∧ KR K m H kvs ks
  | .dct kvs => ∃ xs, H a = some (dctO a xs) ∧ NR K m H kvs xs
  | _ => False
structure HR (K : PySem.W.Frag) (m : Pl) (h : MP.Heap) (H : Hp) : Prop where
  len : m.at_.length = h.length
  nd : m.at_.Nodup
  ob : ∀ (n : Nat) (a : Addr) (o : MP.Ob), m.at_[n]? = some a → h[n]? = some o → ObR K m H a o
  bn : ∀ a ∈ m.ban, mutO (H a) ∧ a ∉ m.at_
  tb : LamX.Tabs Tbs.l H
/-- what a step keeps -/
structure Kp (m : Pl) (H : Hp) (m' : Pl) (H' : Hp) : Prop where
  pre : ∃ t, m'.at_ = m.at_ ++ t
  ban : m'.ban = m.ban
  keep : ∀ a o, H a = some o → NT o → a ∉ m.at_ → H' a = some o ∧ a ∉ m'.at_
/-- what a value's relation needs -/
structure Kw (m : Pl) (H : Hp) (m' : Pl) (H' : Hp) : Prop where
  at_ : ∀ (n : Nat) (a : Addr), m.at_[n]? = some a → m'.at_[n]? = some a
  keep : ∀ a o, H a = some o → NT o → a ∉ m.at_ → a ∉ m.ban → H' a = some o ∧ a ∉ m'.at_ ∧ a ∉ m'.ban
theorem Kp.refl (m : Pl) (H : Hp) : Kp m H m H := ⟨⟨[], by simp⟩, rfl, fun a o h _ n => ⟨h, n⟩⟩
theorem Kp.trans {m m1 m2 : Pl} {H H1 H2 : Hp} (a : Kp m H m1 H1) (b : Kp m1 H1 m2 H2) : Kp m H m2 H2 := by
  obtain ⟨t, e1⟩ := a.pre
  obtain ⟨u, e2⟩ := b.pre
  refine ⟨⟨t ++ u, by rw [e2, e1]; simp⟩, b.ban.trans a.ban, fun x o h nt n => ?_⟩
  obtain ⟨h1, n1⟩ := a.keep x o h nt n
  exact b.keep x o h1 nt n1
theorem Kp.w {m m' : Pl} {H H' : Hp} (k : Kp m H m' H') : Kw m H m' H' :=
  ⟨fun n a h => by obtain ⟨t, e⟩ := k.pre; rw [e, List.getElem?_append_left (List.getElem?_eq_some_iff.mp h).1]; exact h, fun a o h nt n nb => ⟨(k.keep a o h nt n).1, (k.keep a o h nt n).2, by rw [k.ban]; exact nb⟩⟩
theorem Kw.trans {m m1 m2 : Pl} {H H1 H2 : Hp} (a : Kw m H m1 H1) (b : Kw m1 H1 m2 H2) : Kw m H m2 H2 :=
  ⟨fun n x h => b.at_ n x (a.at_ n x h), fun x o h nt n nb => let ⟨h1, h2, h3⟩ := a.keep x o h nt n nb; b.keep x o h1 nt h2 h3⟩
theorem ObR.mut {K : PySem.W.Frag} {m : Pl} {H : Hp} {a : Addr} {o : MP.Ob} (x : ObR K m H a o) : mutO (H a) := by
  cases o with
  | lst xs => obtain ⟨vs, e, _⟩ := x; rw [e]; trivial
  | dic _ => obtain ⟨ks, e, _⟩ := x; rw [e]; trivial
  | dct _ => obtain ⟨ks, e, _⟩ := x; rw [e]; exact ⟨_, _, rfl⟩
  | set _ => exact x.elim
  | hid => exact x.elim
section
variable {K : PySem.W.Frag} {m m' : Pl} {H H' : Hp} {h h' : MP.Heap}
/-- the changing things are lists, dicts, sets -/
abbrev Mt (m : Pl) (H : Hp) : Prop := ∀ a, a ∈ m.at_ ∨ a ∈ m.ban → mutO (H a)
theorem HR.mutA (r : HR K m h H) : ∀ a ∈ m.at_, mutO (H a) := fun a ha => by
  obtain ⟨n, hn, e⟩ := List.getElem_of_mem ha
  have hl : n < h.length := by rw [← r.len]; exact hn
  exact (r.ob n a h[n] (by rw [List.getElem?_eq_getElem hn, e]) (List.getElem?_eq_getElem hl)).mut
theorem HR.mut (r : HR K m h H) : Mt m H := fun a ha => ha.elim (r.mutA a) fun q => (r.bn a q).1
theorem SqT.keepW (M : Mt m H) (k : Kw m H m' H') {a : Addr} {vs : List V} (x : SqT K H a vs) : SqT K H' a vs := by
  rcases x with x | x
  · refine .inl ?_
    rcases x with x | ⟨o, x⟩
    · exact .inl (k.keep a _ x (by intro ps z; cases z) (fun z => by have := M a (.inl z); rw [x] at this; exact this) (fun z => by have := M a (.inr z); rw [x] at this; exact this)).1
    · exact .inr ⟨o, (k.keep a _ x (by intro ps z; cases z) (fun z => by have := M a (.inl z); rw [x] at this; exact this) (fun z => by have := M a (.inr z); rw [x] at this; exact this)).1⟩
  · exact .inr x
theorem SqT.keep (M : Mt m H) (k : Kp m H m' H') {a : Addr} {vs : List V} (x : SqT K H a vs) : SqT K H' a vs := SqT.keepW M k.w x
theorem Fz.keepW (k : Kw m H m' H') {a : Addr} {vs : List V} (x : Fz K m H a vs) : Fz K m' H' a vs := by
  rcases x with ⟨x, n, nb⟩ | x
  · rcases x with x | ⟨o, x⟩
    · exact .inl ⟨.inl (k.keep a _ x (by intro ps z; cases z) n nb).1, (k.keep a _ x (by intro ps z; cases z) n nb).2⟩
    · exact .inl ⟨.inr ⟨o, (k.keep a _ x (by intro ps z; cases z) n nb).1⟩, (k.keep a _ x (by intro ps z; cases z) n nb).2⟩
  · exact .inr x
mutual
theorem Rel.keepW (M : Mt m H) (k : Kw m H m' H') : ∀ {d : MP.D} {v : V}, Rel K m H d v → Rel K m' H' d v
  | _, _, .non => .non
  | _, _, .bl b => .bl b
  | _, _, .int i => .int i
  | _, _, .str x => .str x
  | _, _, .tup h r => .tup (SqT.keepW M k h) (Rels.keepW M k r)
  | _, _, .lst h n nb r => .lst (k.keep _ _ h (by intro ps z; cases z) n nb).1 (k.keep _ _ h (by intro ps z; cases z) n nb).2.1 (k.keep _ _ h (by intro ps z; cases z) n nb).2.2 (Rels.keepW M k r)
  | _, _, .frz h r => .frz (h.keepW k) (Rels.keepW M k r)
  | _, _, .ref h => .ref (k.at_ _ _ h)
theorem Rels.keepW (M : Mt m H) (k : Kw m H m' H') : ∀ {ds : List MP.D} {vs : List V}, Rels K m H ds vs → Rels K m' H' ds vs
  | _, _, .nil => .nil
  | _, _, .cons h r => .cons (Rel.keepW M k h) (Rels.keepW M k r)
end
theorem Rel.keep (M : Mt m H) (k : Kp m H m' H') {d : MP.D} {v : V} (r : Rel K m H d v) : Rel K m' H' d v := r.keepW M k.w
theorem Rels.keep (M : Mt m H) (k : Kp m H m' H') {ds : List MP.D} {vs : List V} (r : Rels K m H ds vs) : Rels K m' H' ds vs := r.keepW M k.w
theorem Rels.length : ∀ {ds : List MP.D} {vs : List V}, Rels K m H ds vs → ds.length = vs.length
  | _, _, .nil => rfl
  | _, _, .cons _ r => by simp [Rels.length r]
theorem Rels.get : ∀ {ds : List MP.D} {vs : List V} {i : Nat} {d : MP.D}, Rels K m H ds vs → ds[i]? = some d → ∃ v, vs[i]? = some v ∧ Rel K m H d v
  | _, _, _, _, .nil, e => by simp at e
  | _, _, 0, _, .cons h _, e => by simp at e; subst e; exact ⟨_, rfl, h⟩
  | _, _, i + 1, _, .cons _ r, e => by
    obtain ⟨v, h1, h2⟩ := Rels.get (i := i) r (by simpa using e)
    exact ⟨v, by simpa using h1, h2⟩
theorem Rels.get' : ∀ {ds : List MP.D} {vs : List V} {i : Nat} {v : V}, Rels K m H ds vs → vs[i]? = some v → ∃ d, ds[i]? = some d ∧ Rel K m H d v
  | _, _, _, _, .nil, e => by simp at e
  | _, _, 0, _, .cons h _, e => by simp at e; subst e; exact ⟨_, rfl, h⟩
  | _, _, i + 1, _, .cons _ r, e => by
    obtain ⟨v, h1, h2⟩ := Rels.get' (i := i) r (by simpa using e)
    exact ⟨v, by simpa using h1, h2⟩
theorem Rels.append : ∀ {ds es : List MP.D} {vs us : List V}, Rels K m H ds vs → Rels K m H es us → Rels K m H (ds ++ es) (vs ++ us)
  | _, _, _, _, .nil, s => s
  | _, _, _, _, .cons h r, s => .cons h (Rels.append r s)
theorem Rels.take : ∀ {ds : List MP.D} {vs : List V} (n : Nat), Rels K m H ds vs → Rels K m H (ds.take n) (vs.take n)
  | _, _, 0, _ => by simp; exact .nil
  | _, _, _ + 1, .nil => by simp; exact .nil
  | _, _, n + 1, .cons h r => .cons h (Rels.take n r)
theorem Rels.drop : ∀ {ds : List MP.D} {vs : List V} (n : Nat), Rels K m H ds vs → Rels K m H (ds.drop n) (vs.drop n)
  | _, _, 0, r => r
  | _, _, _ + 1, .nil => by simp; exact .nil
  | _, _, n + 1, .cons _ r => Rels.drop n r
theorem Rels.reverse : ∀ {ds : List MP.D} {vs : List V}, Rels K m H ds vs → Rels K m H ds.reverse vs.reverse
  | _, _, .nil => .nil
  | _, _, .cons h r => by rw [List.reverse_cons, List.reverse_cons]; exact (Rels.reverse r).append (.cons h .nil)
theorem Rels.rep {ds : List MP.D} {vs : List V} (r : Rels K m H ds vs) : ∀ k : Nat, Rels K m H (List.replicate k ds).flatten (List.replicate k vs).flatten
  | 0 => .nil
  | k + 1 => by simp only [List.replicate_succ, List.flatten_cons]; exact r.append (Rels.rep r k)
theorem Rels.set {d : MP.D} {v : V} (q : Rel K m H d v) : ∀ {ds : List MP.D} {vs : List V} (i : Nat), Rels K m H ds vs → Rels K m H (ds.set i d) (vs.set i v)
  | _, _, _, .nil => .nil
  | _, _, 0, .cons _ r => .cons q r
  | _, _, i + 1, .cons h r => .cons h (Rels.set q i r)
theorem Rels.erase : ∀ {ds : List MP.D} {vs : List V} (i : Nat), Rels K m H ds vs → Rels K m H (ds.eraseIdx i) (vs.eraseIdx i)
  | _, _, _, .nil => .nil
  | _, _, 0, .cons _ r => r
  | _, _, i + 1, .cons h r => .cons h (Rels.erase i r)
theorem Rels.dropLast : ∀ {ds : List MP.D} {vs : List V}, Rels K m H ds vs → Rels K m H ds.dropLast vs.dropLast := fun {ds vs} r => by
  rw [List.dropLast_eq_take, List.dropLast_eq_take, r.length]; exact r.take _
theorem Rels.intsOf : ∀ {ds : List MP.D} {vs : List V} {ns : List Int}, Rels K m H ds vs → MP.intsOf ds = some ns → vs = ns.map V.int
  | _, _, _, .nil, e => by simp [MP.intsOf] at e; subst e; rfl
  | .int i :: ds, _, ns, .cons h r, e => by
    cases h
    simp only [MP.intsOf, Option.map_eq_some_iff] at e
    obtain ⟨ms, e1, rfl⟩ := e
    rw [List.map_cons, ← Rels.intsOf r e1]
  | .und :: _, _, _, .cons h _, e => by cases h
  | .non :: _, _, _, .cons h _, e => by simp [MP.intsOf] at e
  | .bl _ :: _, _, _, .cons h _, e => by simp [MP.intsOf] at e
  | .str _ :: _, _, _, .cons h _, e => by simp [MP.intsOf] at e
  | .tup _ :: _, _, _, .cons h _, e => by simp [MP.intsOf] at e
  | .lst _ :: _, _, _, .cons h _, e => by simp [MP.intsOf] at e
  | .frz _ :: _, _, _, .cons h _, e => by simp [MP.intsOf] at e
  | .ref _ :: _, _, _, .cons h _, e => by simp [MP.intsOf] at e
  | .clo _ _ :: _, _, _, .cons h _, e => by cases h
theorem Rels.bools : ∀ {ds : List MP.D} {vs : List V} {ns : List Bool}, Rels K m H ds vs → MP.bools ds = some ns → vs = ns.map V.bl
  | _, _, _, .nil, e => by simp [MP.bools] at e; subst e; rfl
  | .bl i :: ds, _, ns, .cons h r, e => by
    cases h
    simp only [MP.bools, Option.map_eq_some_iff] at e
    obtain ⟨ms, e1, rfl⟩ := e
    rw [List.map_cons, ← Rels.bools r e1]
  | .und :: _, _, _, .cons h _, e => by cases h
  | .non :: _, _, _, .cons h _, e => by simp [MP.bools] at e
  | .int _ :: _, _, _, .cons h _, e => by simp [MP.bools] at e
  | .str _ :: _, _, _, .cons h _, e => by simp [MP.bools] at e
  | .tup _ :: _, _, _, .cons h _, e => by simp [MP.bools] at e
  | .lst _ :: _, _, _, .cons h _, e => by simp [MP.bools] at e
  | .frz _ :: _, _, _, .cons h _, e => by simp [MP.bools] at e
  | .ref _ :: _, _, _, .cons h _, e => by simp [MP.bools] at e
  | .clo _ _ :: _, _, _, .cons h _, e => by cases h
theorem rels_ints : ∀ (ns : List Int), Rels K m H (ns.map MP.D.int) (ns.map V.int)
  | [] => .nil
  | _ :: ns => .cons (.int _) (rels_ints ns)
end
/-- a new object laid apart -/
theorem Kp.new {m : Pl} {H : Hp} {p : Addr} {o : HO} (hp : H p = none) : Kp m H m (upd H p o) :=
  ⟨⟨[], by simp⟩, rfl, fun a u h _ n => ⟨by rw [upd_ne (ne_of_none h hp)]; exact h, n⟩⟩
/-- a new object laid at a place -/
theorem Kp.newM {m : Pl} {H : Hp} {p : Addr} {o : HO} (hp : H p = none) : Kp m H (m.add p) (upd H p o) :=
  ⟨⟨[p], rfl⟩, rfl, fun a u h _ n => ⟨by rw [upd_ne (ne_of_none h hp)]; exact h, by simp [n, ne_of_none h hp]⟩⟩
/-- an object at a place rewritten -/
theorem Kp.write {m : Pl} {H : Hp} {p : Addr} {o : HO} (hp : p ∈ m.at_) : Kp m H m (upd H p o) :=
  ⟨⟨[], by simp⟩, rfl, fun a u h _ n => ⟨by rw [upd_ne (show a ≠ p from fun z => n (by rw [z]; exact hp))]; exact h, n⟩⟩
section
variable {K : PySem.W.Frag} {m m' : Pl} {H H' : Hp} {h h' : MP.Heap}
theorem KR.keepW (M : Mt m H) (k : Kw m H m' H') : ∀ {kvs : List (MP.D × MP.D)} {ks : List (Key × V)}, KR K m H kvs ks → KR K m' H' kvs ks
  | _, _, .nil => .nil
  | _, _, .cons h r => .cons (h.keepW M k) (r.keepW M k)
theorem NR.keepW (M : Mt m H) (k : Kw m H m' H') : ∀ {kvs : List (MP.D × MP.D)} {xs : List (NestedKey × Addr × Value)}, NR K m H kvs xs → NR K m' H' kvs xs
  | _, _, .nil => .nil
  | _, _, .cons hk hh hv ru r => .cons (hk.keepW M k) hh (hv.keepW M k) ru (r.keepW M k)
theorem ObR.keepAt (M : Mt m H) (k : Kw m H m' H') {a : Addr} {o : MP.Ob} (x : ObR K m H a o) (e : H' a = H a) : ObR K m' H' a o := by
  cases o with
  | lst xs => obtain ⟨vs, e1, r⟩ := x; exact ⟨vs, e.trans e1, r.keepW M k⟩
  | dic _ => obtain ⟨ks, e1, r⟩ := x; exact ⟨ks, e.trans e1, r.keepW M k⟩
  | dct _ => obtain ⟨ks, e1, r⟩ := x; exact ⟨ks, e.trans e1, r.keepW M k⟩
  | set _ => exact x.elim
  | hid => exact x.elim
theorem HR.free (r : HR K m h H) {p : Addr} (hp : H p = none) : p ∉ m.at_ := fun z => by have := r.mut p (.inl z); rw [hp] at this; exact this
theorem HR.freeB (r : HR K m h H) {p : Addr} (hp : H p = none) : p ∉ m.ban := fun z => by have := r.mut p (.inr z); rw [hp] at this; exact this
theorem mutO_ne {H : Hp} {a p : Addr} (h : mutO (H a)) (hp : H p = none) : a ≠ p := fun e => by subst e; rw [hp] at h; exact h
theorem tabs_new {T : List (Addr × Str)} {H : Hp} {p : Addr} {o : HO} (t : LamX.Tabs T H) (hp : H p = none) : LamX.Tabs T (upd H p o) := t.ext fun b u e => by rw [upd_ne (ne_of_none e hp)]; exact e
/-- what changes is neither a table nor a code -/
theorem tabs_mut {T : List (Addr × Str)} {H : Hp} {p : Addr} {o : HO} (t : LamX.Tabs T H) (hp : mutO (H p)) : LamX.Tabs T (upd H p o) := fun q hq => by
  obtain ⟨ps, h1, h2, h3⟩ := t q hq
  have n1 : q.1 ≠ p := fun z => by rw [← z, h1] at hp; exact hp
  refine ⟨ps, by rw [upd_ne n1]; exact h1, h2, fun pos cv hc => ?_⟩
  obtain ⟨c, e1, e2⟩ := h3 pos cv hc
  refine ⟨c, e1, ?_⟩
  rw [upd_ne fun z => by
    rw [← z, e2] at hp
    have hp : ∃ a xs, _ = dctF a xs := hp
    obtain ⟨a, xs, hp⟩ := hp
    exact dctF_code (a := a) (xs := xs) (c := c) (q := q.2) (by unfold LamX.CodeO; rw [hp])]
  exact e2
theorem HR.new (r : HR K m h H) {p : Addr} {o : HO} (hp : H p = none) : HR K m h (upd H p o) :=
  ⟨r.len, r.nd, fun n a ob e1 e2 => (r.ob n a ob e1 e2).keepAt r.mut (Kp.new hp).w (upd_ne fun z => by
    subst z
    exact r.free hp (List.mem_of_getElem? e1)), fun a ha => by
      obtain ⟨e, n⟩ := r.bn a ha
      exact ⟨by rw [upd_ne (mutO_ne e hp)]; exact e, n⟩, tabs_new r.tb hp⟩
theorem HR.newM (r : HR K m h H) {p : Addr} {o : HO} {ob : MP.Ob} (hp : H p = none) (x : ObR K (m.add p) (upd H p o) p ob) : HR K (m.add p) (h ++ [ob]) (upd H p o) := by
  have hpm := r.free hp
  refine ⟨by simp [r.len], ?_, fun n a ob' e1 e2 => ?_, fun a ha => ?_, tabs_new r.tb hp⟩
  · show (m.at_ ++ [p]).Nodup
    rw [List.nodup_append]
    exact ⟨r.nd, by simp, fun a ha b hb => by simp at hb; subst hb; exact fun z => hpm (z ▸ ha)⟩
  · have e1' : (m.at_ ++ [p])[n]? = some a := e1
    by_cases hn : n < m.at_.length
    · rw [List.getElem?_append_left hn] at e1'
      rw [List.getElem?_append_left (by rw [← r.len]; exact hn)] at e2
      exact (r.ob n a ob' e1' e2).keepAt r.mut (Kp.newM hp).w (upd_ne fun z => hpm (z ▸ List.mem_of_getElem? e1'))
    · have hn' : n = m.at_.length := by
        have := (List.getElem?_eq_some_iff.mp e1').1
        simp at this; omega
      subst hn'
      simp at e1'
      rw [r.len] at e2
      simp at e2
      subst e1' e2
      exact x
  · obtain ⟨e, n⟩ := r.bn a ha
    exact ⟨by rw [upd_ne (mutO_ne e hp)]; exact e, by simp [n, mutO_ne e hp]⟩
theorem nodup_get {α : Type} {l : List α} (hN : l.Nodup) {i j : Nat} {x : α} (a : l[i]? = some x) (b : l[j]? = some x) : i = j := nd_ix hN a b
theorem HR.write (r : HR K m h H) {n : Nat} {p : Addr} {o : HO} {ob : MP.Ob} (hp : m.at_[n]? = some p) (x : ObR K m (upd H p o) p ob) : HR K m (h.set n ob) (upd H p o) := by
  have hk : Kp m H m (upd H p o) := .write (List.mem_of_getElem? hp)
  refine ⟨by simp [r.len], r.nd, fun k a ob' e1 e2 => ?_, fun a ha => ?_, tabs_mut r.tb (r.mut p (.inl (List.mem_of_getElem? hp)))⟩
  · by_cases hkn : k = n
    · subst hkn
      rw [hp] at e1; cases e1
      have hl : k < h.length := by rw [← r.len]; exact (List.getElem?_eq_some_iff.mp hp).1
      rw [List.getElem?_set_self hl] at e2
      cases e2
      exact x
    · rw [List.getElem?_set_ne (Ne.symm hkn)] at e2
      exact (r.ob k a ob' e1 e2).keepAt r.mut hk.w (upd_ne fun z => hkn (nodup_get r.nd e1 (z ▸ hp)))
  · obtain ⟨e, n⟩ := r.bn a ha
    exact ⟨by rw [upd_ne (show a ≠ p from fun z => n (by rw [z]; exact List.mem_of_getElem? hp))]; exact e, n⟩
/-- the list at a place -/
theorem HR.lst (r : HR K m h H) {n : Nat} {xs : List MP.D} (e : h[n]? = some (.lst xs)) : ∃ a vs, m.at_[n]? = some a ∧ H a = some (.lst vs) ∧ Rels K m H xs vs := by
  have hl : n < m.at_.length := by rw [r.len]; exact (List.getElem?_eq_some_iff.mp e).1
  obtain ⟨vs, e1, r1⟩ := r.ob n m.at_[n] _ (List.getElem?_eq_getElem hl) e
  exact ⟨_, vs, List.getElem?_eq_getElem hl, e1, r1⟩
/-- the dict at a place -/
theorem HR.dic (r : HR K m h H) {n : Nat} {kvs : List (MP.D × MP.D)} (e : h[n]? = some (.dic kvs)) : ∃ a ks, m.at_[n]? = some a ∧ H a = some (.dK ks) ∧ KR K m H kvs ks := by
  have hl : n < m.at_.length := by rw [r.len]; exact (List.getElem?_eq_some_iff.mp e).1
  obtain ⟨ks, e1, r1⟩ := r.ob n m.at_[n] _ (List.getElem?_eq_getElem hl) e
  exact ⟨_, ks, List.getElem?_eq_getElem hl, e1, r1⟩
/-- the dict of tuples at a place -/
theorem HR.dct (r : HR K m h H) {n : Nat} {kvs : List (MP.D × MP.D)} (e : h[n]? = some (.dct kvs)) : ∃ a xs, m.at_[n]? = some a ∧ H a = some (dctO a xs) ∧ NR K m H kvs xs := by
  have hl : n < m.at_.length := by rw [r.len]; exact (List.getElem?_eq_some_iff.mp e).1
  obtain ⟨xs, e1, r1⟩ := r.ob n m.at_[n] _ (List.getElem?_eq_getElem hl) e
  exact ⟨_, xs, List.getElem?_eq_getElem hl, e1, r1⟩
theorem KR.length : ∀ {kvs : List (MP.D × MP.D)} {ks : List (Key × V)}, KR K m H kvs ks → kvs.length = ks.length
  | _, _, .nil => rfl
  | _, _, .cons h r => by rw [List.length_cons, List.length_cons, r.length]
theorem KR.get : ∀ {kvs : List (MP.D × MP.D)} {ks : List (Key × V)} {i : Int}, KR K m H kvs ks → (∀ d, MP.kget kvs i = some d → ∃ v, valV ks (.inl i) = some v ∧ Rel K m H d v) ∧ (MP.kget kvs i).isSome = (valV ks (.inl i)).isSome
  | _, _, i, .nil => ⟨fun d e => (by simp [MP.kget] at e), rfl⟩
  | _, _, i, .cons (i := j) (d := d0) (v := v0) h r => by
    obtain ⟨h1, h2⟩ := r.get (i := i)
    by_cases z : j = i
    · subst z
      rw [valV_pos rfl]
      refine ⟨fun d e => ?_, ?_⟩
      · simp only [MP.kget, if_true] at e
        cases e
        exact ⟨v0, rfl, h⟩
      · simp [MP.kget]
    · rw [valV_neg (fun e => z (Sum.inl.inj e))]
      refine ⟨fun d e => ?_, ?_⟩
      · simp only [MP.kget, if_neg z] at e
        exact h1 d e
      · simp only [MP.kget, if_neg z]
        exact h2
theorem KR.rep {i : Int} {d : MP.D} {v : V} (rv : Rel K m H d v) : ∀ {kvs : List (MP.D × MP.D)} {ks : List (Key × V)}, KR K m H kvs ks → KR K m H (MP.krep i d kvs) (ks.map fun kv => if kv.1 = Sum.inl i then (kv.1, v) else kv)
  | _, _, .nil => .nil
  | _, _, .cons (i := j) h r => by
    rw [List.map_cons]
    by_cases z : j = i
    · subst z
      simp only [MP.krep, if_true]
      exact .cons rv (r.rep rv)
    · simp only [MP.krep, if_neg z, if_neg (show ¬ (Sum.inl j : Key) = Sum.inl i from fun e => z (Sum.inl.inj e))]
      exact .cons h (r.rep rv)
theorem KR.snoc {i : Int} {d : MP.D} {v : V} (rv : Rel K m H d v) : ∀ {kvs : List (MP.D × MP.D)} {ks : List (Key × V)}, KR K m H kvs ks → KR K m H (kvs ++ [(.int i, d)]) (ks ++ [(.inl i, v)])
  | _, _, .nil => .cons rv .nil
  | _, _, .cons h r => .cons h (r.snoc rv)
theorem KR.put {i : Int} {d : MP.D} {v : V} {kvs : List (MP.D × MP.D)} {ks : List (Key × V)} (r : KR K m H kvs ks) (rv : Rel K m H d v) : KR K m H (MP.kput kvs i d) (putK ks (.inl i) v) := by
  unfold MP.kput putK
  rw [valV_any, ← (r.get (i := i)).2]
  split
  · exact r.rep rv
  · exact r.snoc rv
end
end MPS
namespace MPS
open PySem PySem.Spec PyProof.Rows L2
variable [Tbs]

/-! ### what a result is worth -/
/-- the wish Q of the value and the heap behind, the wish Z of an exception's class and the heap -/
def Gd (K : PySem.W.Frag) {α β : Type} (rl : Pl → Hp → α → β → Prop) (m : Pl) (H : Hp) (r : MP.R α) (Q : β → Hp → Prop) (Z : Nat → Hp → Prop) : Prop :=
  match r with
  | .ok d h => ∀ v m' H', Kp m H m' H' → HR K m' h H' → rl m' H' d v → Q v H'
  | .exc c h => ∀ m' H', Kp m H m' H' → HR K m' h H' → Z c H'
  | .bad => False
section
variable {K : PySem.W.Frag} {α β γ δ : Type} {rl : Pl → Hp → α → β → Prop} {rl' : Pl → Hp → γ → δ → Prop} {m m' : Pl} {H H' : Hp} {Q : β → Hp → Prop} {Z : Nat → Hp → Prop}
theorem Gd.shift {r : MP.R α} (k : Kp m H m' H') (g : Gd K rl m H r Q Z) : Gd K rl m' H' r Q Z := by
  cases r with
  | ok d h => exact fun v m2 H2 k2 hr r => g v m2 H2 (k.trans k2) hr r
  | exc c h => exact fun m2 H2 k2 hr => g m2 H2 (k.trans k2) hr
  | bad => exact g
theorem Gd.bind {r : MP.R α} {f : α → MP.Heap → MP.R γ} {Q' : δ → Hp → Prop} (g : Gd K rl' m H (r.bind f) Q' Z)
    (h : ∀ a h' b m' H', r = .ok a h' → Kp m H m' H' → HR K m' h' H' → rl m' H' a b → Gd K rl' m' H' (f a h') Q' Z → Q b H') : Gd K rl m H r Q Z := by
  cases r with
  | ok d h1 => exact fun v m2 H2 k2 hr r => h d h1 v m2 H2 rfl k2 hr r (Gd.shift (r := f d h1) k2 g)
  | exc c h1 => exact g
  | bad => exact g
theorem Gd.mono {r : MP.R α} {Q' : β → Hp → Prop} (g : Gd K rl m H r Q Z) (h : ∀ b H', Q b H' → Q' b H') : Gd K rl m H r Q' Z := by
  cases r with
  | ok d h1 => exact fun v m2 H2 k2 hr r => h _ _ (g v m2 H2 k2 hr r)
  | exc c h1 => exact g
  | bad => exact g
theorem Gd.opt {o : Option α} {h : MP.Heap} (g : Gd K rl m H (MP.R.opt h o) Q Z) : ∃ a, o = some a ∧ Gd K rl m H (.ok a h) Q Z := by
  cases o with
  | none => exact g.elim
  | some a => exact ⟨a, rfl, g⟩
theorem Gd.optBind {o : Option α} {h : MP.Heap} {f : α → MP.Heap → MP.R γ} {Q' : δ → Hp → Prop} (g : Gd K rl' m H ((MP.R.opt h o).bind f) Q' Z) : ∃ a, o = some a ∧ Gd K rl' m H (f a h) Q' Z := by
  cases o with
  | none => exact g.elim
  | some a => exact ⟨a, rfl, g⟩
/-- the calm result lets no exception out, whatever is wished -/
theorem Gd.calm {r : MP.R α} (g : Gd K rl m H r.calm Q Z) {Z' : Nat → Hp → Prop} : Gd K rl m H r Q Z' := by
  cases r with
  | ok d h1 => exact g
  | exc c h1 => exact g.elim
  | bad => exact g
end

/-! ### new things -/
section
variable {K : PySem.W.Frag} {m : Pl} {H : Hp} {h : MP.Heap} {Q : VK} {Z : Nat → Hp → Prop}
theorem Gd.here {d : MP.D} {v : V} (g : Gd K (Rel K) m H (.ok d h) Q Z) (hr : HR K m h H) (r : Rel K m H d v) : Q v H := g v m H (.refl _ _) hr r
theorem new_tup {ds : List MP.D} {vs : List V} (g : Gd K (Rel K) m H (.ok (.tup ds) h) Q Z) (hr : HR K m h H) (r : Rels K m H ds vs) (p : Addr) (hp : H p = none) : Q (.ref p) (upd H p (.tup vs)) :=
  g _ m _ (.new hp) (hr.new hp) (.tup (.of upd_same) (r.keep hr.mut (.new hp)))
theorem new_lst {imm : Bool} {ds : List MP.D} {vs : List V} (g : Gd K (Rel K) m H (MP.newL imm ds h) Q Z) (hr : HR K m h H) (r : Rels K m H ds vs) :
    vs.length ≤ sizeLine ∧ ∀ p, H p = none → Q (.ref p) (upd H p (.lst vs)) := by
  unfold MP.newL at g
  split at g
  · rename_i hl
    refine ⟨by rw [← r.length]; exact hl, fun p hp => ?_⟩
    cases imm with
    | true =>
      simp only [if_true] at g
      exact g _ m _ (.new hp) (hr.new hp) (.lst upd_same (hr.free hp) (hr.freeB hp) (r.keep hr.mut (.new hp)))
    | false =>
      simp only [Bool.false_eq_true, if_false] at g
      refine g _ (m.add p) _ (.newM hp) (hr.newM hp ⟨vs, upd_same, r.keep hr.mut (.newM hp)⟩) (.ref ?_)
      show (m.at_ ++ [p])[h.length]? = _; rw [← hr.len]; simp
  · exact g.elim
theorem rlist_rel {d : MP.D} {v : V} {xs : List MP.D} (hr : HR K m h H) (r : Rel K m H d v) (e : MP.rlist h d = some xs) : ∃ a vs, v = .ref a ∧ H a = some (.lst vs) ∧ Rels K m H xs vs := by
  cases r with
  | lst h1 n nb r => simp [MP.rlist] at e; subst e; exact ⟨_, _, rfl, h1, r⟩
  | ref h1 =>
    simp only [MP.rlist] at e
    split at e
    · rename_i ys e1
      cases e
      obtain ⟨a, vs, e2, e3, r⟩ := hr.lst e1
      rw [h1] at e2; cases e2
      exact ⟨_, vs, rfl, e3, r⟩
    · cases e
  | _ => simp [MP.rlist] at e
theorem items_rel {d : MP.D} {v : V} {xs : List MP.D} (hr : HR K m h H) (r : Rel K m H d v) (e : MP.items h d = some xs) : ∃ a vs, v = .ref a ∧ (SqL K H a vs ∨ SqT K H a vs) ∧ Rels K m H xs vs := by
  cases r with
  | tup h1 r => simp [MP.items] at e; subst e; exact ⟨_, _, rfl, .inr h1, r⟩
  | lst h1 n nb r => simp [MP.items] at e; subst e; exact ⟨_, _, rfl, .inl (.of h1), r⟩
  | frz h1 r => simp [MP.items] at e; subst e; exact ⟨_, _, rfl, .inl h1.sq, r⟩
  | ref h1 =>
    simp only [MP.items] at e
    split at e
    · rename_i ys e1
      cases e
      obtain ⟨a, vs, e2, e3, r⟩ := hr.lst e1
      rw [h1] at e2; cases e2
      exact ⟨_, vs, rfl, .inl (.of e3), r⟩
    · cases e
  | _ => simp [MP.items] at e
theorem truthy_rel {d : MP.D} {v : V} {k : Bool} (hr : HR K m h H) (r : Rel K m H d v) (e : MP.truthy h d = some k) : TruV K v H k := by
  cases r with
  | non => simp only [MP.truthy, Option.some.injEq] at e; exact e.symm
  | bl b => simp only [MP.truthy, Option.some.injEq] at e; exact e.symm
  | int i => simp only [MP.truthy, Option.some.injEq] at e; exact e.symm
  | str x =>
    simp only [MP.truthy] at e
    split at e
    case isFalse => cases e
    rename_i hz
    simp only [Option.some.injEq] at e
    have h1 : x.length ≤ sizeLine := hz
    refine ⟨h1, ?_⟩
    rw [← e]
    cases q : x.cps.toList with
    | nil =>
      have : x.length = 0 := by show x.cps.size = 0; rw [← Array.length_toList, q]; rfl
      rw [this]; rfl
    | cons a l =>
      have : x.length = l.length + 1 := by show x.cps.size = _; rw [← Array.length_toList, q]; rfl
      rw [this]
      symm
      show ((((l.length + 1 : Nat) : Int) != 0)) = !(List.isEmpty (a :: l))
      simp only [List.isEmpty_cons, Bool.not_false, bne_iff_ne, ne_eq]
      omega
  | tup h1 r =>
    simp only [MP.truthy, Option.some.injEq] at e; subst e
    refine .inr (.inl ⟨_, h1, ?_⟩)
    cases r <;> rfl
  | lst h1 n nb r =>
    simp only [MP.truthy, Option.some.injEq] at e; subst e
    refine .inl ⟨_, .of h1, ?_⟩
    cases r <;> rfl
  | frz h1 r => simp [MP.truthy] at e
  | ref h1 =>
    simp only [MP.truthy] at e
    split at e
    · rename_i ys e1
      cases e
      obtain ⟨a, vs, e2, e3, r⟩ := hr.lst e1
      rw [h1] at e2; cases e2
      refine .inl ⟨_, .of e3, ?_⟩
      cases r <;> rfl
    · cases e
end

/-! ### readings by what they are to do -/
section
variable (X : Cx)
def OpV (f : Value → Value → Sem Value) : R2 := fun x y H Q => ∀ (pins : List (Addr × Obj)) (s : Shared) (σ : L2.St) (v u : Value), Inv X pins σ H s → RelV x v → RelV y u → wpAny (model X.prog X.w) X.A (f v u) (EP X pins σ Q) X.xe s
theorem opV (f : Value → Value → Sem Value) : OpR X f (OpV X f) := fun pins s σ H x y v u Q I rx ry h => h pins s σ v u I rx ry
theorem OpV.of {X : Cx} {f : Value → Value → Sem Value} {r : R2} (ho : OpR X f r) {x y : V} {H : Hp} {Q : VK} (h : r x y H Q) : OpV X f x y H Q := fun pins s σ v u I rx ry => ho pins s σ H x y v u Q I rx ry h
end
def bop : MP.BOp → Operator
  | .add _ => .Add
  | .sub => .Sub
  | .mul _ => .Mult
  | .fdiv => .FloorDiv
  | .mod => .Mod
  | .pow => .Pow
theorem b2i_eq (b : Bool) : MP.b2i b = b2i b := rfl
section
variable {X : Cx} {m : Pl} {H : Hp} {h : MP.Heap} {Q : VK} {Z : Nat → Hp → Prop}
theorem smallI_spec {i : Int} (h : MP.smallI i = true) : -(2 ^ 64) < i ∧ i < 2 ^ 64 := by
  simp only [MP.smallI, Bool.and_eq_true, decide_eq_true_eq] at h
  exact ⟨by omega, by omega⟩
theorem mul_sound {i j : Int} (hm : MP.mulOk i j = true) (q : Q (.int (i * j)) H) : OpV X (binaryOp .Mult) (.int i) (.int j) H Q := by
  simp only [MP.mulOk, Bool.or_eq_true, Bool.and_eq_true] at hm
  rcases hm with (hm | hm) | ⟨h1, h2⟩
  · exact .of op_mul ⟨i, j, rfl, rfl, .inl (smallI_spec hm), q⟩
  · exact .of op_mul ⟨i, j, rfl, rfl, .inr (smallI_spec hm), q⟩
  · simp only [MP.wideI, decide_eq_true_eq] at h1 h2
    exact .of op_mulW ⟨i, j, rfl, rfl, wide_mul h1 h2 (by decide) (by decide) (by decide), q⟩
end
end MPS
namespace MPS
open PySem PySem.Spec PyProof.Rows L2
variable [Tbs]

section
variable {X : Cx} {m : List Addr} {H : Hp} {h : MP.Heap} {Q : VK} {Z : Nat → Hp → Prop}
theorem op_add_bi : OpR X (binaryOp .Add) (fun x y H Q => ∃ i k, x = .bl k ∧ y = .int i ∧ Q (.int (b2i k + i)) H) := by
  intro pins s σ H x y v u Q I rx ry h
  obtain ⟨i, k, rfl, rfl, q⟩ := h
  obtain ⟨t, rfl⟩ := ry
  cases rx
  exact PySem.IntBool.add_bool_int ⟨.int (b2i k + i), H, I.tok _, ⟨_, rfl⟩, q⟩
theorem op_add_bb : OpR X (binaryOp .Add) (fun x y H Q => ∃ i k, x = .bl k ∧ y = .bl i ∧ Q (.int (b2i k + b2i i)) H) := by
  intro pins s σ H x y v u Q I rx ry h
  obtain ⟨i, k, rfl, rfl, q⟩ := h
  cases rx
  cases ry
  exact add_bool ⟨.int (b2i k + b2i i), H, I.tok _, ⟨_, rfl⟩, q⟩
theorem op_sub_ib : OpR X (binaryOp .Sub) (fun x y H Q => ∃ i k, x = .int i ∧ y = .bl k ∧ Q (.int (i - b2i k)) H) := by
  intro pins s σ H x y v u Q I rx ry h
  obtain ⟨i, k, rfl, rfl, q⟩ := h
  obtain ⟨t, rfl⟩ := rx
  cases ry
  exact PySem.IntBool.sub_int_bool ⟨.int (i - b2i k), H, I.tok _, ⟨_, rfl⟩, q⟩
theorem op_sub_bi : OpR X (binaryOp .Sub) (fun x y H Q => ∃ i k, x = .bl k ∧ y = .int i ∧ Q (.int (b2i k - i)) H) := by
  intro pins s σ H x y v u Q I rx ry h
  obtain ⟨i, k, rfl, rfl, q⟩ := h
  obtain ⟨t, rfl⟩ := ry
  cases rx
  exact PySem.IntBool.sub_bool_int ⟨.int (b2i k - i), H, I.tok _, ⟨_, rfl⟩, q⟩
theorem fm_congr {α β : Type} {f g : α → Option β} : ∀ {l : List α}, (∀ x ∈ l, f x = g x) → l.filterMap f = l.filterMap g
  | [], _ => rfl
  | a :: l, h => by rw [List.filterMap_cons, List.filterMap_cons, h a List.mem_cons_self, fm_congr fun x hx => h x (List.mem_cons_of_mem _ hx)]
/-- the picked places of a whole tuple, from the end -/
theorem pick_rev (xs : Array Value) : ((List.range xs.size).filterMap fun (k : Nat) => xs[(((xs.size : Int) - 1) + (k : Int) * (-1)).toNat]?).toArray = xs.toList.reverse.toArray := by
  have h := PySem.W.krv_pick xs
  unfold slicePick at h
  rw [PySem.W.krv_bounds] at h
  have h' : ((sliceRange ((xs.size : Int) - 1) (-1) (-1)).filterMap (xs[·]?)).toArray = xs.toList.reverse.toArray := h
  rw [PySem.W.krv_sliceRange, List.filterMap_map] at h'
  rw [← h']
  congr 1
  refine fm_congr fun k hk => ?_
  have hk' := List.mem_range.mp hk
  show xs[(((xs.size : Int) - 1) + (k : Int) * (-1)).toNat]? = xs[xs.size - 1 - k]?
  congr 1
  omega
theorem getItem_tuple_rev {prog : Program} {w : World} {A : Around} {E : Value → Shared → Prop} {s : Shared} {t sl : Addr} {items : Array Value} {vs : Value} {Q : Value → Shared → Prop} (ht : IsTup s.heap t items) (hs : s.heap.IsSliceOf sl .none .none vs) (ps : IsPart vs (some (-1)))
    (h : Q (.ref s.heap.objs.size) { s with heap := s.heap.push { cls := .type "tuple", data := .seq items.toList.reverse.toArray } })
    (hsz : items.size ≤ sizeLine) : wpAny (model prog w) A (getItem (.ref t) (.ref sl)) Q E s := by
  have htake : sizeOk (.seq items.toList.reverse.toArray) := by
    show items.toList.reverse.toArray.size ≤ sizeLine
    rw [List.size_toArray, List.length_reverse, Array.length_toList]
    exact hsz
  obtain ⟨os, hos, hcs, hds⟩ := id hs
  have hTs : s.TypeIs (.ref sl) "slice" := ⟨os, hos, hcs⟩
  unfold getItem
  try with_reducible refine wpAny_holding ?_
  first | refine wpAny_bind (wpAny_pure ?_) | skip
  refine wpAny_bind (wpAny_sequenceKey ht.typeIs (by decide) ?_)
  refine wpAny_bind (wpAny_callSpecial?_slot (name := Str.ofString "__getitem__") ht.typeIs PyProof.Rows.slot_tuple_getitem
    (wpAny_call_entry PyProof.Rows.slot_tuple_getitem ht.typeIs PyProof.Rows.entry_tuple_getitem ?_ (PyProof.Rows.args_tuple_getitem _ _)))
  show wpAny _ _ (Builtin.Tuple.tupleItemsOf (.ref t) >>= _) _ _ s
  refine wpAny_bind (tupleItemsOf_ ht ?_)
  refine wpAny_bind (wpAny_typeOf hTs ?_)
  rw [if_pos (by decide)]
  refine wpAny_bind ?_
  · unfold Builtin.Slice.sliceApplied Builtin.Slice.sliceFields
    refine wpAny_bind (wpAny_bind (wpAny_field hos hds (x := .none) rfl (wpAny_bind (wpAny_field hos hds (x := .none) rfl (wpAny_bind (wpAny_field hos hds (x := vs) rfl (wpAny_pure ?_)))))))
    refine wpAny_bind (HT.slicePart_ ps ?_)
    show wpAny _ _ (if ((-1 : Int) == 0) = true then _ else _) _ _ s
    rw [if_neg (by decide)]
    refine wpAny_bind (slicePart_none (wpAny_bind (slicePart_none (wpAny_bind (wpAny_pure ?_)))))
    show wpAny _ _ (pure (((items.size : Int) - 1), (-1 : Int), Builtin.Slice.slicePlaces ((items.size : Int) - 1) (-1) (-1))) _ _ s
    have hp : Builtin.Slice.slicePlaces ((items.size : Int) - 1) (-1) (-1) = items.size := by
      unfold Builtin.Slice.slicePlaces
      rw [if_neg (by decide)]
      by_cases hz : items.size = 0
      · rw [hz]; rfl
      · rw [if_pos (by omega), show (- (-1 : Int)) = 1 by decide, Int.ediv_one]
        omega
    rw [hp]
    refine wpAny_pure ?_
    have hno : ¬ ((((items.size : Int) - 1) == 0 && (-1 : Int) == 1 && items.size == items.size) = true) := by
      intro q
      rw [Bool.and_eq_true, Bool.and_eq_true] at q
      exact absurd q.1.2 (by decide)
    show wpAny _ _ (if (((items.size : Int) - 1) == 0 && (-1 : Int) == 1 && items.size == items.size) = true then _ else _) _ _ s
    rw [if_neg hno, pick_rev]
    first
      | exact wpAny_bind (m := Builtin.Tuple.tupleExact _) (wpAny_newObj_type (wpAny_pure ⟨_, rfl, wpAny_pure h⟩) htake)
      | exact wpAny_bind (m := Builtin.Tuple.tupleExact _) (wpAny_newObj_type (wpAny_bind (wpAny_pure (wpAny_pure ⟨_, rfl, wpAny_pure h⟩))) htake)
      | exact wpAny_bind (wpAny_bind (m := Builtin.Tuple.tupleExact _) (wpAny_newObj_type (wpAny_pure (wpAny_pure ⟨_, rfl, wpAny_pure h⟩)) htake))
      | exact wpAny_bind (wpAny_bind (m := Builtin.Tuple.tupleExact _) (wpAny_newObj_type (wpAny_pure ⟨_, rfl, wpAny_pure h⟩) htake))
/-- t * 1 is t itself -/
theorem tuple_mul1 (l : Addr) (items : Array Value) (n : Nat) (dd : Option Addr) (sl : Array (Option Value)) (u : Tok) :
    Meets (Builtin.«tuple.__mul__» ⟨[.ref l, .int 1 u], []⟩) (fun _ R s => s.heap.get? l = some { cls := .type "tuple", dict := dd, data := .seq items n, slots := sl } ∧
      R (.ok (.ret (Value.ref l))) s) :=
  .of_wp fun prog w A R s h => by
    obtain ⟨hp, g, d, tk, os⟩ := s
    obtain ⟨hl, h⟩ := h
    have f1 := AutoSeq1.idx_int
    have c1 : (items.isEmpty || (1 : Int) == 1) = true := by simp
    wp_walk using AutoSeq1.wpAny_loadPart' hl
    repeat (first
      | (refine wpAny_ite_true (by simp) ?_; wp_walk using AutoSeq1.wpAny_loadPart' hl)
      | (refine wpAny_ite_true (decide_eq_true c1) ?_; wp_walk using AutoSeq1.wpAny_loadPart' hl))
    exact ⟨_, rfl, h⟩
end
end MPS
namespace MPS
open PySem PySem.Spec PyProof.Rows L2
variable [Tbs]

section
variable {X : Cx} {m : Pl} {H : Hp} {h : MP.Heap} {Q : VK} {Z : Nat → Hp → Prop}
/-- t * 1 -/
theorem op_rep1 : OpR X (binaryOp .Mult) (fun x y H Q => ∃ l xs, x = .ref l ∧ y = .int 1 ∧ SqT X.K H l xs ∧ Q (.ref l) H) := by
  intro pins s σ H x y v u Q I rx ry h
  obtain ⟨l, xs, rfl, rfl, hT, q⟩ := h
  cases rx
  obtain ⟨t, rfl⟩ := ry
  obtain ⟨its, r, ⟨⟨cls, dd, data, sl⟩, ho, hc, n, hd⟩, hs⟩ := I.tuple hT
  simp only at hc hd
  subst hc hd
  refine wpAny_binaryOp_repeat_ref (T := "tuple") (U := "int") (by decide) ⟨_, ho, rfl⟩ (fun s' => typeIs_int s' 1 t) noFill_tuple_mul F.fills_int_mul F.slot_int_rmul repeat_tuple F.slot_int_index.lookup
    (call_meets F.slot_int_rmul (typeIs_int s 1 t) F.entry_int_rmul (F.args_int_rmul_2 _ _) (int_rmul_tuple 1 t l its.toArray n dd sl)
      ⟨ho, rfl, ⟨_, ho, rfl⟩, call_meets F.slot_tuple_mul ⟨_, ho, rfl⟩ F.entry_tuple_mul (F.args_tuple_mul_2 _ _) (tuple_mul1 l its.toArray n dd sl t) ⟨ho, ?_⟩⟩)
  exact ⟨.ref l, H, I, rfl, q⟩
theorem opB_sound {o : MP.BOp} {d1 d2 : MP.D} {v1 v2 : V} (hr : HR X.K m h H) (r1 : Rel X.K m H d1 v1) (r2 : Rel X.K m H d2 v2) (g : Gd X.K (Rel X.K) m H (MP.opB o d1 d2 h) Q Z) :
    OpV X (binaryOp (bop o)) v1 v2 H Q := by
  unfold MP.opB at g
  split at g
  · cases r1; cases r2; exact .of op_add ⟨_, _, rfl, rfl, g.here hr (.int _)⟩
  · cases r1; cases r2; exact .of op_add_ib ⟨_, _, rfl, rfl, g.here hr (.int _)⟩
  · cases r1; cases r2; exact .of op_add_bi ⟨_, _, rfl, rfl, g.here hr (.int _)⟩
  · cases r1; cases r2; exact .of op_add_bb ⟨_, _, rfl, rfl, g.here hr (.int _)⟩
  · split at g
    · rename_i hz
      cases r1 with
      | tup h1 q1 =>
      cases r2 with
      | tup h2 q2 =>
      refine .of op_catA ⟨_, _, _, _, rfl, rfl, h1, h2, by rw [← q1.length, ← q2.length]; exact hz, fun e => ?_, fun ne e => ?_, fun _ _ p hp => new_tup g hr (q1.append q2) p hp⟩
      · subst e; cases q1; exact g.here hr (.tup h2 q2)
      · subst e; cases q2; exact g.here hr (.tup h1 (by rw [List.append_nil]; exact q1))
    · exact g.elim
  · split at g
    · rename_i hz
      cases r1 with
      | str x =>
      cases r2 with
      | str y =>
      refine .of op_add_str ⟨x, y, rfl, rfl, hz, ?_⟩
      refine g.here hr ?_
      have e : (x ++ y : Str).cps.toList = x.cps.toList ++ y.cps.toList := by
        show (x.cps ++ y.cps).toList = _
        rw [Array.toList_append]
      rw [← e]
      exact .str (x ++ y)
    · exact g.elim
  · split at g
    · rename_i e1 e2
      split at g
      · rename_i hz
        obtain ⟨a, vs, rfl, h1, q1⟩ := rlist_rel hr r1 e1
        obtain ⟨b, us, rfl, h2, q2⟩ := rlist_rel hr r2 e2
        exact .of op_cat ⟨_, _, _, _, rfl, rfl, h1, h2, by rw [← q1.length, ← q2.length]; exact hz, (new_lst g hr (q1.append q2)).2⟩
      · exact g.elim
    · exact g.elim
  · cases r1; cases r2; exact .of op_sub ⟨_, _, rfl, rfl, g.here hr (.int _)⟩
  · cases r1; cases r2; exact .of op_sub_ib ⟨_, _, rfl, rfl, g.here hr (.int _)⟩
  · cases r1; cases r2; exact .of op_sub_bi ⟨_, _, rfl, rfl, g.here hr (.int _)⟩
  · split at g
    · rename_i hm
      cases r1; cases r2; exact mul_sound hm (g.here hr (.int _))
    · exact g.elim
  · cases r1 with
    | tup h1 q1 =>
    cases r2
    split at g
    · split at g
      · rename_i e
        subst e
        exact .of op_rep1 ⟨_, _, rfl, rfl, h1, g.here hr (.tup h1 q1)⟩
      · exact g.elim
    · rename_i hc
      simp only [Bool.or_eq_true, decide_eq_true_eq, not_or, List.isEmpty_iff] at hc
      refine .of op_repT ⟨_, _, _, rfl, rfl, h1, fun e => hc.1.1.1 ?_, by omega, by omega, by rw [← q1.length]; omega, fun p hp => new_tup g hr (q1.rep _) p hp⟩
      subst e; cases q1; rfl
  · split at g
    · rename_i e1
      split at g
      · rename_i hc
        simp only [Bool.and_eq_true, decide_eq_true_eq] at hc
        obtain ⟨a, vs, rfl, h1, q1⟩ := rlist_rel hr r1 e1
        cases r2
        refine .of op_rep ⟨_, _, _, rfl, rfl, h1, by omega, by omega, ?_, (new_lst g hr (q1.rep _)).2⟩
        have a1 : vs.length ≤ 4096 := by rw [← q1.length]; omega
        exact Nat.le_trans (Nat.mul_le_mul a1 (show _ ≤ 4096 by omega)) (by decide +kernel)
      · exact g.elim
    · exact g.elim
  · split at g
    · rename_i hc
      cases r1; cases r2; exact .of op_fdiv ⟨_, _, rfl, rfl, hc, g.here hr (.int _)⟩
    · split at g
      · rename_i hc
        cases r1; cases r2; exact .of op_fdivW ⟨_, _, rfl, rfl, wide_div hc.1 hc.2 (by decide) (by decide), g.here hr (.int _)⟩
      · exact g.elim
  · split at g
    · rename_i hc
      cases r1; cases r2; exact .of op_mod ⟨_, _, rfl, rfl, hc, g.here hr (.int _)⟩
    · exact g.elim
  · split at g
    · rename_i hc
      cases r1; cases r2; exact .of op_pow ⟨_, _, rfl, rfl, ⟨hc.1, by omega, hc.2.2⟩, g.here hr (.int _)⟩
    · exact g.elim
  · exact g.elim
end
end MPS
namespace MPS
open PySem PySem.Spec PyProof.Rows L2
variable [Tbs]

/-! ### values as plain data -/
mutual
def toPy : MP.D → PyData
  | .bl b => .bool b
  | .int i => .int i
  | .str s => .str ⟨s.toArray⟩
  | .tup xs => .tuple (toPys xs)
  | .lst xs => .list (toPys xs)
  | _ => .none
def toPys : List MP.D → List PyData
  | [] => []
  | x :: xs => toPy x :: toPys xs
end
theorem toPys_map : ∀ xs : List MP.D, toPys xs = xs.map toPy
  | [] => rfl
  | x :: xs => by rw [toPys, toPys_map xs]; rfl
theorem str_ok {s : List Nat} (h : s.all (· < 1114112) = true) : PyData.strOk (⟨s.toArray⟩ : Str) = true := by
  unfold PyData.strOk
  simpa using h
mutual
theorem flat_lay : ∀ (n : Nat) (d : MP.D), d.flat n = true → (toPy d).canLay0 = true ∧ (toPy d).depth ≤ n + 1
  | _, .non, _ => ⟨rfl, Nat.zero_le _⟩
  | _, .bl _, _ => ⟨rfl, Nat.zero_le _⟩
  | _, .int _, _ => ⟨rfl, Nat.zero_le _⟩
  | _, .str s, h => ⟨str_ok (by simpa [MP.D.flat] using h), Nat.zero_le _⟩
  | n, .tup xs, h => by
    obtain ⟨a, b⟩ := flats_lay n xs (by simpa [MP.D.flat] using h)
    exact ⟨a, by show PyData.depthAll (toPys xs) + 1 ≤ n + 1; omega⟩
  | n, .lst xs, h => by
    obtain ⟨a, b⟩ := flats_lay n xs (by simpa [MP.D.flat] using h)
    exact ⟨a, by show PyData.depthAll (toPys xs) + 1 ≤ n + 1; omega⟩
  | n, .und, h => by simp [MP.D.flat] at h
  | n, .frz _, h => by simp [MP.D.flat] at h
  | n, .ref _, h => by simp [MP.D.flat] at h
  | n, .clo _ _, h => by simp [MP.D.flat] at h
theorem flats_lay : ∀ (n : Nat) (ds : List MP.D), MP.D.flats n ds = true → PyData.canLayAll0 (toPys ds) = true ∧ PyData.depthAll (toPys ds) ≤ n
  | _, [], _ => ⟨rfl, Nat.zero_le _⟩
  | 0, _ :: _, h => by simp [MP.D.flats] at h
  | n + 1, x :: xs, h => by
    simp only [MP.D.flats, Bool.and_eq_true] at h
    obtain ⟨a1, b1⟩ := flat_lay n x h.1
    obtain ⟨a2, b2⟩ := flats_lay (n + 1) xs h.2
    refine ⟨?_, ?_⟩
    · show (PyData.canLay0 (toPy x) && PyData.canLayAll0 (toPys xs)) = true
      rw [a1, a2]; rfl
    · show max (PyData.depth (toPy x)) (PyData.depthAll (toPys xs)) ≤ n + 1
      omega
end
theorem flat_shaped {n : Nat} {d : MP.D} (hn : n ≤ 60) (h : d.flat n = true) : SeqAt.shaped (toPy d) = true := by
  obtain ⟨a, b⟩ := flat_lay n d h
  unfold SeqAt.shaped
  rw [a, Bool.true_and]
  exact decide_eq_true (by omega)
theorem flats_mono : ∀ (n : Nat) (ds : List MP.D), MP.D.flats n ds = true → (∀ d ∈ ds, d.flat n = true → d.flat (n + 1) = true) → (∀ (k : Nat) (d : MP.D), d ∈ ds → k < n → d.flat k = true → d.flat (k + 1) = true) → MP.D.flats (n + 1) ds = true
  | _, [], _, _, _ => by simp [MP.D.flats]
  | 0, _ :: _, h, _, _ => by simp [MP.D.flats] at h
  | n + 1, x :: xs, h, h1, h2 => by
    simp only [MP.D.flats, Bool.and_eq_true] at h ⊢
    exact ⟨h2 n x List.mem_cons_self (by omega) h.1, flats_mono (n + 1) xs h.2 (fun d hd => h1 d (List.mem_cons_of_mem _ hd)) fun k d hd => h2 k d (List.mem_cons_of_mem _ hd)⟩
mutual
theorem flat_succ : ∀ (n : Nat) (d : MP.D), d.flat n = true → d.flat (n + 1) = true
  | _, .non, _ => by simp [MP.D.flat]
  | _, .bl _, _ => by simp [MP.D.flat]
  | _, .int _, _ => by simp [MP.D.flat]
  | _, .str s, h => by simpa [MP.D.flat] using h
  | n, .tup xs, h => by
    simp only [MP.D.flat] at h ⊢
    exact flats_succ n xs h
  | n, .lst xs, h => by
    simp only [MP.D.flat] at h ⊢
    exact flats_succ n xs h
  | n, .und, h => by simp [MP.D.flat] at h
  | n, .frz _, h => by simp [MP.D.flat] at h
  | n, .ref _, h => by simp [MP.D.flat] at h
  | n, .clo _ _, h => by simp [MP.D.flat] at h
theorem flats_succ : ∀ (n : Nat) (ds : List MP.D), MP.D.flats n ds = true → MP.D.flats (n + 1) ds = true
  | _, [], _ => by simp [MP.D.flats]
  | 0, _ :: _, h => by simp [MP.D.flats] at h
  | n + 1, x :: xs, h => by
    simp only [MP.D.flats, Bool.and_eq_true] at h ⊢
    exact ⟨flat_succ n x h.1, flats_succ (n + 1) xs h.2⟩
end
mutual
theorem rsv_flat (h : MP.Heap) : ∀ (n : Nat) (d e : MP.D), MP.rsv h n d = some e → e.flat n = true
  | 0, _, _, q => by simp [MP.rsv] at q
  | n + 1, .non, e, q => by simp [MP.rsv] at q; subst q; simp [MP.D.flat]
  | n + 1, .bl _, e, q => by simp [MP.rsv] at q; subst q; simp [MP.D.flat]
  | n + 1, .int _, e, q => by simp [MP.rsv] at q; subst q; simp [MP.D.flat]
  | n + 1, .str s, e, q => by
    simp only [MP.rsv] at q
    split at q
    · rename_i hs; cases q; simpa [MP.D.flat] using hs
    · cases q
  | n + 1, .tup xs, e, q => by
    simp only [MP.rsv, Option.map_eq_some_iff] at q
    obtain ⟨ys, q1, rfl⟩ := q
    simp only [MP.D.flat]
    exact flats_succ n ys (rsvs_flat h n xs ys q1)
  | n + 1, .lst xs, e, q => by
    simp only [MP.rsv, Option.map_eq_some_iff] at q
    obtain ⟨ys, q1, rfl⟩ := q
    simp only [MP.D.flat]
    exact flats_succ n ys (rsvs_flat h n xs ys q1)
  | n + 1, .ref k, e, q => by
    simp only [MP.rsv] at q
    split at q
    · simp only [Option.map_eq_some_iff] at q
      obtain ⟨ys, q1, rfl⟩ := q
      simp only [MP.D.flat]
      exact flats_succ n ys (rsvs_flat h n _ ys q1)
    · cases q
  | n + 1, .und, e, q => by simp [MP.rsv] at q
  | n + 1, .frz _, e, q => by simp [MP.rsv] at q
  | n + 1, .clo _ _, e, q => by simp [MP.rsv] at q
theorem rsvs_flat (h : MP.Heap) : ∀ (n : Nat) (ds es : List MP.D), MP.rsvs h n ds = some es → MP.D.flats n es = true
  | 0, _, _, q => by simp [MP.rsvs] at q
  | n + 1, [], es, q => by simp [MP.rsvs] at q; subst q; simp [MP.D.flats]
  | n + 1, x :: xs, es, q => by
    simp only [MP.rsvs, Option.bind_eq_some_iff, Option.map_eq_some_iff] at q
    obtain ⟨y, q1, ys, q2, rfl⟩ := q
    simp only [MP.D.flats, Bool.and_eq_true]
    exact ⟨rsv_flat h n x y q1, rsvs_flat h (n + 1) xs ys q2⟩
end
section
variable {K : PySem.W.Frag} {m : Pl} {H : Hp} {h : MP.Heap}
mutual
theorem flat_dp : ∀ (n : Nat) (d : MP.D) (v : V), d.flat n = true → Rel K m H d v → Dp K H v (toPy d)
  | _, .non, _, _, r => by cases r; exact .non
  | _, .bl _, _, _, r => by cases r; exact .bl _
  | _, .int _, _, _, r => by cases r; exact .int _
  | _, .str s, _, h, r => by
    cases r with
    | str x => have e : (⟨x.cps.toList.toArray⟩ : Str) = x := by cases x; simp
               show Dp K H (.str x) (.str ⟨x.cps.toList.toArray⟩)
               rw [e]; exact .str x
  | n, .tup xs, _, h, r => by
    cases r with
    | tup h1 q => exact .tup h1 (flats_dp n xs _ (by simpa [MP.D.flat] using h) q)
  | n, .lst xs, _, h, r => by
    cases r with
    | lst h1 _ _ q => exact .lst (.of h1) (flats_dp n xs _ (by simpa [MP.D.flat] using h) q)
  | n, .und, _, h, _ => by simp [MP.D.flat] at h
  | n, .frz _, _, h, _ => by simp [MP.D.flat] at h
  | n, .ref _, _, h, _ => by simp [MP.D.flat] at h
  | n, .clo _ _, _, h, _ => by simp [MP.D.flat] at h
theorem flats_dp : ∀ (n : Nat) (ds : List MP.D) (vs : List V), MP.D.flats n ds = true → Rels K m H ds vs → DpAll K H vs (toPys ds)
  | _, [], _, _, r => by cases r; exact .nil
  | 0, _ :: _, _, h, _ => by simp [MP.D.flats] at h
  | n + 1, x :: xs, _, h, r => by
    simp only [MP.D.flats, Bool.and_eq_true] at h
    cases r with
    | cons h1 q => exact .cons (flat_dp n x _ h.1 h1) (flats_dp (n + 1) xs _ h.2 q)
end
mutual
theorem rsv_dp (hr : HR K m h H) : ∀ (n : Nat) (d e : MP.D) (v : V), MP.rsv h n d = some e → Rel K m H d v → Dp K H v (toPy e)
  | 0, _, _, _, q, _ => by simp [MP.rsv] at q
  | n + 1, .non, e, _, q, r => by simp [MP.rsv] at q; subst q; cases r; exact .non
  | n + 1, .bl _, e, _, q, r => by simp [MP.rsv] at q; subst q; cases r; exact .bl _
  | n + 1, .int _, e, _, q, r => by simp [MP.rsv] at q; subst q; cases r; exact .int _
  | n + 1, .str s, e, v, q, r => by
    simp only [MP.rsv] at q
    split at q
    · rename_i hs; cases q; exact flat_dp (m := m) (n + 1) (.str s) v (by simpa [MP.D.flat] using hs) r
    · cases q
  | n + 1, .tup xs, e, _, q, r => by
    simp only [MP.rsv, Option.map_eq_some_iff] at q
    obtain ⟨ys, q1, rfl⟩ := q
    cases r with
    | tup h1 r => exact .tup h1 (rsvs_dp hr n xs ys _ q1 r)
  | n + 1, .lst xs, e, _, q, r => by
    simp only [MP.rsv, Option.map_eq_some_iff] at q
    obtain ⟨ys, q1, rfl⟩ := q
    cases r with
    | lst h1 _ _ r => exact .lst (.of h1) (rsvs_dp hr n xs ys _ q1 r)
  | n + 1, .ref k, e, _, q, r => by
    simp only [MP.rsv] at q
    split at q
    · rename_i xs e1
      simp only [Option.map_eq_some_iff] at q
      obtain ⟨ys, q1, rfl⟩ := q
      cases r with
      | ref h1 =>
        obtain ⟨a, vs, e2, e3, r⟩ := hr.lst e1
        rw [h1] at e2; cases e2
        exact .lst (.of e3) (rsvs_dp hr n _ ys _ q1 r)
    · cases q
  | n + 1, .und, e, _, q, _ => by simp [MP.rsv] at q
  | n + 1, .frz _, e, _, q, _ => by simp [MP.rsv] at q
  | n + 1, .clo _ _, e, _, q, _ => by simp [MP.rsv] at q
theorem rsvs_dp (hr : HR K m h H) : ∀ (n : Nat) (ds es : List MP.D) (vs : List V), MP.rsvs h n ds = some es → Rels K m H ds vs → DpAll K H vs (toPys es)
  | 0, _, _, _, q, _ => by simp [MP.rsvs] at q
  | n + 1, [], es, _, q, r => by simp [MP.rsvs] at q; subst q; cases r; exact .nil
  | n + 1, x :: xs, es, _, q, r => by
    simp only [MP.rsvs, Option.bind_eq_some_iff, Option.map_eq_some_iff] at q
    obtain ⟨y, q1, ys, q2, rfl⟩ := q
    cases r with
    | cons h1 r => exact .cons (rsv_dp hr n x y _ q1 h1) (rsvs_dp hr (n + 1) xs ys _ q2 r)
end
theorem rsvD_dp (hr : HR K m h H) {d e : MP.D} {v : V} (q : MP.rsvD h d = some e) (r : Rel K m H d v) : Dp K H v (toPy e) ∧ SeqAt.shaped (toPy e) = true ∧ e.flat MP.DEEP = true := by
  unfold MP.rsvD at q
  split at q
  · rename_i hf
    cases q
    exact ⟨flat_dp _ _ _ hf r, flat_shaped (by decide) hf, hf⟩
  · exact ⟨rsv_dp hr _ _ _ _ q r, flat_shaped (by decide) (rsv_flat h _ _ _ q), rsv_flat h _ _ _ q⟩
end
theorem str_beq (s t : List Nat) : ((⟨s.toArray⟩ : Str) == ⟨t.toArray⟩) = (s == t) := by
  rw [Bool.eq_iff_iff, beq_iff_eq, beq_iff_eq]
  exact ⟨fun e => by injection e with e; exact List.toArray_inj e, fun e => by rw [e]⟩
mutual
theorem eqv_py : ∀ (n k : Nat) (a b : MP.D), a.flat n = true → b.flat k = true → PyData.eqv (toPy a) (toPy b) = MP.D.eqv a b
  | n, k, .non, b, h, q => by cases b <;> first | rfl | (simp [MP.D.flat] at q; done)
  | n, k, .bl _, b, h, q => by cases b <;> first | rfl | (simp [MP.D.flat] at q; done)
  | n, k, .int _, b, h, q => by cases b <;> first | rfl | (simp [MP.D.flat] at q; done)
  | n, k, .str s, b, h, q => by
    cases b with
    | str t => simp only [toPy, PyData.eqv, MP.D.eqv]; exact str_beq s t
    | _ => first | rfl | (simp [MP.D.flat] at q; done)
  | n, k, .tup xs, b, h, q => by
    cases b with
    | tup ys => simp only [toPy, PyData.eqv, MP.D.eqv]; exact eqvs_py n k xs ys (by simpa [MP.D.flat] using h) (by simpa [MP.D.flat] using q)
    | _ => first | rfl | (simp [MP.D.flat] at q; done)
  | n, k, .lst xs, b, h, q => by
    cases b with
    | lst ys => simp only [toPy, PyData.eqv, MP.D.eqv]; exact eqvs_py n k xs ys (by simpa [MP.D.flat] using h) (by simpa [MP.D.flat] using q)
    | _ => first | rfl | (simp [MP.D.flat] at q; done)
  | n, k, .und, _, h, _ => by simp [MP.D.flat] at h
  | n, k, .frz _, _, h, _ => by simp [MP.D.flat] at h
  | n, k, .ref _, _, h, _ => by simp [MP.D.flat] at h
  | n, k, .clo _ _, _, h, _ => by simp [MP.D.flat] at h
theorem eqvs_py : ∀ (n k : Nat) (as bs : List MP.D), MP.D.flats n as = true → MP.D.flats k bs = true → PyData.eqvAll (toPys as) (toPys bs) = MP.D.eqvs as bs
  | _, _, [], [], _, _ => rfl
  | _, _, [], _ :: _, _, _ => rfl
  | _, _, _ :: _, [], _, _ => rfl
  | 0, _, _ :: _, _ :: _, h, _ => by simp [MP.D.flats] at h
  | _, 0, _ :: _, _ :: _, _, q => by simp [MP.D.flats] at q
  | n + 1, k + 1, a :: as, b :: bs, h, q => by
    simp only [MP.D.flats, Bool.and_eq_true] at h q
    simp only [toPys, PyData.eqvAll, MP.D.eqvs]
    rw [eqv_py n k a b h.1 q.1, eqvs_py (n + 1) (k + 1) as bs h.2 q.2]
end
theorem any_eqv_py {n k : Nat} {d : MP.D} (h : d.flat k = true) : ∀ (as : List MP.D), MP.D.flats n as = true → ((toPys as).any fun z => PyData.eqv z (toPy d)) = as.any fun z => MP.D.eqv z d := by
  intro as
  cases n with
  | zero => intro q; cases as with
    | nil => rfl
    | cons a l => simp [MP.D.flats] at q
  | succ n =>
    induction as with
    | nil => intro _; rfl
    | cons a l ih =>
      intro q
      simp only [MP.D.flats, Bool.and_eq_true] at q
      simp only [toPys, List.any_cons]
      rw [eqv_py n k a d q.1 h, ih q.2]
end MPS
namespace MPS
open PySem PySem.Spec PyProof.Rows L2
variable [Tbs]
/-! ### dicts whose keys are tuples -/
mutual
theorem eqv_nk : ∀ {n n' : Nat} (a b : MP.D), a.hsh n = true → b.hsh n' = true → MP.D.eqv a b = NestedKey.beq (nk a) (nk b)
  | _, _, .non, b, _, hb => by cases b <;> first | rfl | (simp [MP.D.hsh] at hb) | (rename_i n _ _; cases n <;> simp [MP.D.hsh] at hb)
  | _, _, .bl x, b, _, hb => by
    cases b with
    | bl y => cases x <;> cases y <;> rfl
    | int j => simp only [MP.D.eqv, nk, NestedKey.beq]; cases h : (if x = true then (1 : Int) else 0) == j <;> simp_all
    | non => rfl
    | str _ => rfl
    | tup _ => rfl
    | _ => simp [MP.D.hsh] at hb
  | _, _, .int x, b, _, hb => by
    cases b with
    | bl y => simp only [MP.D.eqv, nk, NestedKey.beq]; cases h : x == (if y = true then (1 : Int) else 0) <;> simp_all
    | int j => simp only [MP.D.eqv, nk, NestedKey.beq]; cases h : x == j <;> simp_all
    | non => rfl
    | str _ => rfl
    | tup _ => rfl
    | _ => simp [MP.D.hsh] at hb
  | _, _, .str x, b, _, hb => by
    cases b with
    | str y =>
      simp only [MP.D.eqv, nk, NestedKey.beq]
      by_cases h : x = y
      · subst h; simp
      · have h2 : ¬ ((⟨x.toArray⟩ : Str) = ⟨y.toArray⟩) := fun z => h (by injection z with z; exact congrArg Array.toList z)
        rw [decide_eq_false h2]
        simpa using h
    | non => rfl
    | bl _ => rfl
    | int _ => rfl
    | tup _ => rfl
    | _ => simp [MP.D.hsh] at hb
  | n, n', .tup xs, b, ha, hb => by
    cases b with
    | tup ys =>
      cases n with
      | zero => simp [MP.D.hsh] at ha
      | succ n =>
      cases n' with
      | zero => simp [MP.D.hsh] at hb
      | succ n' =>
      simp only [MP.D.hsh] at ha hb
      simp only [MP.D.eqv, nk, NestedKey.beq]
      exact eqvs_nks xs ys ha hb
    | non => rfl
    | bl _ => rfl
    | int _ => rfl
    | str _ => rfl
    | _ => simp [MP.D.hsh] at hb
  | n, _, .und, _, ha, _ => by cases n <;> simp [MP.D.hsh] at ha
  | n, _, .lst _, _, ha, _ => by cases n <;> simp [MP.D.hsh] at ha
  | n, _, .frz _, _, ha, _ => by cases n <;> simp [MP.D.hsh] at ha
  | n, _, .ref _, _, ha, _ => by cases n <;> simp [MP.D.hsh] at ha
  | n, _, .clo _ _, _, ha, _ => by cases n <;> simp [MP.D.hsh] at ha
theorem eqvs_nks : ∀ {n n' : Nat} (as bs : List MP.D), MP.D.hshs n as = true → MP.D.hshs n' bs = true → MP.D.eqvs as bs = NestedKey.beqAll (nks as) (nks bs)
  | _, _, [], [], _, _ => rfl
  | _, _, [], _ :: _, _, _ => rfl
  | _, _, _ :: _, [], _, _ => rfl
  | _, _, a :: as, b :: bs, ha, hb => by
    simp only [MP.D.hshs, Bool.and_eq_true] at ha hb
    simp only [MP.D.eqvs, nks, NestedKey.beqAll]
    rw [eqv_nk a b ha.1 hb.1, eqvs_nks as bs ha.2 hb.2]
end
theorem hkey_hsh {d : MP.D} (h : MP.hkey d = true) : d.hsh 8 = true := by
  cases d <;> first | exact h | (simp [MP.hkey] at h)
theorem eqv_key {a b : MP.D} (ha : MP.hkey a = true) (hb : MP.hkey b = true) : MP.D.eqv a b = decide (nk a = nk b) := by
  rw [NestedKey.decide_eq]
  exact eqv_nk a b (hkey_hsh ha) (hkey_hsh hb)
mutual
theorem nk_depth : ∀ {n : Nat} (a : MP.D), a.hsh n = true → (nk a).depth ≤ n
  | _, .non, _ => Nat.zero_le _
  | _, .bl _, _ => Nat.zero_le _
  | _, .int _, _ => Nat.zero_le _
  | _, .str _, _ => Nat.zero_le _
  | n, .tup xs, h => by
    cases n with
    | zero => simp [MP.D.hsh] at h
    | succ n =>
      simp only [MP.D.hsh] at h
      have := nks_depth xs h
      simp only [nk, NestedKey.depth]
      omega
  | _, .und, _ => Nat.zero_le _
  | _, .lst _, _ => Nat.zero_le _
  | _, .frz _, _ => Nat.zero_le _
  | _, .ref _, _ => Nat.zero_le _
  | _, .clo _ _, _ => Nat.zero_le _
theorem nks_depth : ∀ {n : Nat} (as : List MP.D), MP.D.hshs n as = true → NestedKey.depthAll (nks as) ≤ n
  | _, [], _ => Nat.zero_le _
  | _, a :: as, h => by
    simp only [MP.D.hshs, Bool.and_eq_true] at h
    have h1 := nk_depth a h.1
    have h2 := nks_depth as h.2
    simp only [nks, NestedKey.depthAll]
    omega
end
section
variable {X : Cx} {pins : List (Addr × Obj)} {σ : L2.St} {m : Pl} {H : Hp} {s : Shared}
mutual
theorem nested_of (I : Inv X pins σ H s) : ∀ {n : Nat} {d : MP.D} {v : V} {u : Value}, Rel X.K m H d v → RelV v u → d.hsh n = true → NestedIs s.heap (nk d) u
  | _, _, _, u, .non, r, _ => by obtain rfl : u = Value.none := r; exact .none
  | _, _, _, u, .bl b, r, _ => by obtain rfl : u = Value.bool b := r; exact .bool rfl
  | _, _, _, u, .int i, r, _ => by obtain ⟨t, rfl⟩ : ∃ t, u = Value.int i t := r; exact .int i t
  | _, _, _, u, .str x, r, _ => by
    obtain ⟨t, rfl⟩ : ∃ t, u = Value.str x t := r
    have e : nk (.str x.cps.toList) = .text x := by cases x; simp [nk]
    rw [e]
    exact .text x t
  | n, _, _, u, .tup (a := a) h rs, r, hh => by
    obtain rfl : u = Value.ref a := r
    obtain ⟨its, rv, ⟨o, ho, hc, k, hd⟩, hz⟩ := I.tuple h
    cases n with
    | zero => simp [MP.D.hsh] at hh
    | succ n =>
      simp only [MP.D.hsh] at hh
      exact .tup ho hc hd (by simpa using nested_all I rs rv hh)
  | n, _, _, _, .lst h n1 nb r, _, hh => by cases n <;> simp [MP.D.hsh] at hh
  | n, _, _, _, .frz h r, _, hh => by cases n <;> simp [MP.D.hsh] at hh
  | n, _, _, _, .ref h, _, hh => by cases n <;> simp [MP.D.hsh] at hh
theorem nested_all (I : Inv X pins σ H s) : ∀ {n : Nat} {ds : List MP.D} {vs : List V} {us : List Value}, Rels X.K m H ds vs → Vals vs us → MP.D.hshs n ds = true → NestedAll s.heap (nks ds) us
  | _, _, _, _, .nil, r, _ => by cases r; exact .nil
  | _, _, _, _, .cons h q, r, hh => by
    cases r with
    | cons r1 r2 =>
      simp only [MP.D.hshs, Bool.and_eq_true] at hh
      exact .cons (nested_of I h r1 hh.1) (nested_all I q r2 hh.2)
end
theorem key_is (I : Inv X pins σ H s) {d : MP.D} {b : Addr} (r : Rel X.K m H d (.ref b)) (h : MP.hkey d = true) : (nestedKind X.prog X.w).is s.heap (nk d) b :=
  ⟨nested_of I r rfl (hkey_hsh h), nk_depth d (hkey_hsh h)⟩
theorem NR.length {K : PySem.W.Frag} : ∀ {kvs : List (MP.D × MP.D)} {xs : List (NestedKey × Addr × Value)}, NR K m H kvs xs → kvs.length = xs.length
  | _, _, .nil => rfl
  | _, _, .cons _ _ _ _ r => by rw [List.length_cons, List.length_cons, r.length]
theorem NR.keys (I : Inv X pins σ H s) : ∀ {kvs : List (MP.D × MP.D)} {xs : List (NestedKey × Addr × Value)}, NR X.K m H kvs xs → ∀ x ∈ xs, (nestedKind X.prog X.w).is s.heap x.1 x.2.1
  | _, _, .nil, x, hx => nomatch hx
  | _, _, .cons hk hh hv ru r, x, hx => by
    rcases List.mem_cons.mp hx with z | z
    · subst z; exact key_is I hk hh
    · exact r.keys I x z
theorem NR.get {K : PySem.W.Frag} {d : MP.D} (hd : MP.hkey d = true) : ∀ {kvs : List (MP.D × MP.D)} {xs : List (NestedKey × Addr × Value)}, NR K m H kvs xs →
    (∀ v, MP.dget kvs d = some v → ∃ p vv, atKey xs (nk d) = some p ∧ Rel K m H v vv ∧ RelV vv p.2) ∧ (MP.dget kvs d).isSome = (atKey xs (nk d)).isSome
  | _, _, .nil => ⟨fun v e => (by simp [MP.dget] at e), rfl⟩
  | _, _, .cons (k := k) (d := v0) (b := b) (v := vv0) (u := u0) (xs := xs) hk hh hv ru r => by
    obtain ⟨h1, h2⟩ := r.get (d := d) hd
    unfold MP.dget
    rw [eqv_key hh hd]
    by_cases z : nk k = nk d
    · have e : atKey ((nk k, b, u0) :: xs) (nk d) = some (b, u0) := by simp [atKey, z]
      rw [e]
      simp only [z, decide_true, if_true]
      exact ⟨fun v e => by cases e; exact ⟨_, vv0, rfl, hv, ru⟩, rfl⟩
    · have e : atKey ((nk k, b, u0) :: xs) (nk d) = atKey xs (nk d) := by simp [atKey, List.find?_cons, z]
      rw [e]
      simp only [z, decide_false, Bool.false_eq_true, if_false]
      exact ⟨h1, h2⟩
theorem NR.rep {K : PySem.W.Frag} {d v : MP.D} {vv : V} {u : Value} (hd : MP.hkey d = true) (rv : Rel K m H v vv) (ru : RelV vv u) : ∀ {kvs : List (MP.D × MP.D)} {xs : List (NestedKey × Addr × Value)}, NR K m H kvs xs →
    NR K m H (kvs.map fun p => if MP.D.eqv p.1 d then (p.1, v) else p) (xs.map (putAt (nk d) u))
  | _, _, .nil => .nil
  | _, _, .cons (k := k) (d := v0) (b := b) (v := vv0) (u := u0) hk hh hv ru0 r => by
    rw [List.map_cons, List.map_cons]
    simp only [eqv_key hh hd]
    by_cases z : nk k = nk d
    · simp only [z, decide_true, if_true]
      have e : putAt (nk d) u (nk d, b, u0) = (nk d, b, u) := by simp [putAt]
      rw [e, ← z]
      exact .cons hk hh rv ru (by rw [z]; exact r.rep hd rv ru)
    · simp only [z, decide_false, Bool.false_eq_true, if_false]
      have e : putAt (nk d) u (nk k, b, u0) = (nk k, b, u0) := by simp [putAt, z]
      rw [e]
      exact .cons hk hh hv ru0 (r.rep hd rv ru)
theorem NR.snoc {K : PySem.W.Frag} {d v : MP.D} {b : Addr} {vv : V} {u : Value} (rk : Rel K m H d (.ref b)) (hd : MP.hkey d = true) (rv : Rel K m H v vv) (ru : RelV vv u) : ∀ {kvs : List (MP.D × MP.D)} {xs : List (NestedKey × Addr × Value)}, NR K m H kvs xs →
    NR K m H (kvs ++ [(d, v)]) (xs ++ [(nk d, b, u)])
  | _, _, .nil => .cons rk hd rv ru .nil
  | _, _, .cons hk hh hv ru0 r => .cons hk hh hv ru0 (r.snoc rk hd rv ru)
theorem NR.put {K : PySem.W.Frag} {d v : MP.D} {b : Addr} {vv : V} {u : Value} {kvs : List (MP.D × MP.D)} {xs : List (NestedKey × Addr × Value)} (r : NR K m H kvs xs) (rk : Rel K m H d (.ref b)) (hd : MP.hkey d = true) (rv : Rel K m H v vv) (ru : RelV vv u) :
    NR K m H (MP.dput kvs d v) (storedH xs (nk d) b u) := by
  unfold MP.dput storedH
  rw [(r.get hd).2]
  split
  · exact r.rep hd rv ru
  · exact r.snoc rk hd rv ru
theorem length_dput (kvs : List (MP.D × MP.D)) (d v : MP.D) : (MP.dput kvs d v).length ≤ kvs.length + 1 := by
  unfold MP.dput
  split <;> simp
/-! over the heap -/
theorem dct_of (I : Inv X pins σ H s) {a : Addr} {kvs : List (MP.D × MP.D)} {xs : List (NestedKey × Addr × Value)} (hw : X.w = Tbs.w) (e : H a = some (dctO a xs)) (r : NR X.K m H kvs xs) :
    (a == sysModules) = false ∧ xs.length ≤ sizeLine ∧ s.heap.DictOfH (nestedKind X.prog X.w) a xs := by
  obtain ⟨⟨h1, h2, h3, o, es, ep, h4, h5, h6, h7⟩, _, _⟩ := I.hok a _ e
  refine ⟨h1, h2, o, es, ep, h4, h5, h6, ?_, r.keys I, h3⟩
  rw [h7, ← hw]
  rfl
theorem dct_new {H' : Hp} {h' : Heap} {a : Addr} {xs : List (NestedKey × Addr × Value)} (hw : X.w = Tbs.w) (hd : (a == sysModules) = false) (hz : xs.length ≤ sizeLine) (dd : h'.DictOfH (nestedKind X.prog X.w) a xs) : ObjOk X.prog X.w H' h' a (dctO a xs) := by
  obtain ⟨o, es, ep, h4, h5, h6, h7, _, h8⟩ := dd
  refine ⟨⟨hd, hz, h8, o, es, ep, h4, h5, h6, ?_⟩, ⟨o, h4⟩, fun h1 h2 x k => ?_⟩
  · rw [h7, ← hw]
    rfl
  · obtain ⟨q1, q2, q3, o, es, ep, q4, q5, q6, q7⟩ := x
    exact ⟨q1, q2, q3, o, es, ep, k o q4, q5, q6, q7⟩
theorem dct_getItem {a b : Addr} {kvs : List (MP.D × MP.D)} {xs : List (NestedKey × Addr × Value)} {d v : MP.D} {iv : Value} {A : Around} {E : Value → Shared → Prop} {Q : Value → Shared → Prop} (hw : X.w = Tbs.w) (hu : A.units + 20 < cLine) (I : Inv X pins σ H s) (e : H a = some (dctO a xs)) (r : NR X.K m H kvs xs) (rk : Rel X.K m H d (.ref b)) (hd : MP.hkey d = true) (ri : RelV (.ref b) iv) (g : MP.dget kvs d = some v)
    (h : ∀ vv w' s', Inv X pins σ H s' → Rel X.K m H v vv → RelV vv w' → Q w' s') : wpAny (model X.prog X.w) A (getItem (.ref a) iv) Q E s := by
  obtain rfl : iv = Value.ref b := ri
  obtain ⟨_, _, dd⟩ := dct_of I hw e r
  obtain ⟨p, vv, hp, rv, ru⟩ := (r.get hd).1 v g
  exact wpAny_getItem_heap (knd := nestedKind X.prog X.w) (by show A.units + 1 + 8 < cLine; omega) (key_is I rk hd) dd hp (h vv _ _ (I.tok _) rv ru)
theorem dct_in {a b : Addr} {kvs : List (MP.D × MP.D)} {xs : List (NestedKey × Addr × Value)} {d : MP.D} {iv : Value} {A : Around} {E : Value → Shared → Prop} {Q : Value → Shared → Prop} (hw : X.w = Tbs.w) (hu : A.units + 20 < cLine) (I : Inv X pins σ H s) (e : H a = some (dctO a xs)) (r : NR X.K m H kvs xs) (rk : Rel X.K m H d (.ref b)) (hd : MP.hkey d = true) (ri : RelV (.ref b) iv)
    (h : ∀ s', Inv X pins σ H s' → Q (.bool (MP.dget kvs d).isSome) s') : wpAny (model X.prog X.w) A (compareOp .In iv (.ref a)) Q E s := by
  obtain rfl : iv = Value.ref b := ri
  obtain ⟨hs, _, dd⟩ := dct_of I hw e r
  refine wpAny_in_heap (knd := nestedKind X.prog X.w) (by show A.units + 1 + 8 < cLine; omega) (key_is I rk hd) hs dd ?_
  rw [← (r.get hd).2]
  exact h _ (I.tok _)
theorem dct_notIn {a b : Addr} {kvs : List (MP.D × MP.D)} {xs : List (NestedKey × Addr × Value)} {d : MP.D} {iv : Value} {A : Around} {E : Value → Shared → Prop} {Q : Value → Shared → Prop} (hw : X.w = Tbs.w) (hu : A.units + 20 < cLine) (I : Inv X pins σ H s) (e : H a = some (dctO a xs)) (r : NR X.K m H kvs xs) (rk : Rel X.K m H d (.ref b)) (hd : MP.hkey d = true) (ri : RelV (.ref b) iv)
    (h : ∀ s', Inv X pins σ H s' → Q (.bool (!(MP.dget kvs d).isSome)) s') : wpAny (model X.prog X.w) A (compareOp .NotIn iv (.ref a)) Q E s := by
  obtain rfl : iv = Value.ref b := ri
  obtain ⟨hs, _, dd⟩ := dct_of I hw e r
  refine wpAny_notIn_heap (knd := nestedKind X.prog X.w) (by show A.units + 1 + 8 < cLine; omega) (key_is I rk hd) hs dd ?_
  rw [← (r.get hd).2]
  exact h _ (I.tok _)
/-- an empty dict is a dict of tuples, too -/
theorem dct_empty (I : Inv X pins σ H s) {a : Addr} (e : H a = some (.dK [])) : (a == sysModules) = false ∧ s.heap.DictOfH (nestedKind X.prog X.w) a [] := by
  obtain ⟨_, hd, vs, rel, dd⟩ := dk_of I.hok e
  cases rel
  obtain ⟨o, es, ep, h1, h2, h3, _, h4, _⟩ := dd
  refine ⟨hd, o, es, ep, h1, h2, h3, ?_, (fun x hx => absurd hx (by simp)), List.nodup_nil⟩
  cases q : es.toList with
  | nil => rfl
  | cons x l => rw [q] at h4; cases h4
theorem dct_in0 {a b : Addr} {d : MP.D} {iv : Value} {A : Around} {E : Value → Shared → Prop} {Q : Value → Shared → Prop} (hu : A.units + 20 < cLine) (I : Inv X pins σ H s) (e : H a = some (.dK [])) (rk : Rel X.K m H d (.ref b)) (hd : MP.hkey d = true) (ri : RelV (.ref b) iv)
    (h : ∀ s', Inv X pins σ H s' → Q (.bool false) s') : wpAny (model X.prog X.w) A (compareOp .In iv (.ref a)) Q E s := by
  obtain rfl : iv = Value.ref b := ri
  obtain ⟨hs, dd⟩ := dct_empty I e
  exact wpAny_in_heap (knd := nestedKind X.prog X.w) (by show A.units + 1 + 8 < cLine; omega) (key_is I rk hd) hs dd (h _ (I.tok _))
theorem dct_notIn0 {a b : Addr} {d : MP.D} {iv : Value} {A : Around} {E : Value → Shared → Prop} {Q : Value → Shared → Prop} (hu : A.units + 20 < cLine) (I : Inv X pins σ H s) (e : H a = some (.dK [])) (rk : Rel X.K m H d (.ref b)) (hd : MP.hkey d = true) (ri : RelV (.ref b) iv)
    (h : ∀ s', Inv X pins σ H s' → Q (.bool true) s') : wpAny (model X.prog X.w) A (compareOp .NotIn iv (.ref a)) Q E s := by
  obtain rfl : iv = Value.ref b := ri
  obtain ⟨hs, dd⟩ := dct_empty I e
  exact wpAny_notIn_heap (knd := nestedKind X.prog X.w) (by show A.units + 1 + 8 < cLine; omega) (key_is I rk hd) hs dd (h _ (I.tok _))
theorem dct_setItem {a b : Addr} {kvs : List (MP.D × MP.D)} {xs : List (NestedKey × Addr × Value)} {d : MP.D} {iv u : Value} {A : Around} {E : Value → Shared → Prop} {Q : Unit → Shared → Prop} (hw : X.w = Tbs.w) (hu : A.units + 20 < cLine) (I : Inv X pins σ H s) (e : H a = some (dctO a xs)) (r : NR X.K m H kvs xs) (hz : kvs.length < sizeLine) (rk : Rel X.K m H d (.ref b)) (hd : MP.hkey d = true) (ri : RelV (.ref b) iv)
    (h : ∀ s', Inv X pins σ (upd H a (dctO a (storedH xs (nk d) b u))) s' → Q () s') : wpAny (model X.prog X.w) A (setItem (.ref a) iv u) Q E s := by
  obtain rfl : iv = Value.ref b := ri
  obtain ⟨hs, hz2, dd⟩ := dct_of I hw e r
  refine wpAny_setItem_heap (hsz := hz2) (knd := nestedKind X.prog X.w) (by show A.units + 1 + 8 < cLine; omega) (key_is I rk hd) dd fun h' dd' sb => h _ ?_
  have hl : (storedH xs (nk d) b u).length ≤ sizeLine := by
    have := r.length
    unfold storedH
    split
    · rw [List.length_map]; exact hz2
    · rw [List.length_append, List.length_singleton]; omega
  have he : ∃ q, h'.get? a = some q := let ⟨q, _, _, hq, _⟩ := dd'; ⟨q, hq⟩
  exact d_write I (by rw [e]; exact True.intro) sb he (dct_new hw hs hl dd')
theorem dct_setItem0 {a b : Addr} {d : MP.D} {iv u : Value} {A : Around} {E : Value → Shared → Prop} {Q : Unit → Shared → Prop} (hw : X.w = Tbs.w) (hu : A.units + 20 < cLine) (I : Inv X pins σ H s) (e : H a = some (.dK [])) (rk : Rel X.K m H d (.ref b)) (hd : MP.hkey d = true) (ri : RelV (.ref b) iv)
    (h : ∀ s', Inv X pins σ (upd H a (dctO a [(nk d, b, u)])) s' → Q () s') : wpAny (model X.prog X.w) A (setItem (.ref a) iv u) Q E s := by
  obtain rfl : iv = Value.ref b := ri
  obtain ⟨hs, dd⟩ := dct_empty I e
  refine wpAny_setItem_heap (hsz := Nat.zero_le _) (knd := nestedKind X.prog X.w) (by show A.units + 1 + 8 < cLine; omega) (key_is I rk hd) dd fun h' dd' sb => h _ ?_
  have he : ∃ q, h'.get? a = some q := let ⟨q, _, _, hq, _⟩ := dd'; ⟨q, hq⟩
  exact d_write I (by rw [e]; exact True.intro) sb he (dct_new hw hs (by show 1 ≤ sizeLine; rw [sizeLine_eq]; omega) dd')
theorem dct_typeIs (I : Inv X pins σ H s) {a : Addr} {xs : List (NestedKey × Addr × Value)} (e : H a = some (dctO a xs)) : s.TypeIs (.ref a) "dict" := by
  obtain ⟨⟨h1, h2, h3, o, es, ep, h4, h5, h6, h7⟩, _, _⟩ := I.hok a _ e
  exact ⟨o, h4, h5.1⟩
end
end MPS
namespace MPS
open PySem PySem.Spec PyProof.Rows L2
variable [Tbs]
def cop : MP.COp → CmpOp
  | .eq => .Eq | .ne => .NotEq | .lt => .Lt | .le => .LtE | .gt => .Gt | .ge => .GtE | .is => .Is | .isnot => .IsNot | .isin => .In | .notin => .NotIn
theorem lex_eq : ∀ (a b : List Int), MP.lexLt a b = HT.lexLt a b
  | [], [] => rfl
  | [], _ :: _ => rfl
  | _ :: _, [] => rfl
  | x :: xs, y :: ys => by rw [MP.lexLt, HT.lexLt_cons, lex_eq xs ys]
section
variable {X : Cx} {m : Pl} {H : Hp} {h : MP.Heap} {Q : VK}
theorem eqD_sound {d1 d2 : MP.D} {v1 v2 : V} {b : Bool} (hu : X.A.units + 65 < cLine) (hr : HR X.K m h H) (r1 : Rel X.K m H d1 v1) (r2 : Rel X.K m H d2 v2) (e : MP.eqD h d1 d2 = some b) :
    (Q (.bl b) H → OpV X (compareOp .Eq) v1 v2 H Q) ∧ (Q (.bl (!b)) H → OpV X (compareOp .NotEq) v1 v2 H Q) := by
  unfold MP.eqD at e
  simp only [Option.bind_eq_some_iff, Option.map_eq_some_iff] at e
  obtain ⟨x, e1, y, e2, rfl⟩ := e
  obtain ⟨p1, s1, f1⟩ := rsvD_dp hr e1 r1
  obtain ⟨p2, s2, f2⟩ := rsvD_dp hr e2 r2
  have he := eqv_py _ _ x y f1 f2
  exact ⟨fun q => .of (op_eqD (by omega)) ⟨_, _, p1, p2, s1, s2, by rw [he]; exact q⟩, fun q => .of (op_neD (by omega)) ⟨_, _, p1, p2, s1, s2, by rw [he]; exact q⟩⟩
theorem decNon {v : V} {d : MP.D} (r : Rel X.K m H d v) : decide (v = .non) = (match d with | .non => true | _ => false) := by
  cases r <;> rfl
theorem op_inT (hu : X.A.units + 65 < cLine) : OpR X (compareOp .In) (fun x y H Q => ∃ d ds, Dp X.K H x d ∧ Dp X.K H y (.tuple ds) ∧ SeqAt.shaped d = true ∧ SeqAt.shaped (.tuple ds) = true ∧ Q (.bl (ds.any fun z => PyData.eqv z d)) H) := by
  intro pins s σ H x y v u Q I rx ry h
  obtain ⟨d, ds, hd, he, sd, se, q⟩ := h
  obtain ⟨as, r1⟩ := Dp.reads I d x v hd rx
  obtain ⟨bs, r2⟩ := Dp.reads I (.tuple ds) y u he ry
  exact SeqAt.in_tuple_reads r2 r1 (SeqAt.canLay_of_shaped se) (SeqAt.canLay_of_shaped sd) (room_in_shaped sd hu) ⟨.bl _, H, I, rfl, q⟩
theorem op_notInT (hu : X.A.units + 65 < cLine) : OpR X (compareOp .NotIn) (fun x y H Q => ∃ d ds, Dp X.K H x d ∧ Dp X.K H y (.tuple ds) ∧ SeqAt.shaped d = true ∧ SeqAt.shaped (.tuple ds) = true ∧ Q (.bl (!ds.any fun z => PyData.eqv z d)) H) := by
  intro pins s σ H x y v u Q I rx ry h
  obtain ⟨d, ds, hd, he, sd, se, q⟩ := h
  obtain ⟨as, r1⟩ := Dp.reads I d x v hd rx
  obtain ⟨bs, r2⟩ := Dp.reads I (.tuple ds) y u he ry
  exact SeqAt.notIn_tuple_reads r2 r1 (SeqAt.canLay_of_shaped se) (SeqAt.canLay_of_shaped sd) (room_in_shaped sd hu) ⟨.bl _, H, I, rfl, q⟩
theorem opC_sound {o : MP.COp} {d1 d2 : MP.D} {v1 v2 : V} {b : Bool} (hu : X.A.units + 65 < cLine) (hr : HR X.K m h H) (r1 : Rel X.K m H d1 v1) (r2 : Rel X.K m H d2 v2) (e : MP.opC o d1 d2 h = some b) (q : Q (.bl b) H) :
    OpV X (compareOp (cop o)) v1 v2 H Q := by
  unfold MP.opC at e
  split at e
  · cases r1; cases r2; cases e
    refine .of op_eq ⟨rfl, ?_⟩
    rw [dec_int]; exact q
  · cases r1; cases r2; cases e
    refine .of op_ne ⟨rfl, ?_⟩
    rw [dec_int]; exact q
  · exact (eqD_sound hu hr r1 r2 e).1 q
  · simp only [Option.map_eq_some_iff] at e
    obtain ⟨b', e', rfl⟩ := e
    exact (eqD_sound hu hr r1 r2 e').2 q
  · cases r1; cases r2; cases e; exact .of op_lt ⟨_, _, rfl, rfl, q⟩
  · cases r1; cases r2; cases e; exact .of op_le ⟨_, _, rfl, rfl, q⟩
  · cases r1; cases r2; cases e; exact .of op_gt ⟨_, _, rfl, rfl, q⟩
  · cases r1; cases r2; cases e; exact .of op_ge ⟨_, _, rfl, rfl, q⟩
  · simp only [Option.bind_eq_some_iff, Option.map_eq_some_iff] at e
    obtain ⟨ns, e1, ms, e2, rfl⟩ := e
    cases r1 with
    | tup h1 q1 =>
    cases r2 with
    | tup h2 q2 =>
    have := q1.intsOf e1; subst this
    have := q2.intsOf e2; subst this
    refine .of (op_ltT (by omega)) ⟨_, _, _, _, rfl, rfl, h1, h2, ?_⟩
    rw [← lex_eq]; exact q
  · cases r2
    refine .of op_isN ⟨rfl, ?_⟩
    rw [decNon r1]
    split at e
    · cases e; exact q
    · cases e
    · rename_i hn _
      cases e
      split
      · rename_i hh; exact (hn rfl).elim
      · exact q
  · cases r2
    refine .of op_notN ⟨rfl, ?_⟩
    rw [decNon r1]
    split at e
    · cases e; exact q
    · cases e
    · rename_i hn _
      cases e
      split
      · rename_i hh; exact (hn rfl).elim
      · exact q
  · cases r1; cases r2; cases e
    refine .of op_isBl ⟨_, _, rfl, rfl, ?_⟩
    rw [← Bool.beq_eq_decide_eq]; exact q
  · cases r1; cases r2; cases e
    refine .of op_notBl ⟨_, _, rfl, rfl, ?_⟩
    rw [← Bool.beq_eq_decide_eq]; exact q
  · simp only [Option.bind_eq_some_iff] at e
    obtain ⟨d, e1, ys, e2, e⟩ := e
    obtain ⟨p1, s1, f1⟩ := rsvD_dp hr e1 r1
    obtain ⟨p2, s2, f2⟩ := rsvD_dp hr e2 r2
    split at e
    · cases e
      refine .of (op_inD hu) ⟨_, _, p1, p2, s1, s2, ?_⟩
      rw [any_eqv_py f1 _ (by simpa [MP.D.flat] using f2)]; exact q
    · cases e
      refine .of (op_inT hu) ⟨_, _, p1, p2, s1, s2, ?_⟩
      rw [any_eqv_py f1 _ (by simpa [MP.D.flat] using f2)]; exact q
    · cases e
  · simp only [Option.bind_eq_some_iff] at e
    obtain ⟨d, e1, ys, e2, e⟩ := e
    obtain ⟨p1, s1, f1⟩ := rsvD_dp hr e1 r1
    obtain ⟨p2, s2, f2⟩ := rsvD_dp hr e2 r2
    split at e
    · cases e
      refine .of (op_notInD hu) ⟨_, _, p1, p2, s1, s2, ?_⟩
      rw [any_eqv_py f1 _ (by simpa [MP.D.flat] using f2)]; exact q
    · cases e
      refine .of (op_notInT hu) ⟨_, _, p1, p2, s1, s2, ?_⟩
      rw [any_eqv_py f1 _ (by simpa [MP.D.flat] using f2)]; exact q
    · cases e
  · cases e
theorem opK_sound {o : MP.COp} {d1 d2 : MP.D} {v1 v2 : V} {b : Bool} (hw : X.w = Tbs.w) (hu : X.A.units + 65 < cLine) (hr : HR X.K m h H) (r1 : Rel X.K m H d1 v1) (r2 : Rel X.K m H d2 v2) (e : MP.opK o d1 d2 h = some b) (q : Q (.bl b) H) :
    OpV X (compareOp (cop o)) v1 v2 H Q := by
  unfold MP.opK at e
  split at e
  · split at e
    · rename_i i n _ kvs e2
      cases e
      cases r1
      cases r2 with
      | ref h1 =>
      obtain ⟨a, ks, e3, e4, rk⟩ := hr.dic e2
      rw [h1] at e3; cases e3
      intro pins s σ v u I rx ry
      cases ry
      rw [(rk.get (i := i)).2] at q
      exact d_in (y := .int i) (by omega) I (.k (k := .inl i) e4) rx fun s' I' => ⟨.bl _, H, I', rfl, q⟩
    · exact opC_sound hu hr r1 r2 e q
  · split at e
    · rename_i xs n _ kvs e2
      split at e
      · rename_i hk
        cases e
        have r1' := r1
        cases r1 with
        | tup _ _ =>
        cases r2 with
        | ref h1 =>
        obtain ⟨a, ks, e3, e4, rk⟩ := hr.dct e2
        rw [h1] at e3; cases e3
        intro pins s σ v u I rx ry
        cases ry
        exact dct_in hw (by omega) I e4 rk r1' hk rx fun s' I' => ⟨.bl _, H, I', rfl, q⟩
      · cases e
    · rename_i xs n _ e2
      split at e
      · rename_i hk
        cases e
        have r1' := r1
        cases r1 with
        | tup _ _ =>
        cases r2 with
        | ref h1 =>
        obtain ⟨a, ks, e3, e4, rk⟩ := hr.dic e2
        rw [h1] at e3; cases e3
        cases rk
        intro pins s σ v u I rx ry
        cases ry
        exact dct_in0 (by omega) I e4 r1' hk rx fun s' I' => ⟨.bl _, H, I', rfl, q⟩
      · cases e
    · exact opC_sound hu hr r1 r2 e q
  · split at e
    · rename_i i n _ kvs e2
      cases e
      cases r1
      cases r2 with
      | ref h1 =>
      obtain ⟨a, ks, e3, e4, rk⟩ := hr.dic e2
      rw [h1] at e3; cases e3
      intro pins s σ v u I rx ry
      cases ry
      rw [(rk.get (i := i)).2] at q
      exact d_notIn (y := .int i) (by omega) I (.k (k := .inl i) e4) rx fun s' I' => ⟨.bl _, H, I', rfl, q⟩
    · exact opC_sound hu hr r1 r2 e q
  · split at e
    · rename_i xs n _ kvs e2
      split at e
      · rename_i hk
        cases e
        have r1' := r1
        cases r1 with
        | tup _ _ =>
        cases r2 with
        | ref h1 =>
        obtain ⟨a, ks, e3, e4, rk⟩ := hr.dct e2
        rw [h1] at e3; cases e3
        intro pins s σ v u I rx ry
        cases ry
        exact dct_notIn hw (by omega) I e4 rk r1' hk rx fun s' I' => ⟨.bl _, H, I', rfl, q⟩
      · cases e
    · rename_i xs n _ e2
      split at e
      · rename_i hk
        cases e
        have r1' := r1
        cases r1 with
        | tup _ _ =>
        cases r2 with
        | ref h1 =>
        obtain ⟨a, ks, e3, e4, rk⟩ := hr.dic e2
        rw [h1] at e3; cases e3
        cases rk
        intro pins s σ v u I rx ry
        cases ry
        exact dct_notIn0 (by omega) I e4 r1' hk rx fun s' I' => ⟨.bl _, H, I', rfl, q⟩
      · cases e
    · exact opC_sound hu hr r1 r2 e q
  · exact opC_sound hu hr r1 r2 e q
end
end MPS
namespace MPS
open PySem PySem.Spec PyProof.Rows L2
variable [Tbs]
section
variable {X : Cx} {m : Pl} {H : Hp} {h : MP.Heap} {Q : VK} {Z : Nat → Hp → Prop}
/-! ### places -/
theorem atI_eq {α : Type} (xs : List α) (i : Int) : MP.atI xs i = L2.atI xs i := rfl
theorem sIx_eq (n d : Nat) (o : Option Int) : MP.sIx n d o = HT.sIx n d o := by
  cases o <;> rfl
def IxV (X : Cx) : R2 := fun x y H Q => ∀ (value slice : Expr) (pins : List (Addr × Obj)) (s : Shared) (σ : L2.St) (v u : Value), Inv X pins σ H s → RelV x v → RelV y u → subscripted slice false v u = operate [v, u] (getItem v u) →
  wpAny (model X.prog X.w) X.A (subscriptTail value slice v u) (EP X pins σ Q) X.xe s
theorem ixV (X : Cx) : IxR X (IxV X) := fun value slice pins s σ H x y v u Q I rx ry h hs => h value slice pins s σ v u I rx ry hs
theorem IxV.of {X : Cx} {r : R2} (ho : IxR X r) {x y : V} {H : Hp} {Q : VK} (h : r x y H Q) : IxV X x y H Q := fun value slice pins s σ v u I rx ry hs => ho value slice pins s σ H x y v u Q I rx ry h hs
theorem Rels.at {K : PySem.W.Frag} {ds : List MP.D} {vs : List V} {i : Int} {d : MP.D} (r : Rels K m H ds vs) (e : MP.atI ds i = some d) : ∃ v, L2.atI vs i = some v ∧ Rel K m H d v := by
  unfold MP.atI at e
  simp only [Option.bind_eq_some_iff] at e
  obtain ⟨j, e1, e2⟩ := e
  obtain ⟨v, e3, q⟩ := r.get e2
  refine ⟨v, ?_, q⟩
  unfold L2.atI
  rw [show L2.ixN vs.length i = some j from by rw [← r.length]; exact e1]
  exact e3
theorem opI_sound {d1 d2 d : MP.D} {v1 v2 : V} (hr : HR X.K m h H) (r1 : Rel X.K m H d1 v1) (r2 : Rel X.K m H d2 v2) (e : MP.opI d1 d2 h = some d) (q : ∀ v, Rel X.K m H d v → Q v H) : IxV X v1 v2 H Q := by
  unfold MP.opI at e
  split at e
  · cases r2
    cases r1 with
    | tup h1 r =>
    obtain ⟨v, e3, rv⟩ := r.at e
    exact .of ix_tup ⟨_, _, _, v, rfl, rfl, h1, e3, q v rv⟩
  · cases r2
    cases r1 with
    | lst h1 _ _ r =>
    obtain ⟨v, e3, rv⟩ := r.at e
    exact .of ix_list ⟨_, _, _, v, rfl, rfl, .of h1, e3, q v rv⟩
  · cases r2
    cases r1 with
    | frz h1 r =>
    obtain ⟨v, e3, rv⟩ := r.at e
    exact .of ix_list ⟨_, _, _, v, rfl, rfl, h1.sq, e3, q v rv⟩
  · cases r2
    cases r1 with
    | ref h1 =>
    split at e
    · rename_i xs e1
      obtain ⟨a, vs, e2, e3, r⟩ := hr.lst e1
      rw [h1] at e2; cases e2
      obtain ⟨v, e4, rv⟩ := r.at e
      exact .of ix_list ⟨_, _, _, v, rfl, rfl, .of e3, e4, q v rv⟩
    · cases e
  · cases e
theorem opJ_sound {d1 d2 d : MP.D} {v1 v2 : V} (hw : X.w = Tbs.w) (hu : X.A.units + 65 < cLine) (hr : HR X.K m h H) (r1 : Rel X.K m H d1 v1) (r2 : Rel X.K m H d2 v2) (e : MP.opJ d1 d2 h = some d) (q : ∀ v, Rel X.K m H d v → Q v H) : IxV X v1 v2 H Q := by
  unfold MP.opJ at e
  split at e
  · split at e
    · rename_i n i _ kvs e2
      cases r2
      cases r1 with
      | @ref a0 _ h1 =>
      obtain ⟨a, ks, e3, e4, rk⟩ := hr.dic e2
      rw [h1] at e3; cases e3
      obtain ⟨v, e5, rv⟩ := (rk.get (i := i)).1 d e
      intro value slice pins s σ ov iv I ro ri hs
      obtain rfl : ov = Value.ref a0 := ro
      have g : DGet H a0 (.int i) (some v) := .inl ⟨ks, .inl i, .inl e4, rfl, e5.symm⟩
      have hT := dict_typeIs I g
      unfold subscriptTail
      refine wpAny_bind ?_
      rw [getitemInPython_of_ne hT.not_modules]
      refine wpAny_bind (wpAny_specialOf hT PySem.F.slot_dict_getitem.lookup ?_)
      have fin : wpAny (model X.prog X.w) X.A (subscripted slice false (.ref a0) iv) (fun r s₃ => wpAny (model X.prog X.w) X.A (letTemporaryGo value (.ref a0) r >>= fun _ => pure r) (EP X pins σ Q) X.xe s₃) X.xe s := by
        rw [hs]
        refine wpAny_operating (wpAny_mono (d_getItem (Q := fun w' s' => EP X pins σ Q w' s') (y := .int i) (by omega) I g ri fun w' s' I' rw' => ⟨v, H, I', rw', q v rv⟩) (fun r s₃ h₃ => wpAny_bind (wpAny_letTemporaryGo (wpAny_pure h₃))) fun _ _ x => x)
      first
        | exact wpAny_pure (wpAny_bind fin)
        | exact wpAny_bind (wpAny_pure (wpAny_bind fin))
        | exact wpAny_bind fin
    · exact opI_sound hr r1 r2 e q
  · split at e
    · rename_i n ys _ kvs e2
      split at e
      · rename_i hk
        have r2' := r2
        cases r2 with
        | tup _ _ =>
        cases r1 with
        | @ref a0 _ h1 =>
        obtain ⟨a, ks, e3, e4, rk⟩ := hr.dct e2
        rw [h1] at e3; cases e3
        intro value slice pins s σ ov iv I ro ri hs
        obtain rfl : ov = Value.ref a0 := ro
        have hT := dct_typeIs I e4
        unfold subscriptTail
        refine wpAny_bind ?_
        rw [getitemInPython_of_ne hT.not_modules]
        refine wpAny_bind (wpAny_specialOf hT PySem.F.slot_dict_getitem.lookup ?_)
        have fin : wpAny (model X.prog X.w) X.A (subscripted slice false (.ref a0) iv) (fun r s₃ => wpAny (model X.prog X.w) X.A (letTemporaryGo value (.ref a0) r >>= fun _ => pure r) (EP X pins σ Q) X.xe s₃) X.xe s := by
          rw [hs]
          refine wpAny_operating (wpAny_mono (dct_getItem (Q := fun w' s' => EP X pins σ Q w' s') hw (by omega) I e4 rk r2' hk ri e fun vv w' s' I' rv rw' => ⟨vv, H, I', rw', q vv rv⟩) (fun r s₃ h₃ => wpAny_bind (wpAny_letTemporaryGo (wpAny_pure h₃))) fun _ _ x => x)
        first
          | exact wpAny_pure (wpAny_bind fin)
          | exact wpAny_bind (wpAny_pure (wpAny_bind fin))
          | exact wpAny_bind fin
      · cases e
    · cases e
  · exact opI_sound hr r1 r2 e q
/-! ### slices -/
def SlV (X : Cx) : V → Option Int → Option Int → Hp → VK → Prop := fun x lo hi H Q => ∀ (pins : List (Addr × Obj)) (s : Shared) (σ : L2.St) (v vl vu : Value) (sl : Addr), Inv X pins σ H s → RelV x v → s.heap.IsSliceOf sl vl vu .none → IsPart vl lo → IsPart vu hi →
  ∃ T id, typeLookup (.type T) "__getitem__" = pure (some (.builtin id)) ∧ s.TypeIs v T ∧ wpAny (model X.prog X.w) X.A (getItem v (.ref sl)) (EP X pins σ Q) X.xe s
theorem slV (X : Cx) : SlR X (SlV X) := fun pins s σ H x v vl vu lo hi sl Q I rx hs pl pu h => h pins s σ v vl vu sl I rx hs pl pu
theorem SlV.of {X : Cx} {r : V → Option Int → Option Int → Hp → VK → Prop} (ho : SlR X r) {x : V} {lo hi : Option Int} {H : Hp} {Q : VK} (h : r x lo hi H Q) : SlV X x lo hi H Q :=
  fun pins s σ v vl vu sl I rx hs pl pu => ho pins s σ H x v vl vu lo hi sl Q I rx hs pl pu h
theorem Rels.cut {K : PySem.W.Frag} {ds : List MP.D} {vs : List V} (r : Rels K m H ds vs) (lo hi : Option Int) : Rels K m H (MP.cut ds lo hi) (cutV vs lo hi) := by
  unfold MP.cut cutV
  rw [sIx_eq, sIx_eq, r.length]
  exact (r.drop _).take _
theorem remade_rel {imm : Bool} {f : List MP.D → List MP.D} {d : MP.D} {v : V} (hr : HR X.K m h H) (r : Rel X.K m H d v) (g : Gd X.K (Rel X.K) m H (MP.remade imm f d h) Q Z) :
    (∃ a xs vs, v = .ref a ∧ d = .tup xs ∧ SqT X.K H a vs ∧ Rels X.K m H xs vs ∧ Gd X.K (Rel X.K) m H (.ok (.tup (f xs)) h) Q Z) ∨
    ∃ a xs vs, v = .ref a ∧ H a = some (.lst vs) ∧ Rels X.K m H xs vs ∧ Gd X.K (Rel X.K) m H (MP.newL imm (f xs) h) Q Z := by
  cases r with
  | tup h1 r => exact .inl ⟨_, _, _, rfl, rfl, h1, r, g⟩
  | lst h1 n nb r => exact .inr ⟨_, _, _, rfl, h1, r, g⟩
  | ref h1 =>
    simp only [MP.remade] at g
    split at g
    · rename_i xs e1
      obtain ⟨a, vs, e2, e3, r⟩ := hr.lst e1
      rw [h1] at e2; cases e2
      exact .inr ⟨_, _, _, rfl, e3, r, g⟩
    · exact g.elim
  | _ => exact g.elim
theorem opS_sound {imm : Bool} {d : MP.D} {v : V} {l u : Option Int} (hr : HR X.K m h H) (r : Rel X.K m H d v)
    (g : Gd X.K (Rel X.K) m H (MP.remade imm (fun xs => MP.cut xs l u) d h) Q Z) : SlV X v l u H Q := by
  rcases remade_rel hr r g with ⟨a, xs, vs, rfl, rfl, h1, q, g⟩ | ⟨a, xs, vs, rfl, h1, q, g⟩
  · refine .of sl_tupA ⟨_, _, rfl, h1, fun e => ?_, fun _ p hp => new_tup g hr (q.cut l u) p hp⟩
    refine g.here hr (.tup h1 ?_)
    have e2 : cutV vs l u = vs := by unfold cutV; rw [e.1, e.2]; simp
    have q2 := q.cut l u
    rw [e2] at q2
    exact q2
  · exact .of sl_list ⟨_, _, rfl, .of h1, (new_lst g hr (q.cut l u)).2⟩
/-- x[::-1] of a list or a tuple -/
theorem pe_rev {te : TE} {e : Expr} {k : Nat} {p1 p2 p3 pos : Pos} (he : PE X e te) : PE X (.Subscript e (.Slice none none (some (.UnaryOp .USub (.Constant (.int 1) k p1) p2)) p3) pos)
    (fun σ H Q => te σ H fun x H1 => (∃ a xs, x = .ref a ∧ SqL X.K H1 a xs ∧ ∀ p, H1 p = none → Q (.ref p) (upd H1 p (.lst xs.reverse))) ∨ ∃ a xs, x = .ref a ∧ SqT X.K H1 a xs ∧ ∀ p, H1 p = none → Q (.ref p) (upd H1 p (.tup xs.reverse))) := by
  refine ⟨fun pins s σ H Q I h => ?_⟩
  refine Subscript_ (thn (he.run pins s σ H _ I h) fun v s1 ⟨x, H1, I1, r1, q1⟩ => ?_)
  have hst : PO X (some (.UnaryOp .USub (.Constant (.int 1) k p1) p2)) (tPart (tUn (rU fun i => .int (-i)) (tC (.int 1)))) := po_some (pe_un un_neg pe_int)
  refine wpAny_Slice (thn (po_none.run pins s1 σ H1 (fun o H2 => o = none ∧ H2 = H1) I1 ⟨rfl, rfl⟩) fun vl s2 ⟨l, H2, I2, pl, el, e2⟩ => ?_)
  subst el e2
  refine thn (po_none.run pins s2 σ H2 (fun o H3 => o = none ∧ H3 = H2) I2 ⟨rfl, rfl⟩) fun vu s3 ⟨u, H3, I3, pu, eu, e3⟩ => ?_
  subst eu e3
  refine thn (hst.run pins s3 σ H3 (fun o H4 => o = some (-1) ∧ H4 = H3) I3 ⟨1, rfl, -1, rfl, rfl, rfl⟩) fun vs s4 ⟨o, H4, I4, ps, eo, e4⟩ => ?_
  subst eo e4
  have I5 : Inv X pins σ H4 { s4 with heap := s4.heap.push { cls := .type "slice", data := .fields #[vl, vu, vs] } } := I4.kept (t' := s4.toks) fun b ob q => Heap.get?_push_of_some _ q
  rcases q1 with ⟨a, xs, ex, hx, q⟩ | ⟨a, xs, ex, hx, q⟩
  · subst ex
    cases r1
    obtain ⟨its, r, ht, hz⟩ := I5.list hx
    have hlen := r.length
    show wpAny (model X.prog X.w) X.A (subscriptTail e (.Slice none none (some (.UnaryOp .USub (.Constant (.int 1) k p1) p2)) p3) (.ref a) (.ref s4.heap.objs.size)) (EP X pins σ Q) X.xe { s4 with heap := s4.heap.push { cls := .type "slice", data := .fields #[vl, vu, vs] } }
    refine tail_any (ops := [.ref a, .ref s4.heap.objs.size]) ht.isList.typeIs (PySem.slot_list_getitem.lookup) ?_ (by with_unfolding_all rfl)
    refine wpAny_getItem_list_slice ht.isList (Heap.IsSliceOf.new _ vl vu vs) pl pu ps (by decide) ?_ (by rw [List.size_toArray]; omega)
    rw [PySem.W.krv_pick]
    refine ⟨.ref _, _, I5.laid (t' := s4.toks) (o := .lst xs.reverse) (fun b ob q => Heap.get?_push_of_some _ q) (Nat.le_refl _) ?_, rfl, q _ (I5.hok.fresh (Nat.le_refl _))⟩
    exact ⟨by rw [List.length_reverse]; exact hz, _, 0, r.reverse, Heap.get?_push_size _ rfl⟩
  · subst ex
    cases r1
    obtain ⟨its, r, ht, hz⟩ := I5.tuple hx
    have hlen := r.length
    have pl' : vl = .none := by cases pl; rfl
    have pu' : vu = .none := by cases pu; rfl
    subst pl' pu'
    show wpAny (model X.prog X.w) X.A (subscriptTail e (.Slice none none (some (.UnaryOp .USub (.Constant (.int 1) k p1) p2)) p3) (.ref a) (.ref s4.heap.objs.size)) (EP X pins σ Q) X.xe { s4 with heap := s4.heap.push { cls := .type "slice", data := .fields #[.none, .none, vs] } }
    refine tail_any (ops := [.ref a, .ref s4.heap.objs.size]) ht.typeIs (PyProof.Rows.slot_tuple_getitem.lookup) ?_ (by with_unfolding_all rfl)
    refine getItem_tuple_rev ht (Heap.IsSliceOf.new _ .none .none vs) ps ?_ (by rw [List.size_toArray]; omega)
    refine ⟨.ref _, _, I5.laid (t' := s4.toks) (o := .tup xs.reverse) (fun b ob q => Heap.get?_push_of_some _ q) (Nat.le_refl _) ?_, rfl, q _ (I5.hok.fresh (Nat.le_refl _))⟩
    exact ⟨by rw [List.length_reverse]; exact hz, _, r.reverse, IsTup.new _ _⟩
end
end MPS
namespace MPS
open PySem PySem.Spec PyProof.Rows L2 PySem.W
variable [Tbs]
/-! ### built-ins by values -/
def CallV (X : Cx) (f : Value) : List V → Hp → VK → Prop := fun xs H Q => ∀ (pins : List (Addr × Obj)) (s : Shared) (σ : L2.St) (us : List Value), Inv X pins σ H s → Vals xs us → wpAny (model X.prog X.w) X.A (call f us) (EP X pins σ Q) X.xe s
theorem callV (X : Cx) (f : Value) : CallR X f (CallV X f) := fun pins s σ H xs us Q I r h => h pins s σ us I r
theorem CallV.of {X : Cx} {f : Value} {r : List V → Hp → VK → Prop} (ho : CallR X f r) {xs : List V} {H : Hp} {Q : VK} (h : r xs H Q) : CallV X f xs H Q := fun pins s σ us I rr => ho pins s σ H xs us Q I rr h
theorem insI_perm (x : Int) : ∀ ys : List Int, (MP.insI x ys).Perm (x :: ys)
  | [] => List.Perm.refl _
  | y :: ys => by
    unfold MP.insI
    split
    · exact List.Perm.refl _
    · exact ((insI_perm x ys).cons y).trans (List.Perm.swap x y ys)
theorem sortI_perm : ∀ xs : List Int, (MP.sortI xs).Perm xs
  | [] => List.Perm.refl _
  | x :: xs => (insI_perm x _).trans ((sortI_perm xs).cons x)
theorem insI_sorted (x : Int) : ∀ ys : List Int, ys.Pairwise (· ≤ ·) → (MP.insI x ys).Pairwise (· ≤ ·)
  | [], _ => by simp [MP.insI]
  | y :: ys, h => by
    unfold MP.insI
    rw [List.pairwise_cons] at h
    split
    · rename_i hxy
      rw [List.pairwise_cons]
      refine ⟨fun z hz => ?_, List.pairwise_cons.mpr h⟩
      rcases List.mem_cons.mp hz with rfl | hz
      · exact hxy
      · exact Int.le_trans hxy (h.1 z hz)
    · rename_i hxy
      rw [List.pairwise_cons]
      refine ⟨fun z hz => ?_, insI_sorted x ys h.2⟩
      rcases List.mem_cons.mp ((insI_perm x ys).mem_iff.mp hz) with rfl | hz
      · omega
      · exact h.1 z hz
theorem sortI_sorted : ∀ xs : List Int, (MP.sortI xs).Pairwise (· ≤ ·)
  | [] => by simp [MP.sortI]
  | x :: xs => insI_sorted x _ (sortI_sorted xs)
theorem sorted_unique : ∀ {a b : List Int}, a.Perm b → a.Pairwise (· ≤ ·) → b.Pairwise (· ≤ ·) → a = b := fun {a b} h1 h2 h3 => h1.eq_of_pairwise (fun x y _ _ h4 h5 => Int.le_antisymm h4 h5) h2 h3
section
variable {X : Cx} {m : Pl} {H : Hp} {h : MP.Heap} {Q : VK} {Z : Nat → Hp → Prop}
theorem alike_ints (n : Int) (ns : List Int) : AlikeAll ((PyData.int n) :: ns.map PyData.int) := by
  have e : ∀ x ∈ (PyData.int n) :: ns.map PyData.int, ∃ i, x = .int i := fun x hx => by
    rcases List.mem_cons.mp hx with rfl | hx
    · exact ⟨_, rfl⟩
    · obtain ⟨i, _, rfl⟩ := List.mem_map.mp hx
      exact ⟨i, rfl⟩
  refine ⟨fun x hx y hy => ?_, fun x hx => ?_⟩
  · obtain ⟨i, rfl⟩ := e x hx
    obtain ⟨j, rfl⟩ := e y hy
    rfl
  · obtain ⟨i, rfl⟩ := e x hx
    exact fun z => nomatch z
theorem depth_ints : ∀ (ns : List Int), PyData.depthAll (ns.map PyData.int) = 0
  | [] => rfl
  | n :: ns => by
    show max 0 (PyData.depthAll (ns.map PyData.int)) = 0
    rw [depth_ints ns]; rfl
theorem reads_ints {hp : Heap} : ∀ {us : List Value} {ns : List Int}, IntsAre us ns → ∃ as, ReadsAll hp us (ns.map PyData.int) as := fun {us ns} r => by
  have v := vals_of_ints r
  clear r
  induction ns generalizing us with
  | nil => cases v; exact ⟨_, .nil⟩
  | cons n ns ih =>
    cases v with
    | cons r1 r2 =>
      obtain ⟨t, rfl⟩ := r1
      obtain ⟨as, q⟩ := ih r2
      exact ⟨_, .cons (.int _ _) q⟩
theorem call_maxI (hc : X.calm = true) (hu : X.A.units + 65 < cLine) : CallR X (.builtin "max") (fun vs H Q => ∃ (a : Addr) (n : Int) (ns : List Int), vs = [V.ref a] ∧ (SqL X.K H a ((n :: ns).map V.int) ∨ SqT X.K H a ((n :: ns).map V.int)) ∧ Q (.int (ns.foldl max n)) H) := by
  intro pins s σ H vs us Q I r h
  obtain ⟨a, n, ns, rfl, hs, q⟩ := h
  rw [Vals.ref1 r]
  have fin : ∀ (i : Nat) (v : Value) (h' : Heap) (tk : Nat) (bs : List Addr), Reads h' v (maxD (.int n) (ns.map .int)) bs → (∀ b o, s.heap.get? b = some o → h'.get? b = some o) → EP X pins σ Q v { s with heap := h', toks := tk } := fun i v h' tk bs rd hk => by
    rw [maxD_ints] at rd
    cases rd
    exact ⟨.int _, H, I.kept (t' := tk) hk, ⟨_, rfl⟩, q⟩
  rcases hs with hs | hs
  · obtain ⟨its, rv, hl, hz⟩ := I.list hs
    obtain ⟨as, rd⟩ := reads_ints (hp := s.heap) (Vals.ints rv)
    exact max_list_data (I.ok.hd hc) hl.isList (as := as) rd (alike_ints n ns) (by rw [show (PyData.int n :: ns.map PyData.int) = (n :: ns).map PyData.int from rfl, depth_ints]; omega) fun i v h' tk bs _ rd hk => fin i v h' tk bs rd hk
  · obtain ⟨its, rv, hl, hz⟩ := I.tuple hs
    obtain ⟨as, rd⟩ := reads_ints (hp := s.heap) (Vals.ints rv)
    exact max_tuple_data (I.ok.hd hc) hl (as := as) rd (alike_ints n ns) (by rw [show (PyData.int n :: ns.map PyData.int) = (n :: ns).map PyData.int from rfl, depth_ints]; omega) fun i v h' tk bs _ rd hk => fin i v h' tk bs rd hk
theorem call_minI (hc : X.calm = true) (hu : X.A.units + 65 < cLine) : CallR X (.builtin "min") (fun vs H Q => ∃ (a : Addr) (n : Int) (ns : List Int), vs = [V.ref a] ∧ (SqL X.K H a ((n :: ns).map V.int) ∨ SqT X.K H a ((n :: ns).map V.int)) ∧ Q (.int (ns.foldl min n)) H) := by
  intro pins s σ H vs us Q I r h
  obtain ⟨a, n, ns, rfl, hs, q⟩ := h
  rw [Vals.ref1 r]
  have fin : ∀ (i : Nat) (v : Value) (h' : Heap) (tk : Nat) (bs : List Addr), Reads h' v (minD (.int n) (ns.map .int)) bs → (∀ b o, s.heap.get? b = some o → h'.get? b = some o) → EP X pins σ Q v { s with heap := h', toks := tk } := fun i v h' tk bs rd hk => by
    rw [minD_ints] at rd
    cases rd
    exact ⟨.int _, H, I.kept (t' := tk) hk, ⟨_, rfl⟩, q⟩
  rcases hs with hs | hs
  · obtain ⟨its, rv, hl, hz⟩ := I.list hs
    obtain ⟨as, rd⟩ := reads_ints (hp := s.heap) (Vals.ints rv)
    exact min_list_data (I.ok.hd hc) hl.isList (as := as) rd (alike_ints n ns) (by rw [show (PyData.int n :: ns.map PyData.int) = (n :: ns).map PyData.int from rfl, depth_ints]; omega) fun i v h' tk bs _ rd hk => fin i v h' tk bs rd hk
  · obtain ⟨its, rv, hl, hz⟩ := I.tuple hs
    obtain ⟨as, rd⟩ := reads_ints (hp := s.heap) (Vals.ints rv)
    exact min_tuple_data (I.ok.hd hc) hl (as := as) rd (alike_ints n ns) (by rw [show (PyData.int n :: ns.map PyData.int) = (n :: ns).map PyData.int from rfl, depth_ints]; omega) fun i v h' tk bs _ rd hk => fin i v h' tk bs rd hk
end
end MPS
/-! set(xs) of a list of whole numbers, told as a set that can be sorted. -/
namespace MPS
open PySem PySem.W PySem.Spec PyProof.Rows L2
variable [Tbs]
abbrev nuS (w : World) : Obj := { cls := .type "set", dict := none, data := .set #[] 0 (.fresh 0 0 (!w.params.followText "set-order")) }
section
variable {P : Program} {w : World} {A : Around} {E : Value → Shared → Prop} {s : Shared}
set_option maxHeartbeats 8000000 in
theorem set_list_run {l : Addr} {xs : Array Value} (ns : List Int) {Q : Value → Shared → Prop} (calm : A.handled = none) (li : s.heap.IsList l xs) (ia : IntsAre xs.toList ns) (few : ns.length + 1 < scanBound)
    (q : ∀ (h' : Heap) (tk c : Nat), SetR w h' s.heap.objs.size (fun j => decide (j ∈ ns)) c → c ≤ ns.length → (∀ b o, s.heap.get? b = some o → h'.get? b = some o) → Q (.ref s.heap.objs.size) ⟨h', s.gens, s.drawn, tk, s.os⟩) :
    wpAny (model P w) A (call (.type "set") [.ref l]) Q E s := by
  have xsz : xs.size = ns.length := by have z := IntsAre.length ia; rw [Array.length_toList] at z; exact z
  obtain ⟨c0, tl0, mro0⟩ := F.called_set.mro
  have g1 := F.called_set.made; have g2 := F.called_set.sub; have g3 := F.called_set.notType; have g4 := F.called_set.canCreate; have g5 := F.typeCall_set_1 (.ref l)
  refine wpAny_call (codeAny_of_tree (show wpAny _ _ (callAny (.type "set") _) _ _ _ from wpAny_pure ⟨Code.quiet_builtin _ (by decide +kernel), codeAny_builtin F.entry_type_call ?_⟩)); rw [Around.under_plain (weight_type_call_type "set" [.ref l] []) rfl]
  repeat (any_goals (first | assumption | wp_step))
  refine codeAny_mono (code_set_led1 (.ref l) (E := E) (Q₁ := fun obj z => obj = .ref s.heap.objs.size ∧ z = { s with heap := s.heap.push (nuS w) }) ⟨rfl, rfl⟩) fun r z hr => ?_
  match r, hr with
  | .error e, hr => exact hr
  | .ok .next, hr => exact hr.elim
  | .ok .brk, hr => exact hr.elim
  | .ok .cont, hr => exact hr.elim
  | .ok (.ret obj), hr =>
    obtain ⟨rfl, rfl⟩ := hr
    have at0 : (s.heap.push (nuS w)).get? s.heap.objs.size = some (nuS w) := Heap.get?_push_size _ rfl
    have ty0 : Shared.TypeIs { s with heap := s.heap.push (nuS w) } (.ref s.heap.objs.size) "set" := ⟨_, at0, rfl⟩
    have g6 := F.called_set.init.lookup; have g7 := F.called_set.init.bind (.ref s.heap.objs.size)
    repeat (any_goals (first | assumption | wp_step))
    refine codeAny_mono (codeAny_call_builtin (R := wants (fun r y => r = .none ∧ ∃ h' tk c, y = ⟨h', s.gens, s.drawn, tk, s.os⟩ ∧ SetR w h' s.heap.objs.size (fun j => decide (j ∈ ns)) c ∧ c ≤ ns.length ∧ ∀ b o, s.heap.get? b = some o → h'.get? b = some o) E) F.called_set.init.plain F.entry_set_init (check_set_init_1 ty0 ?_)) fun r₂ y hy => ?_
    · obtain ⟨⟨oc, od, odat, osl⟩, ol, rfl, nl, rfl⟩ := li
      have ol2 : (s.heap.push (nuS w)).get? l = some ⟨.type "list", od, .seq xs nl, osl⟩ := Heap.get?_push_of_some _ ol
      have k1 := F.sub_list_set; have k2 := F.sub_list_frozenset; have k3 : (Value.type "list" == Value.type "dict") = false := by decide
      have li1 : (s.heap.push (nuS w)).IsList l xs := ⟨_, ol2, rfl, nl, rfl⟩
      unfold Builtin.«set.__init__» noKeywords Builtin.Frozenset.updateFrom; generalize hPI : pyIter = PI; wp_walk; subst hPI
      refine wpAny_pyIter_list li1 (wpAny_bind (wpAny_runValue ?_))
      have lt0 : l < s.heap.objs.size := Heap.lt_size ol
      have ca3 : A.in1.in1.in1.handled = none := by simp [calm]
      have ne1 : l ≠ (s.heap.push (nuS w)).objs.size := by rw [Heap.size_push]; exact Nat.ne_of_lt (Nat.lt_succ_of_lt lt0)
      have out1 : s.heap.objs.size ∉ [(s.heap.push (nuS w)).objs.size, l] := by rw [Heap.size_push]; simp only [List.mem_cons, List.not_mem_nil, or_false, not_or]; exact ⟨Nat.ne_of_lt (Nat.lt_succ_self _), Nat.ne_of_gt lt0⟩
      have vals : ∀ (i : Nat) (v : Value), xs[i]? = some v → ∃ k t, ns[i]? = some k ∧ v = .int k t := fun i v hv => by
        have lt : i < ns.length := xsz ▸ (Array.getElem?_eq_some_iff.mp hv).1
        obtain ⟨t, e⟩ := IntsAre.int_at ia i v ((Array.getElem?_toList ..).trans hv)
        exact ⟨ns[i], t, List.getElem?_eq_getElem lt, by rw [e, List.getD_eq_getElem?_getD, List.getElem?_eq_getElem lt]; rfl⟩
      refine set_update_ints ((Walks.list ca3 _ l ne1 xs).toS) s.heap.objs.size out1 ns xsz few vals (xs.size - 0) 0 _ (by omega) (Nat.zero_le _) ⟨⟨_, Heap.get?_push_size _ rfl, rfl, rfl⟩, li1.push _⟩ ⟨0, Nat.le_refl 0, setR_new_at (Heap.get?_push_of_some _ at0)⟩ ?_
      intro z c mv cl R
      obtain ⟨h', g', d', tk', os'⟩ := z
      obtain rfl : g' = s.gens := mv.gens
      obtain rfl : d' = s.drawn := mv.drawn
      obtain rfl : os' = s.os := mv.os
      refine wpAny_pure (show wpAny _ _ (ret Value.none) _ _ _ from wpAny_pure ⟨rfl, h', tk', c, rfl, R, xsz ▸ cl, fun b o e => ?_⟩)
      have lb := Heap.lt_size e
      exact mv.heap b o (by rw [Heap.size_push]; simp only [List.mem_cons, List.not_mem_nil, or_false, not_or]; exact ⟨Nat.ne_of_lt lb, Nat.ne_of_lt (Nat.lt_succ_of_lt lb)⟩) (Heap.get?_push_of_some _ (Heap.get?_push_of_some _ e))
    · match r₂, hy with
      | .error e, hy => exact hy
      | .ok .next, hy => exact hy.elim
      | .ok .brk, hy => exact hy.elim
      | .ok .cont, hy => exact hy.elim
      | .ok (.ret r), hy =>
        obtain ⟨rfl, h', tk, c, rfl, R, cl, kp⟩ := hy
        repeat (any_goals (first | assumption | wp_step))
        exact q _ _ _ R cl kp
end
/-! ### the sorted members -/
theorem mem_nubI (k : Int) : ∀ ns : List Int, k ∈ MP.nubI ns ↔ k ∈ ns
  | [] => by simp [MP.nubI]
  | x :: xs => by
    rw [MP.nubI, List.mem_cons, List.mem_cons, List.mem_filter, mem_nubI k xs]
    constructor
    · rintro (h | ⟨h, _⟩)
      · exact .inl h
      · exact .inr h
    · rintro (h | h)
      · exact .inl h
      · by_cases e : k = x
        · exact .inl e
        · exact .inr ⟨h, by simpa using e⟩
theorem nodup_nubI : ∀ ns : List Int, (MP.nubI ns).Nodup
  | [] => by simp [MP.nubI]
  | x :: xs => by
    rw [MP.nubI, List.nodup_cons]
    refine ⟨fun h => ?_, (nodup_nubI xs).filter _⟩
    rw [List.mem_filter] at h
    simpa using h.2
theorem len_nubI : ∀ ns : List Int, (MP.nubI ns).length ≤ ns.length
  | [] => Nat.le_refl _
  | x :: xs => by
    rw [MP.nubI, List.length_cons, List.length_cons]
    exact Nat.succ_le_succ (Nat.le_trans (List.length_filter_le _ _) (len_nubI xs))
theorem sset_uniq {ns out : List Int} (p : out.Pairwise (· < ·)) (e : ∀ k, k ∈ out ↔ k ∈ ns) : out = MP.sortI (MP.nubI ns) := by
  have nd : out.Nodup := p.imp fun h => Int.ne_of_lt h
  have pm : out.Perm (MP.nubI ns) := (List.perm_ext_iff_of_nodup nd (nodup_nubI ns)).mpr fun k => (e k).trans (mem_nubI k ns).symm
  exact sorted_unique (pm.trans (sortI_perm _).symm) (p.imp Int.le_of_lt) (sortI_sorted _)
theorem sset_len (ns : List Int) : (MP.sortI (MP.nubI ns)).length ≤ ns.length := by rw [(sortI_perm _).length_eq]; exact len_nubI ns
def tSortSet (K : PySem.W.Frag) (ta : TE) : TE := fun σ H Q => ta σ H fun x H1 => ∃ (l : Addr) (ns : List Int), x = .ref l ∧ SqL K H1 l (ns.map V.int) ∧ ns.length < 64 ∧ ∀ p, H1 p = none → Q (.ref p) (upd H1 p (.lst ((MP.sortI (MP.nubI ns)).map V.int)))
theorem pe_sortSet {X : Cx} {a : Expr} {ta : TE} {p p2 q pos : Pos} (hc : X.calm = true) (g1 : Gl X "sorted") (m1 : X.mg "sorted" = none) (g2 : Gl X "set") (m2 : X.mg "set" = none) (ha : PE X a ta)
    (na : starEach [a] X.env = (false, eval a X.env) :: starEach [] X.env) : PE X (.Call (.Name "sorted" p) [.Call (.Name "set" p2) [a] [] q] [] pos) (tSortSet X.K ta) := by
  refine ⟨fun pins s σ H Q I h => Call_ (ld_blt I g1 m1 (by rfl) (PyProof.Rows.callWith_builtin1 (PyProof.Rows.args_cons (Call_ (ld_blt I g2 m2 boot_set ?_)) rfl) rfl rfl))⟩
  refine PyProof.Rows.callWith_type1 (PyProof.Rows.args_cons (thn (ha.run pins s σ H _ I h) fun v z ⟨x, H1, I1, r1, q1⟩ => PyProof.Rows.args_nil ?_) na) na rfl
  obtain ⟨l, ns, rfl, hq, few, q1⟩ := q1
  cases r1
  obtain ⟨its, r, pl, hz⟩ := I1.list hq
  refine set_list_run ns (I1.ok.hd hc) pl.isList (by simpa using RZ.intsAre_vals r) (by unfold scanBound; omega) fun h' tk c R cl kp => PyProof.Rows.args_nil ?_
  have I2 : Inv X pins σ H1 { z with heap := h', toks := tk } := I1.kept kp
  refine sorted_set R (I2.ok.hd hc) (Nat.lt_of_le_of_lt cl few) fun y p out n ms kk g o hp hg hi hs hmm hl => ?_
  have e : ms = MP.sortI (MP.nubI ns) := sset_uniq hs fun k => (hmm k).trans decide_eq_true_iff
  subst e
  have k2 : ∀ b o, z.heap.get? b = some o → y.heap.get? b = some o := fun b o e => kk b o (kp b o e)
  have hp2 : z.heap.objs.size ≤ p := Nat.le_trans (Nat.le_of_lt R.lt) hp
  have new : H1 p = none := I1.hok.fresh hp2
  have fit : ((MP.sortI (MP.nubI ns)).map V.int).length ≤ sizeLine := by rw [List.length_map]; exact Nat.le_trans (sset_len ns) (Nat.le_trans (Nat.le_of_lt few) (by decide))
  have J : Inv X pins σ (upd H1 p (.lst ((MP.sortI (MP.nubI ns)).map V.int))) ⟨y.heap, y.gens, y.drawn, y.toks, z.os⟩ := I1.call (ch := []) (Un.laid k2 hp2 new) (I1.hok.laid k2 hp2 ⟨fit, out.toList, n, vals_of_ints hi, hg⟩) (by rw [g]; exact I1.bare) (fun _ w => nomatch w)
  have ey : y = ⟨y.heap, y.gens, y.drawn, y.toks, z.os⟩ := by
    cases y
    cases (show _ = z.os from o)
    rfl
  rw [ey]
  exact ⟨.ref p, _, J, rfl, q1 p new⟩
/-! ### how many members -/
def tLenSetD (K : PySem.W.Frag) (ta : TE) : TE := fun σ H Q => ta σ H fun x H1 => ∃ (l : Addr) (ns : List Int), x = .ref l ∧ SqL K H1 l (ns.map V.int) ∧ ns.length < 64 ∧ Q (.int ((MP.nubI ns).length : Nat)) H1
theorem pe_lenSetD {X : Cx} {a : Expr} {ta : TE} {p p2 q pos : Pos} (hc : X.calm = true) (g1 : Gl X "len") (m1 : X.mg "len" = none) (g2 : Gl X "set") (m2 : X.mg "set" = none) (ha : PE X a ta)
    (na : starEach [a] X.env = (false, eval a X.env) :: starEach [] X.env) : PE X (.Call (.Name "len" p) [.Call (.Name "set" p2) [a] [] q] [] pos) (tLenSetD X.K ta) := by
  refine ⟨fun pins s σ H Q I h => Call_ (ld_blt I g1 m1 boot_len (PyProof.Rows.callWith_builtin1 (PyProof.Rows.args_cons (Call_ (ld_blt I g2 m2 boot_set ?_)) rfl) rfl rfl))⟩
  refine PyProof.Rows.callWith_type1 (PyProof.Rows.args_cons (thn (ha.run pins s σ H _ I h) fun v z ⟨x, H1, I1, r1, q1⟩ => PyProof.Rows.args_nil ?_) na) na rfl
  obtain ⟨l, ns, rfl, hq, few, q1⟩ := q1
  cases r1
  obtain ⟨its, r, pl, hz⟩ := I1.list hq
  refine set_list_run ns (I1.ok.hd hc) pl.isList (by simpa using RZ.intsAre_vals r) (by unfold scanBound; omega) fun h' tk c R cl kp => PyProof.Rows.args_nil ?_
  obtain ⟨o, es, ep, t, ho, hex, hd, gg, nd, hm, hb, hf, hn, _⟩ := R
  have e : es.size = (MP.nubI ns).length := by
    have pm : (es.toList.map keyOf).Perm (MP.nubI ns) := (List.perm_ext_iff_of_nodup nd (nodup_nubI ns)).mpr fun k => (hm k).symm.trans (decide_eq_true_iff.trans (mem_nubI k ns).symm)
    have := pm.length_eq
    rwa [List.length_map, Array.length_toList] at this
  have I2 : Inv X pins σ H1 { z with heap := h', toks := tk } := I1.kept kp
  exact call_len_set ho hex hd hf (by have := len_nubI ns; omega) ⟨.int ((MP.nubI ns).length : Nat), H1, I2.tok _, ⟨_, by rw [e]⟩, q1⟩
end MPS
/-! enumerate of a tuple. -/
namespace MPS
open PySem PySem.W PySem.Spec PyProof.Rows L2
variable [Tbs]
abbrev tIt (l : Addr) : Obj := { cls := .type "tuple_iterator", data := .fields #[.ref l, .int 0 0] }
abbrev enO (i : Addr) : Obj := { cls := .type "enumerate", data := .fields #[.none, .bool false, .ref i, rawInt 0, .none, .none] }
theorem enT_new (l : Addr) (xs : Array Value) : Meets (Builtin.«enumerate.__new__» ⟨[.type "enumerate", .ref l], []⟩) (fun _ R s => s.heap.IsTuple l xs ∧ R (.ok (.ret (.ref (s.heap.push (tIt l)).objs.size))) { s with heap := (s.heap.push (tIt l)).push (enO s.heap.objs.size) }) :=
  .of_wp fun prog w A R s ⟨h1, h2⟩ => by
    have ty := sub_enumerate; obtain ⟨hp, g, d, tk, os⟩ := s
    have it : ∀ {B : Around} {E : Value → Shared → Prop} {Q : Value → Shared → Prop}, Q (.ref hp.objs.size) ⟨hp.push (tIt l), g, d, tk, os⟩ → wpAny (model prog w) B (pyIter (.ref l)) Q E ⟨hp, g, d, tk, os⟩ := fun q => (begins_tuple l xs).iter prog w _ _ ⟨hp, g, d, tk, os⟩ _ h1 q
    wp_walk using it
    refine wpAny_stack_any fun st => wpAny_pure ?_; split
    · rename_i c _ _ _ _ _; cases (c == Value.type "enumerate") <;> (wp_walk using it; exact ⟨_, rfl, h2⟩)
    · wp_walk using it; exact ⟨_, rfl, h2⟩
section
variable {prog : Program} {w : World} {A : Around} {E : Value → Shared → Prop} {s : Shared}
theorem enT_call {l : Addr} {xs : Array Value} {Q : Value → Shared → Prop} (h1 : s.heap.IsTuple l xs)
    (h : ∀ h', IsEnum h' (s.heap.objs.size + 1) s.heap.objs.size 0 .none → h'.IsTupleIter s.heap.objs.size l 0 → (∀ b o, s.heap.get? b = some o → h'.get? b = some o) → Q (.ref (s.heap.objs.size + 1)) { s with heap := h' }) :
    wpAny (model prog w) A (call (.type "enumerate") [.ref l]) Q E s := by
  refine callType_new F.called_enumerate (by decide) (F.typeCall_enumerate_1 _) (F.newCall_enumerate_1 _) (fun obj => F.args_object_init_2 obj _) F.entry_enumerate_new (enT_new l xs) ⟨h1, ?_⟩
  have z1 : (s.heap.push (tIt l)).objs.size = s.heap.objs.size + 1 := Heap.size_push ..
  have e1 : IsEnum ((s.heap.push (tIt l)).push (enO s.heap.objs.size)) (s.heap.objs.size + 1) s.heap.objs.size 0 .none := z1 ▸ Heap.get?_push_size (s.heap.push (tIt l)) (o := enO s.heap.objs.size) rfl
  show _ ∧ _; rw [z1]
  exact ⟨⟨_, e1, rfl⟩, h _ e1 ⟨_, Heap.get?_push_of_some _ (Heap.get?_push_size _ rfl), rfl, rfl⟩ fun b o x => Heap.get?_push_of_some _ (Heap.get?_push_of_some _ x)⟩
end
section
variable {prog : Program} {w : World} {A : Around} {E : Value → Shared → Prop} {s : Shared}
theorem enT_end {e j t : Addr} {c : Int} {old : Value} {i : Nat} {xs : Array Value} {Q : Option Value → Shared → Prop} (calm : A.handled = none) (q1 : IsEnum s.heap e j c old) (q2 : s.heap.IsTupleIter j t i) (pl : s.heap.IsTuple t xs) (lx : xs.size ≤ i)
    (h : ∀ h', Heap.ExtBut j s.heap h' → Q none { s with heap := h' }) : wpAny (model prog w) A (pyNext (.ref e)) Q E s := by
  have ty : s.TypeIs (.ref e) "enumerate" := ⟨_, q1, rfl⟩
  unfold pyNext
  refine wpAny_bind (wpAny_attempt (wpAny_callSpecial?_slot (name := Str.ofString "__next__") ty F.slot_enumerate_next (wpAny_call_entry F.slot_enumerate_next ty F.entry_enumerate_next (show wpAny _ _ (field (.ref e) 2 >>= _) _ _ _ from wpAny_bind (wpAny_field q1 rfl (x := .ref j) rfl ?_)) (F.args_enumerate_next_1 _))))
  refine wpAny_bind (wpAny_nextOf_tuple_end (by simp [calm]) q2 pl (Array.getElem?_eq_none lx) fun h' x a ⟨o, b, c⟩ => ?_)
  exact wpAny_bind (wpAny_isInstance (T := "StopIteration") (b := true) ⟨o, b, c⟩ isSubtype_stop (wpAny_pure (h _ a)))
end
/-- the tuple at a, item by item, each in a new pair -/
def ItT (K : PySem.W.Frag) (a : Addr) : It where
  go i H := ∃ (xs : List V) (x : V), SqT K H a xs ∧ xs[i]? = some x
  yld i H v H' := ∃ T x, v = .ref T ∧ H T = none ∧ H' = upd H T (.tup [.int (i : Nat), x]) ∧ ∀ xs, SqT K H a xs → xs[i]? = some x
  stop i H := ∃ xs : List V, SqT K H a xs ∧ xs.length ≤ i
abbrev stT (a e j : Addr) (i : Nat) (h : Heap) : Prop := (∃ old, IsEnum h e j ((i : Nat) : Int) old) ∧ h.IsTupleIter j a i ∧ e ≠ j ∧ a ≠ j ∧ e ≠ a
theorem turn_enT {P : Program} {w : World} {K : PySem.W.Frag} {ts : List Expr} {kk : Nat} {tpos : Pos} (a e j : Addr) : Turn P w K (.Tuple ts kk tpos) (ItT K a) [e, j] e (stT a e j) where
  mem := by simp
  obj := fun i h ⟨⟨old, q1⟩, ⟨o, q2, _, q3⟩, _⟩ b hb => by
    rcases List.mem_cons.mp hb with z | z
    · exact z ▸ ⟨_, q1, fun v q => nomatch q⟩
    · exact List.mem_singleton.mp z ▸ ⟨o, q2, fun v q => by rw [q3] at q; cases q⟩
  keep := fun i h h' ⟨⟨old, q1⟩, q2, q3⟩ k => ⟨⟨old, k e (by simp) _ q1⟩, q2.at fun o q => k j (by simp) o q, q3⟩
  item := by
    rintro X rfl rfl rfl hc i pins s σ H E I hf ⟨⟨old, q1⟩, q2, n1, n2, n3⟩ ⟨xs, x, hq, hx⟩
    obtain ⟨its, rv, pl, hz⟩ := I.tuple hq
    obtain ⟨u, hu, ru⟩ := rv.get hx
    have le : e < s.heap.objs.size := Heap.lt_size q1
    have lj : j < s.heap.objs.size := by obtain ⟨_, q, _⟩ := q2; exact Heap.lt_size q
    have lx : i < its.toArray.size := by
      have := (List.getElem?_eq_some_iff.mp hu).1
      simpa using this
    have D := PySem.Draws.tuple (prog := X.prog) (w := X.w) (A := X.A.in1) (by simp [I.ok.hd hc]) j a n2 its.toArray
    refine wpAny_pyNext_enum_itemD D q1 ⟨q2, pl⟩ lx n1 (by simp [n1, n3]) fun y h' tk hy ho ⟨hit, _⟩ hT hsz hk => ?_
    have ey : y = u := by
      have hy : its.toArray[i]? = some y := hy
      rw [List.getElem?_toArray, hu] at hy
      exact (Option.some.inj hy).symm
    subst ey
    refine ⟨_, rfl, wpAny_letOwnedTupleGo_enum (s := { s with heap := h', toks := tk + 1 }) ho fun h2 he2 sb => ?_⟩
    have hT2 : h2.get? s.heap.objs.size = some { cls := .type "tuple", data := .seq #[.int i tk, y] } := (sb.2 _ (Nat.ne_of_gt le)).trans hT
    have new : ObjOk X.prog X.w (upd H s.heap.objs.size (.tup [.int (i : Nat), x])) h2 s.heap.objs.size (.tup [.int (i : Nat), x]) := ⟨by show 2 ≤ sizeLine; decide, [.int i tk, y], .cons ⟨_, rfl⟩ (.cons ru .nil), ⟨_, hT2, rfl, _, rfl⟩⟩
    have I1 : Inv X pins σ (upd H s.heap.objs.size (.tup [.int (i : Nat), x])) { s with heap := h2, toks := tk + 1 } := I.turnedNew (ch := [e, j]) (fun b ob hb q => (sb.2 b fun z => hb (by simp [z])).trans (hk b ob (fun z => hb (by simp [z])) (fun z => hb (by simp [z])) q)) hf (Nat.le_refl _) new
    refine ⟨.ref s.heap.objs.size, _, I1, rfl, ⟨_, x, rfl, I.hok.fresh (Nat.le_refl _), rfl, fun ys hy => by rw [I.tuple_inj hy hq]; exact hx⟩, ⟨⟨y, ?_⟩, hit.at fun o q => (sb.2 j (Ne.symm n1)).trans q, n1, n2, n3⟩, fun b hb => ?_⟩
    · rw [show ((i + 1 : Nat) : Int) = (i : Int) + 1 by omega]; exact he2
    · have lb : b < s.heap.objs.size := by
        rcases List.mem_cons.mp hb with z | z
        · exact z ▸ le
        · exact List.mem_singleton.mp z ▸ lj
      rw [upd_ne (Nat.ne_of_lt lb)]; exact (hf b hb).1
  done := by
    rintro X rfl rfl rfl hc i pins s σ H E I hf ⟨⟨old, q1⟩, q2, n1, n2, n3⟩ ⟨xs, hq, hx⟩
    obtain ⟨its, rv, pl, hz⟩ := I.tuple hq
    obtain ⟨f0, f1, f2, f3, f4, f5⟩ := hf j (by simp)
    have lx : its.toArray.size ≤ i := by rw [List.size_toArray, ← rv.length]; exact hx
    exact enT_end (I.ok.hd hc) q1 q2 pl lx fun h' eb => ⟨rfl, I.turned (t' := s.toks) (fun b o hb q => eb b o hb q) f0 f1 f3 f4 f5⟩
  self := fun A i s Q E ⟨⟨_, q1⟩, _⟩ h => wpAny_pyIter_enum q1 h
/-- enumerate(e): e a list or a tuple -/
def iEnB (K : PySem.W.Frag) (ta : TA) : TI := fun σ H R => ta σ H fun vs H1 => ∃ a xs, vs = [.ref a] ∧ ((SqL K H1 a xs ∧ R (Ite K a) H1) ∨ (SqT K H1 a xs ∧ R (ItT K a) H1))
theorem pi_enB {X : Cx} {e : Expr} {ta : TA} {p pos tpos : Pos} {ts : List Expr} {kk : Nat} (g : Gl X "enumerate") (m : X.mg "enumerate" = none) (ha : PA X [e] ta) (na : starEach [e] X.env = [(false, eval e X.env)]) :
    PI X (.Tuple ts kk tpos) (.Call (.Name "enumerate" p) [e] [] pos) (iEnB X.K ta) := by
  refine ⟨fun pins s σ H R I h => Call_ (ld_blt I g m boot_enumerate (PyProof.Rows.callWith_type1 (thn (ha.run pos pins s σ H _ I h) fun us z ⟨vs, H1, I1, r1, q1⟩ => ?_) na rfl))⟩
  obtain ⟨a, xs, rfl, q⟩ := q1
  obtain ⟨u, eu, rx⟩ := vals1 r1
  subst eu; cases rx
  have far : ∀ b ∈ [z.heap.objs.size + 1, z.heap.objs.size], z.heap.objs.size ≤ b := fun b hb => by
    rcases List.mem_cons.mp hb with w | w
    · exact w ▸ Nat.le_succ _
    · exact List.mem_singleton.mp w ▸ Nat.le_refl _
  rcases q with ⟨hq, q⟩ | ⟨hq, q⟩
  · obtain ⟨its, rv, pl, hz⟩ := I1.list hq
    refine call_enumerate_list pl.isList fun h' he hit _ hk => wpAny_pyIter_enum he ⟨z.heap.objs.size + 1, [z.heap.objs.size + 1, z.heap.objs.size], _, _, H1, rfl, I1.kept (t' := z.toks) hk, turn_enum a (z.heap.objs.size + 1) z.heap.objs.size, ⟨⟨.none, he⟩, hit, Nat.succ_ne_self _⟩, fun b hb => I1.fpOk (far b hb) (I1.hok.fresh (far b hb)), q⟩
  · obtain ⟨its, rv, pl, hz⟩ := I1.tuple hq
    have la : a < z.heap.objs.size := pl.lt
    exact enT_call pl fun h' he hit hk => wpAny_pyIter_enum he ⟨z.heap.objs.size + 1, [z.heap.objs.size + 1, z.heap.objs.size], _, _, H1, rfl, I1.kept (t' := z.toks) hk, turn_enT a (z.heap.objs.size + 1) z.heap.objs.size, ⟨⟨.none, he⟩, hit, Nat.succ_ne_self _, Nat.ne_of_lt la, Nat.ne_of_gt (Nat.lt_succ_of_lt la)⟩, fun b hb => I1.fpOk (far b hb) (I1.hok.fresh (far b hb)), q⟩
end MPS
/-! zip of two rows, each a tuple or a list. -/
namespace MPS
open PySem PySem.W PySem.Spec PyProof.Rows L2
variable [Tbs]
/-- a row: a tuple (true) or a list -/
def Sq2 : Bool → Heap → Addr → Array Value → Prop
  | true, h, l, xs => h.IsTuple l xs
  | false, h, l, xs => h.IsList l xs
/-- what walks over it -/
def It2 : Bool → Heap → Addr → Addr → Nat → Prop
  | true, h, u, l, k => h.IsTupleIter u l k
  | false, h, u, l, k => h.IsListIter u l k
def itO2 (p : Bool) (l : Addr) : Obj := { cls := .type (if p then "tuple_iterator" else "list_iterator"), data := .fields #[.ref l, .int 0 0] }
theorem Sq2.ext {p : Bool} {h h' : Heap} {a b : Addr} {xs : Array Value} (x : Sq2 p h a xs) (s : Heap.ExtBut b h h') (n : a ≠ b) : Sq2 p h' a xs := by
  cases p
  · exact Heap.IsList.extBut x s n
  · exact Heap.IsTuple.extBut x s n
theorem It2.ext {p : Bool} {h h' : Heap} {a b l : Addr} {k : Nat} (x : It2 p h a l k) (s : Heap.ExtBut b h h') (n : a ≠ b) : It2 p h' a l k := by
  cases p
  · exact Heap.IsListIter.extBut x s n
  · exact Heap.IsTupleIter.extBut x s n
theorem It2.to {p : Bool} {h h' : Heap} {a l : Addr} {k : Nat} (x : It2 p h a l k) (e : ∀ o, h.get? a = some o → h'.get? a = some o) : It2 p h' a l k := by
  cases p
  · exact Heap.IsListIter.at x e
  · exact Heap.IsTupleIter.at x e
theorem It2.obj {p : Bool} {h : Heap} {a l : Addr} {k : Nat} (x : It2 p h a l k) : ∃ o, h.get? a = some o ∧ ∀ v, o.data ≠ .cell v := by
  cases p
  · obtain ⟨o, e, _, d⟩ := x; exact ⟨o, e, fun v q => by rw [d] at q; cases q⟩
  · obtain ⟨o, e, _, d⟩ := x; exact ⟨o, e, fun v q => by rw [d] at q; cases q⟩
section
variable {prog : Program} {w : World} {A : Around} {E : Value → Shared → Prop} {s : Shared}
theorem next2 {p : Bool} {u l : Addr} {k : Nat} {xs : Array Value} {x : Value} {Q : Value → Shared → Prop} (a : It2 p s.heap u l k) (b : Sq2 p s.heap l xs) (hx : xs[k]? = some x)
    (q : ∀ h', It2 p h' u l (k + 1) → Heap.SameBut u s.heap h' → Q x { s with heap := h' }) : wpAny (model prog w) A (Builtin.SmallTypes.nextOf (.ref u)) Q E s := by
  cases p
  · exact wpAny_nextOf_list_item a b hx q
  · exact RZ.nextOf_tuple_item a b hx q
theorem stop2 {p : Bool} {u l : Addr} {k : Nat} {xs : Array Value} {Q : Value → Shared → Prop} (calm : A.handled = none) (a : It2 p s.heap u l k) (b : Sq2 p s.heap l xs) (hx : xs[k]? = none)
    (q : ∀ h' e, Heap.ExtBut u s.heap h' → (∃ o, h'.get? e = some o ∧ o.cls = .type "StopIteration") → E (.ref e) { s with heap := h' }) : wpAny (model prog w) A (Builtin.SmallTypes.nextOf (.ref u)) Q E s := by
  cases p
  · exact wpAny_nextOf_list_end calm a b hx q
  · exact RZ.nextOf_tuple_end calm a b hx q
theorem iter2 {p : Bool} {l : Addr} {xs : Array Value} {Q : Value → Shared → Prop} (b : Sq2 p s.heap l xs) (q : Q (.ref s.heap.objs.size) { s with heap := s.heap.push (itO2 p l) }) : wpAny (model prog w) A (pyIter (.ref l)) Q E s := by
  cases p
  · exact wpAny_pyIter_list b q
  · exact wpAny_pyIter_tuple b q
section
variable {z pi po u v l m : Addr} {j k : Nat} {xs ys : Array Value} {x y a b : Value} {p r : Bool}
/-- one more pair -/
theorem zip2_item {Q : Value → Shared → Prop} (D : ZipApart z pi po u v l m) (hz : IsZip s.heap z pi po .none) (hi : IsPair s.heap pi (.ref u) (.ref v)) (ho : IsPair s.heap po a b)
    (hu : It2 p s.heap u l j) (hv : It2 r s.heap v m k) (hl : Sq2 p s.heap l xs) (hm : Sq2 r s.heap m ys) (hx : xs[j]? = some x) (hy : ys[k]? = some y)
    (q : ∀ h', IsZip h' z pi po (rawInt s.heap.objs.size) → IsPair h' po x y → It2 p h' u l (j + 1) → It2 r h' v m (k + 1) → IsPair h' s.heap.objs.size x y → h'.objs.size = s.heap.objs.size + 1 →
      (∀ c o, c ≠ z → c ≠ po → c ≠ u → c ≠ v → s.heap.get? c = some o → h'.get? c = some o) → Q (.ref s.heap.objs.size) { s with heap := h' }) :
    wpAny (model prog w) A (Builtin.«zip.__next__» ⟨[.ref z], []⟩) (fun fin s' => ∃ v, fin = .done (.ret v) ∧ Q v s') E s := by
  show wpAny _ _ (field (.ref z) 2 >>= _) _ _ _; refine wpAny_bind (wpAny_field hz rfl (x := .bool false) rfl ?_)
  show wpAny _ _ (field (.ref z) 3 >>= _) _ _ _; refine wpAny_bind (wpAny_field hz rfl (x := .ref pi) rfl ?_)
  refine wpAny_bind (wpAny_seqItems hi rfl ?_); show wpAny _ _ (Builtin.SmallTypes.ownedTupleIsFree (.ref z) >>= _) _ _ _
  refine wpAny_bind ?_; unfold Builtin.SmallTypes.ownedTupleIsFree
  refine wpAny_bind (wpAny_field hz rfl (x := .none) rfl (wpAny_pure ?_)); simp only [if_true]
  refine wpAny_bind (wpAny_rule ?_); refine wpAny_bind (wpAny_field hz rfl (x := .ref po) rfl ?_)
  refine wpAny_bind (wpAny_setField_rec hz (by simp) fun g1 z1 s1 => ?_); replace z1 : IsZip g1 z pi po .ellipsis := z1
  refine wpAny_bind ?_; simp only [List.zipIdx_cons, List.zipIdx_nil, List.forIn_cons, List.forIn_nil]
  refine wpAny_bind (wpAny_bind (wpAny_onRaise ?_)); show wpAny _ _ (Builtin.SmallTypes.nextOf (.ref u) >>= _) _ _ _
  refine wpAny_bind (next2 (hu.ext s1.extBut D.i1z) (hl.ext s1.extBut D.l1z) hx fun g2 u2 s2 => wpAny_pure ?_)
  have o2 : IsPair g2 po a b := s2.extBut _ _ D.TOi1 (s1.extBut _ _ D.TOz ho)
  refine wpAny_bind (wpAny_seqItems o2 rfl ?_); refine wpAny_bind (wpAny_updateSeq_pair o2 fun g3 o3 s3 => ?_); replace o3 : IsPair g3 po x b := o3
  refine wpAny_bind (wpAny_letGo (wpAny_pure ?_)); refine wpAny_bind (wpAny_bind (wpAny_onRaise ?_))
  show wpAny _ _ (Builtin.SmallTypes.nextOf (.ref v) >>= _) _ _ _
  refine wpAny_bind (next2 (((hv.ext s1.extBut D.i2z).ext s2.extBut D.i12.symm).ext s3.extBut D.TOi2.symm) (((hm.ext s1.extBut D.l2z).ext s2.extBut D.l2i1).ext s3.extBut D.l2TO) hy fun g4 v4 s4 => wpAny_pure ?_)
  have o4 : IsPair g4 po x b := s4.extBut _ _ D.TOi2 o3
  refine wpAny_bind (wpAny_seqItems o4 rfl ?_); refine wpAny_bind (wpAny_updateSeq_pair o4 fun g5 o5 s5 => ?_); replace o5 : IsPair g5 po x y := o5
  refine wpAny_bind (wpAny_letGo (wpAny_pure (wpAny_pure ?_))); refine wpAny_bind (wpAny_seqItems o5 rfl ?_); refine wpAny_bind (wpAny_newTuple ?_)
  have sz : g5.objs.size = s.heap.objs.size := by rw [s5.1, s4.1, s3.1, s2.1, s1.1]
  have z5 : IsZip g5 z pi po .ellipsis := s5.extBut _ _ D.TOz.symm (s4.extBut _ _ D.i2z.symm (s3.extBut _ _ D.TOz.symm (s2.extBut _ _ D.i1z.symm z1)))
  have k5 : ∀ c o, c ≠ z → c ≠ po → c ≠ u → c ≠ v → s.heap.get? c = some o → g5.get? c = some o := fun c o n1 n2 n3 n4 e => s5.extBut _ _ n2 (s4.extBut _ _ n4 (s3.extBut _ _ n2 (s2.extBut _ _ n3 (s1.extBut _ _ n1 e))))
  have u5 : It2 p g5 u l (j + 1) := ((u2.ext s3.extBut D.TOi1.symm).ext s4.extBut D.i12).ext s5.extBut D.TOi1.symm
  have v5 : It2 r g5 v m (k + 1) := v4.ext s5.extBut D.TOi2.symm
  have zl : z < g5.objs.size := Heap.lt_size z5
  show wpAny _ _ (Builtin.SmallTypes.ownedTupleHandOut (.ref z) (.ref g5.objs.size) >>= _) _ _ _
  refine wpAny_bind ?_; unfold Builtin.SmallTypes.ownedTupleHandOut
  have z6 : IsZip (g5.push { cls := .type "tuple", data := .seq #[x, y] }) z pi po .ellipsis := Heap.get?_push_of_some _ z5
  refine wpAny_bind (wpAny_setField_rec z6 (by simp) fun g7 z7 s7 => ?_); replace z7 : IsZip g7 z pi po (rawInt g5.objs.size) := z7
  refine wpAny_setField_rec z7 (by simp) fun g8 z8 s8 => ?_; replace z8 : IsZip g8 z pi po (rawInt g5.objs.size) := z8
  have up : ∀ c o, c ≠ z → g5.get? c = some o → g8.get? c = some o := fun c o n e => s8.extBut _ _ n (s7.extBut _ _ n (Heap.get?_push_of_some _ e))
  have t8 : IsPair g8 g5.objs.size x y := s8.extBut _ _ (Nat.ne_of_gt zl) (s7.extBut _ _ (Nat.ne_of_gt zl) (Heap.get?_push_size _ rfl))
  have sz8 : g8.objs.size = g5.objs.size + 1 := by rw [s8.1, s7.1, Heap.size_push]
  rw [sz] at z8 t8 sz8
  refine wpAny_pure ⟨_, rfl, ?_⟩; show Q (.ref g5.objs.size) _; rw [sz]
  exact q g8 z8 (up _ _ D.TOz o5) (u5.to fun o e => up _ o D.i1z e) (v5.to fun o e => up _ o D.i2z e) t8 sz8 fun c o n1 n2 n3 n4 e => up c o n1 (k5 c o n1 n2 n3 n4 e)
/-- no more -/
theorem zip2_end {Q : Fin → Shared → Prop} (calm : A.handled = none) (D : ZipApart z pi po u v l m) (hz : IsZip s.heap z pi po .none) (hi : IsPair s.heap pi (.ref u) (.ref v)) (ho : IsPair s.heap po a b)
    (hu : It2 p s.heap u l j) (hv : It2 r s.heap v m k) (hl : Sq2 p s.heap l xs) (hm : Sq2 r s.heap m ys) (end2 : xs[j]? = none ∨ ys[k]? = none)
    (q : ∀ h' e, (∀ c o, c ≠ z → c ≠ po → c ≠ u → c ≠ v → s.heap.get? c = some o → h'.get? c = some o) → (∃ o, h'.get? e = some o ∧ o.cls = .type "StopIteration") → E (.ref e) { s with heap := h' }) :
    wpAny (model prog w) A (Builtin.«zip.__next__» ⟨[.ref z], []⟩) Q E s := by
  show wpAny _ _ (field (.ref z) 2 >>= _) _ _ _; refine wpAny_bind (wpAny_field hz rfl (x := .bool false) rfl ?_)
  show wpAny _ _ (field (.ref z) 3 >>= _) _ _ _; refine wpAny_bind (wpAny_field hz rfl (x := .ref pi) rfl ?_)
  refine wpAny_bind (wpAny_seqItems hi rfl ?_); show wpAny _ _ (Builtin.SmallTypes.ownedTupleIsFree (.ref z) >>= _) _ _ _
  refine wpAny_bind ?_; unfold Builtin.SmallTypes.ownedTupleIsFree
  refine wpAny_bind (wpAny_field hz rfl (x := .none) rfl (wpAny_pure ?_)); simp only [if_true]
  refine wpAny_bind (wpAny_rule ?_); refine wpAny_bind (wpAny_field hz rfl (x := .ref po) rfl ?_)
  refine wpAny_bind (wpAny_setField_rec hz (by simp) fun g1 z1 s1 => ?_); replace z1 : IsZip g1 z pi po .ellipsis := z1
  refine wpAny_bind ?_; simp only [List.zipIdx_cons, List.zipIdx_nil, List.forIn_cons, List.forIn_nil]
  refine wpAny_bind (wpAny_bind (wpAny_onRaise ?_)); show wpAny _ _ (Builtin.SmallTypes.nextOf (.ref u) >>= _) _ _ _
  cases hx : xs[j]? with
  | none =>
    refine wpAny_bind (stop2 calm (hu.ext s1.extBut D.i1z) (hl.ext s1.extBut D.l1z) hx fun g2 e s2 he => ?_)
    obtain ⟨oe, go, ce⟩ := he
    have z2 : IsZip g2 z pi po .ellipsis := s2 _ _ D.i1z.symm z1
    have ne : e ≠ z := fun w => by subst w; rw [z2] at go; cases go; simp at ce
    refine wpAny_setField_rec z2 (by simp) fun g3 _ s3 => q g3 e (fun c o n1 _ n3 _ w => s3.extBut _ _ n1 (s2 _ _ n3 (s1.extBut _ _ n1 w))) ⟨oe, s3.extBut _ _ ne go, ce⟩
  | some x =>
    have hy : ys[k]? = none := by rcases end2 with f | f; rw [hx] at f; cases f; exact f
    refine wpAny_bind (next2 (hu.ext s1.extBut D.i1z) (hl.ext s1.extBut D.l1z) hx fun g2 u2 s2 => wpAny_pure ?_)
    have o2 : IsPair g2 po a b := s2.extBut _ _ D.TOi1 (s1.extBut _ _ D.TOz ho)
    refine wpAny_bind (wpAny_seqItems o2 rfl ?_); refine wpAny_bind (wpAny_updateSeq_pair o2 fun g3 o3 s3 => ?_)
    refine wpAny_bind (wpAny_letGo (wpAny_pure ?_)); refine wpAny_bind (wpAny_bind (wpAny_onRaise ?_))
    show wpAny _ _ (Builtin.SmallTypes.nextOf (.ref v) >>= _) _ _ _
    refine wpAny_bind (stop2 calm (((hv.ext s1.extBut D.i2z).ext s2.extBut D.i12.symm).ext s3.extBut D.TOi2.symm) (((hm.ext s1.extBut D.l2z).ext s2.extBut D.l2i1).ext s3.extBut D.l2TO) hy fun g4 e s4 he => ?_)
    obtain ⟨oe, go, ce⟩ := he
    have z4 : IsZip g4 z pi po .ellipsis := s4 _ _ D.i2z.symm (s3.extBut _ _ D.TOz.symm (s2.extBut _ _ D.i1z.symm z1))
    have ne : e ≠ z := fun w => by subst w; rw [z4] at go; cases go; simp at ce
    refine wpAny_setField_rec z4 (by simp) fun g5 _ s5 => q g5 e (fun c o n1 n2 n3 n4 w => s5.extBut _ _ n1 (s4 _ _ n4 (s3.extBut _ _ n2 (s2.extBut _ _ n3 (s1.extBut _ _ n1 w))))) ⟨oe, s5.extBut _ _ ne go, ce⟩
theorem goes2_item {Q : Option Value → Shared → Prop} (D : ZipApart z pi po u v l m) (hz : IsZip s.heap z pi po .none) (hi : IsPair s.heap pi (.ref u) (.ref v)) (ho : IsPair s.heap po a b)
    (hu : It2 p s.heap u l j) (hv : It2 r s.heap v m k) (hl : Sq2 p s.heap l xs) (hm : Sq2 r s.heap m ys) (hx : xs[j]? = some x) (hy : ys[k]? = some y)
    (q : ∀ h', IsZip h' z pi po (rawInt s.heap.objs.size) → IsPair h' po x y → It2 p h' u l (j + 1) → It2 r h' v m (k + 1) → IsPair h' s.heap.objs.size x y → h'.objs.size = s.heap.objs.size + 1 →
      (∀ c o, c ≠ z → c ≠ po → c ≠ u → c ≠ v → s.heap.get? c = some o → h'.get? c = some o) → Q (some (.ref s.heap.objs.size)) { s with heap := h' }) : wpAny (model prog w) A (pyNext (.ref z)) Q E s := by
  have ty : s.TypeIs (.ref z) "zip" := ⟨_, hz, rfl⟩
  unfold pyNext
  exact wpAny_bind (wpAny_attempt (wpAny_callSpecial?_slot (name := Str.ofString "__next__") ty F.slot_zip_next (wpAny_call_entry F.slot_zip_next ty F.entry_zip_next (zip2_item D hz hi ho hu hv hl hm hx hy fun h' a1 a2 a3 a4 a5 a6 a7 => wpAny_pure (q h' a1 a2 a3 a4 a5 a6 a7)) (F.args_zip_next_1 _))))
theorem goes2_end {Q : Option Value → Shared → Prop} (calm : A.handled = none) (D : ZipApart z pi po u v l m) (hz : IsZip s.heap z pi po .none) (hi : IsPair s.heap pi (.ref u) (.ref v)) (ho : IsPair s.heap po a b)
    (hu : It2 p s.heap u l j) (hv : It2 r s.heap v m k) (hl : Sq2 p s.heap l xs) (hm : Sq2 r s.heap m ys) (end2 : xs[j]? = none ∨ ys[k]? = none)
    (q : ∀ h', (∀ c o, c ≠ z → c ≠ po → c ≠ u → c ≠ v → s.heap.get? c = some o → h'.get? c = some o) → Q none { s with heap := h' }) : wpAny (model prog w) A (pyNext (.ref z)) Q E s := by
  have ty : s.TypeIs (.ref z) "zip" := ⟨_, hz, rfl⟩
  unfold pyNext
  refine wpAny_bind (wpAny_attempt (wpAny_callSpecial?_slot (name := Str.ofString "__next__") ty F.slot_zip_next (wpAny_call_entry F.slot_zip_next ty F.entry_zip_next (zip2_end calm D hz hi ho hu hv hl hm end2 fun h' e hk he => ?_) (F.args_zip_next_1 _))))
  obtain ⟨o, h1, h2⟩ := he
  refine wpAny_bind (wpAny_isInstance (T := "StopIteration") (b := true) ⟨o, h1, h2⟩ isSubtype_stop (wpAny_pure (q _ hk)))
end
abbrev zp1 (h : Heap) (p : Bool) (l : Addr) : Heap := h.push (itO2 p l)
abbrev zp2 (h : Heap) (p r : Bool) (l m : Addr) : Heap := (zp1 h p l).push (itO2 r m)
abbrev zp3 (h : Heap) (p r : Bool) (l m : Addr) : Heap := (zp2 h p r l m).push { cls := .type "tuple", data := .seq #[.ref h.objs.size, .ref (zp1 h p l).objs.size] }
abbrev zp4 (h : Heap) (p r : Bool) (l m : Addr) : Heap := (zp3 h p r l m).push { cls := .type "tuple", data := .seq #[.none, .none] }
abbrev zp5 (h : Heap) (p r : Bool) (l m : Addr) : Heap := (zp4 h p r l m).push { cls := .type "zip", data := .fields #[.none, .bool false, .bool false, .ref (zp2 h p r l m).objs.size, .ref (zp3 h p r l m).objs.size] }
theorem zip2_new (p r : Bool) (l m : Addr) (xs ys : Array Value) : Meets (Builtin.«zip.__new__» ⟨[.type "zip", .ref l, .ref m], []⟩) (fun _ R s => Sq2 p s.heap l xs ∧ Sq2 r s.heap m ys ∧ R (.ok (.ret (.ref (zp4 s.heap p r l m).objs.size))) { s with heap := zp5 s.heap p r l m }) :=
  .of_wp fun prog w A R s ⟨a, b, q⟩ => by
    have ty := sub_zip; obtain ⟨hp, g, d, tk, os⟩ := s
    have i1 : ∀ {B : Around} {E : Value → Shared → Prop} {Q : Value → Shared → Prop}, Q (.ref hp.objs.size) ⟨zp1 hp p l, g, d, tk, os⟩ → wpAny (model prog w) B (pyIter (.ref l)) Q E ⟨hp, g, d, tk, os⟩ := fun q => iter2 (s := ⟨hp, g, d, tk, os⟩) a q
    have b2 : Sq2 r (zp1 hp p l) m ys := by
      cases r
      · exact Heap.IsList.push b _
      · exact Heap.IsTuple.push b _
    have i2 : ∀ {B : Around} {E : Value → Shared → Prop} {Q : Value → Shared → Prop}, Q (.ref (zp1 hp p l).objs.size) ⟨zp2 hp p r l m, g, d, tk, os⟩ → wpAny (model prog w) B (pyIter (.ref m)) Q E ⟨zp1 hp p l, g, d, tk, os⟩ := fun q => iter2 (s := ⟨zp1 hp p l, g, d, tk, os⟩) b2 q
    wp_walk using i1, i2
    exact ⟨_, rfl, q⟩
theorem itO2_is (p : Bool) {h : Heap} {u l : Addr} (e : h.get? u = some (itO2 p l)) : It2 p h u l 0 := by
  cases p
  · exact ⟨_, e, rfl, rfl⟩
  · exact ⟨_, e, rfl, rfl⟩
theorem itO2_live (p : Bool) (l : Addr) : (itO2 p l).isFreed = false := by cases p <;> rfl
theorem zip2_call {p r : Bool} {l m : Addr} {xs ys : Array Value} {Q : Value → Shared → Prop} (a : Sq2 p s.heap l xs) (b : Sq2 r s.heap m ys)
    (q : ∀ h', IsZip h' (s.heap.objs.size + 4) (s.heap.objs.size + 2) (s.heap.objs.size + 3) .none → IsPair h' (s.heap.objs.size + 2) (.ref s.heap.objs.size) (.ref (s.heap.objs.size + 1)) → IsPair h' (s.heap.objs.size + 3) .none .none →
      It2 p h' s.heap.objs.size l 0 → It2 r h' (s.heap.objs.size + 1) m 0 → (∀ c o, s.heap.get? c = some o → h'.get? c = some o) → Q (.ref (s.heap.objs.size + 4)) { s with heap := h' }) :
    wpAny (model prog w) A (call (.type "zip") [.ref l, .ref m]) Q E s := by
  refine callType_new F.called_zip (by decide) (F.typeCall_zip_2 _ _) (F.newCall_zip_2 _ _) (fun obj => F.args_object_init_3 obj _ _) F.entry_zip_new (zip2_new p r l m xs ys) ⟨a, b, ?_⟩
  have y1 : (zp1 s.heap p l).objs.size = s.heap.objs.size + 1 := Heap.size_push ..
  have y2 : (zp2 s.heap p r l m).objs.size = s.heap.objs.size + 2 := by rw [Heap.size_push, y1]
  have y3 : (zp3 s.heap p r l m).objs.size = s.heap.objs.size + 3 := by rw [Heap.size_push, y2]
  have y4 : (zp4 s.heap p r l m).objs.size = s.heap.objs.size + 4 := by rw [Heap.size_push, y3]
  have f1 : (zp5 s.heap p r l m).get? s.heap.objs.size = some (itO2 p l) := Heap.get?_push_of_some _ (Heap.get?_push_of_some _ (Heap.get?_push_of_some _ (Heap.get?_push_of_some _ (Heap.get?_push_size _ (itO2_live p l)))))
  have f2 : (zp5 s.heap p r l m).get? (zp1 s.heap p l).objs.size = some (itO2 r m) := Heap.get?_push_of_some _ (Heap.get?_push_of_some _ (Heap.get?_push_of_some _ (Heap.get?_push_size _ (itO2_live r m))))
  have f3 : (zp5 s.heap p r l m).get? (zp2 s.heap p r l m).objs.size = some _ := Heap.get?_push_of_some _ (Heap.get?_push_of_some _ (Heap.get?_push_size _ rfl))
  have f4 : (zp5 s.heap p r l m).get? (zp3 s.heap p r l m).objs.size = some _ := Heap.get?_push_of_some _ (Heap.get?_push_size _ rfl)
  have f5 : (zp5 s.heap p r l m).get? (zp4 s.heap p r l m).objs.size = some _ := Heap.get?_push_size _ rfl
  show _ ∧ _
  rw [y2, y3, y4] at f5; rw [y3] at f4; rw [y1, y2] at f3; rw [y1] at f2; rw [y4]
  exact ⟨⟨_, f5, rfl⟩, q _ f5 f3 f4 (itO2_is p f1) (itO2_is r f2) fun c o e => Heap.get?_push_of_some _ (Heap.get?_push_of_some _ (Heap.get?_push_of_some _ (Heap.get?_push_of_some _ (Heap.get?_push_of_some _ e))))⟩
end
/-- a row, as it is tracked -/
def SqB : Bool → PySem.W.Frag → Hp → Addr → List V → Prop
  | true, K, H, a, vs => SqT K H a vs
  | false, K, H, a, vs => SqL K H a vs
/-- the rows at a and b as they stand at each turn -/
def ItzB (K : PySem.W.Frag) (p r : Bool) (a b : Addr) : It where
  go i H := ∃ (xs ys : List V) (x y : V), SqB p K H a xs ∧ SqB r K H b ys ∧ xs[i]? = some x ∧ ys[i]? = some y
  yld i H v H' := ∃ T x y, v = .ref T ∧ H T = none ∧ H' = upd H T (.tup [x, y]) ∧ (∀ xs, SqB p K H a xs → xs[i]? = some x) ∧ ∀ ys, SqB r K H b ys → ys[i]? = some y
  stop i H := ∃ xs ys : List V, SqB p K H a xs ∧ SqB r K H b ys ∧ (xs.length ≤ i ∨ ys.length ≤ i)
theorem SqB.get {X : Cx} {pins : List (Addr × Obj)} {σ : L2.St} {H : Hp} {s : Shared} (I : Inv X pins σ H s) {p : Bool} {a : Addr} {vs : List V} (q : SqB p X.K H a vs) : ∃ its, Vals vs its ∧ Sq2 p s.heap a its.toArray ∧ a < s.heap.objs.size := by
  cases p
  · obtain ⟨its, rv, e, _⟩ := I.list q; exact ⟨its, rv, e.isList, e.lt⟩
  · obtain ⟨its, rv, e, _⟩ := I.tuple q; exact ⟨its, rv, e, e.lt⟩
theorem SqB.inj {X : Cx} {pins : List (Addr × Obj)} {σ : L2.St} {H : Hp} {s : Shared} (I : Inv X pins σ H s) {p : Bool} {a : Addr} {vs us : List V} (q : SqB p X.K H a vs) (q2 : SqB p X.K H a us) : vs = us := by
  cases p
  · exact I.list_inj q q2
  · exact I.tuple_inj q q2
theorem turn_zipB {P : Program} {w : World} {K : PySem.W.Frag} {ts : List Expr} {kk : Nat} {tpos : Pos} {p r : Bool} {a b z pi po u v : Addr} (D : ZipApart z pi po u v a b) :
    Turn P w K (.Tuple ts kk tpos) (ItzB K p r a b) [z, pi, po, u, v] z (fun i h => IsZip h z pi po .none ∧ IsPair h pi (.ref u) (.ref v) ∧ (∃ x y, IsPair h po x y) ∧ It2 p h u a i ∧ It2 r h v b i) where
  mem := by simp
  obj := fun i h ⟨q1, q2, ⟨x, y, q3⟩, q4, q5⟩ c hc => by
    have hc : c = z ∨ c = pi ∨ c = po ∨ c = u ∨ c = v := by simpa using hc
    rcases hc with e | e | e | e | e
    · exact e ▸ ⟨_, q1, fun v q => nomatch q⟩
    · exact e ▸ ⟨_, q2, fun v q => nomatch q⟩
    · exact e ▸ ⟨_, q3, fun v q => nomatch q⟩
    · exact e ▸ q4.obj
    · exact e ▸ q5.obj
  keep := fun i h h' ⟨q1, q2, ⟨x, y, q3⟩, q4, q5⟩ k => ⟨k z (by simp) _ q1, k pi (by simp) _ q2, ⟨x, y, k po (by simp) _ q3⟩, q4.to fun o q => k u (by simp) o q, q5.to fun o q => k v (by simp) o q⟩
  item := by
    rintro X rfl rfl rfl calm i pins s σ H E I hf ⟨q1, q2, ⟨x0, y0, q3⟩, q4, q5⟩ ⟨xs, ys, x, y, hx, hy, gx, gy⟩
    obtain ⟨its, rv, pl, _⟩ := hx.get I
    obtain ⟨jts, rw2, pm, _⟩ := hy.get I
    obtain ⟨c1, hc1, r1⟩ := rv.get gx
    obtain ⟨c2, hc2, r2⟩ := rw2.get gy
    have zl : z < s.heap.objs.size := Heap.lt_size q1
    refine goes2_item D q1 q2 q3 q4 q5 pl pm (x := c1) (y := c2) (by simpa using hc1) (by simpa using hc2) fun h' z' o' u' v' t' sz hk => ⟨_, rfl, wpAny_letOwnedTupleGo_zip (s := { s with heap := h' }) z' fun h2 z2 sb => ?_⟩
    have t2 : h2.get? s.heap.objs.size = some { cls := .type "tuple", data := .seq #[c1, c2] } := (sb.2 _ (Nat.ne_of_gt zl)).trans t'
    have new : ObjOk X.prog X.w (upd H s.heap.objs.size (.tup [x, y])) h2 s.heap.objs.size (.tup [x, y]) := ⟨by show 2 ≤ sizeLine; decide, [c1, c2], .cons r1 (.cons r2 .nil), ⟨_, t2, rfl, _, rfl⟩⟩
    have I1 : Inv X pins σ (upd H s.heap.objs.size (.tup [x, y])) { s with heap := h2 } := I.turnedNew (t' := s.toks) (ch := [z, pi, po, u, v]) (fun c o n q => (sb.2 c fun e => n (by simp [e])).trans (hk c o (fun e => n (by simp [e])) (fun e => n (by simp [e])) (fun e => n (by simp [e])) (fun e => n (by simp [e])) q)) hf (Nat.le_refl _) new
    refine ⟨.ref s.heap.objs.size, _, I1, rfl, ⟨_, x, y, rfl, I.hok.fresh (Nat.le_refl _), rfl, fun l hl => by rw [SqB.inj I hl hx]; exact gx, fun l hl => by rw [SqB.inj I hl hy]; exact gy⟩, ⟨z2, (sb.2 _ D.TIz).trans (hk _ _ D.TIz D.TITO D.TIi1 D.TIi2 q2), ⟨c1, c2, (sb.2 _ D.TOz).trans o'⟩, u'.to fun o q => (sb.2 _ D.i1z).trans q, v'.to fun o q => (sb.2 _ D.i2z).trans q⟩, fun c hc => ?_⟩
    have lc : c < s.heap.objs.size := by
      have hc : c = z ∨ c = pi ∨ c = po ∨ c = u ∨ c = v := by simpa using hc
      rcases hc with e | e | e | e | e
      · exact e ▸ zl
      · exact e ▸ Heap.lt_size q2
      · exact e ▸ Heap.lt_size q3
      · obtain ⟨_, q, _⟩ := q4.obj; exact e ▸ Heap.lt_size q
      · obtain ⟨_, q, _⟩ := q5.obj; exact e ▸ Heap.lt_size q
    rw [upd_ne (Nat.ne_of_lt lc)]; exact (hf c hc).1
  done := by
    rintro X rfl rfl rfl calm i pins s σ H E I hf ⟨q1, q2, ⟨x0, y0, q3⟩, q4, q5⟩ ⟨xs, ys, hx, hy, hend⟩
    obtain ⟨its, rv, pl, _⟩ := hx.get I
    obtain ⟨jts, rw2, pm, _⟩ := hy.get I
    have n1 := rv.length
    have n2 := rw2.length
    have he : its.toArray[i]? = none ∨ jts.toArray[i]? = none := hend.imp (fun q => by simp; omega) fun q => by simp; omega
    exact goes2_end (I.ok.hd calm) D q1 q2 q3 q4 q5 pl pm he fun h' hk => ⟨rfl, I.turnedL (t' := s.toks) (ch := [z, pi, po, u, v]) (fun c o n q => hk c o (fun e => n (by simp [e])) (fun e => n (by simp [e])) (fun e => n (by simp [e])) (fun e => n (by simp [e])) q) hf⟩
  self := fun A i s Q E st h => wpAny_pyIter_zip st.1 h
/-- zip(e, f): each a list or a tuple -/
def iZipB (K : PySem.W.Frag) (ta : TA) : TI := fun σ H R => ta σ H fun vs H1 => ∃ a b xs ys p r, vs = [.ref a, .ref b] ∧ SqB p K H1 a xs ∧ SqB r K H1 b ys ∧ R (ItzB K p r a b) H1
theorem pi_zipB {X : Cx} {e f : Expr} {ta : TA} {p pos tpos : Pos} {ts : List Expr} {kk : Nat} (g : Gl X "zip") (m : X.mg "zip" = none) (ha : PA X [e, f] ta)
    (hs : starEach [e, f] X.env = (false, eval e X.env) :: starEach [f] X.env) (hp : (backTo pos (starEach [f] X.env)).any (·.1) = false) : PI X (.Tuple ts kk tpos) (.Call (.Name "zip" p) [e, f] [] pos) (iZipB X.K ta) := by
  refine ⟨fun pins s σ H R I h => Call_ (ld_blt I g m PyProof.Rows.boot_zip (PyProof.Rows.callWith_type1 (thn (ha.run pos pins s σ H _ I h) fun us y ⟨vs, H1, I1, r1, q1⟩ => ?_) hs hp))⟩
  obtain ⟨a, b, xs, ys, p, r, rfl, hx, hy, q⟩ := q1
  cases r1 with
  | cons ra rr =>
  cases rr with
  | cons rb rr =>
  cases rr; cases ra; cases rb
  obtain ⟨its, rv, pl, la⟩ := hx.get I1
  obtain ⟨jts, rw2, pm, lb⟩ := hy.get I1
  have far : ∀ c ∈ [y.heap.objs.size + 4, y.heap.objs.size + 2, y.heap.objs.size + 3, y.heap.objs.size, y.heap.objs.size + 1], y.heap.objs.size ≤ c := fun c hc => by
    simp only [List.mem_cons, List.not_mem_nil, or_false] at hc
    omega
  exact zip2_call pl pm fun h' hz hi ho hu hv hk => wpAny_pyIter_zip hz ⟨y.heap.objs.size + 4, [y.heap.objs.size + 4, y.heap.objs.size + 2, y.heap.objs.size + 3, y.heap.objs.size, y.heap.objs.size + 1], _, _, H1, rfl, I1.kept (t' := y.toks) hk, turn_zipB (PySem.W.ktu_apart y.heap.objs.size a b la lb), ⟨hz, hi, ⟨_, _, ho⟩, hu, hv⟩, fun c hc => I1.fpOk (far c hc) (I1.hok.fresh (far c hc)), q⟩
end MPS
namespace MPS
open PySem PySem.Spec PyProof.Rows L2 PySem.W
variable [Tbs]
/-! sorted of tuples of whole numbers -/
theorem insT_perm (x : List Int) : ∀ ys : List (List Int), (MP.insT x ys).Perm (x :: ys)
  | [] => List.Perm.refl _
  | y :: ys => by
    unfold MP.insT
    split
    · exact ((insT_perm x ys).cons y).trans (List.Perm.swap x y ys)
    · exact List.Perm.refl _
theorem sortT_perm : ∀ xs : List (List Int), (MP.sortT xs).Perm xs
  | [] => List.Perm.refl _
  | x :: xs => (insT_perm x _).trans ((sortT_perm xs).cons x)
theorem lex_code {B : Int} : ∀ {a b : List Int}, a.length = b.length → TS.Bd B a → TS.Bd B b → (MP.lexLt a b = true ↔ TS.code B a < TS.code B b)
  | [], [], _, _, _ => by simp [MP.lexLt, TS.code]
  | [], _ :: _, h, _, _ => by simp at h
  | _ :: _, [], h, _, _ => by simp at h
  | x :: a, y :: b, h, ha, hb => by
    have hl : a.length = b.length := by simpa using h
    rw [MP.lexLt]
    by_cases e : x = y
    · rw [if_pos e, e, TS.code_same hl]
      exact lex_code hl ha.tail hb.tail
    · rw [if_neg e, decide_eq_true_eq]
      constructor
      · exact fun z => TS.code_lt hl ha.tail hb.tail z
      · intro z
        apply Classical.byContradiction
        intro n
        have := TS.code_lt hl.symm hb.tail ha.tail (show y < x by omega)
        omega
theorem code_inj {B : Int} : ∀ {a b : List Int}, a.length = b.length → TS.Bd B a → TS.Bd B b → TS.code B a = TS.code B b → a = b
  | [], [], _, _, _, _ => rfl
  | [], _ :: _, h, _, _, _ => by simp at h
  | _ :: _, [], h, _, _, _ => by simp at h
  | x :: a, y :: b, h, ha, hb, e => by
    have hl : a.length = b.length := by simpa using h
    have xy : x = y := by
      rcases Int.lt_trichotomy x y with q | q | q
      · have := TS.code_lt hl ha.tail hb.tail q; omega
      · exact q
      · have := TS.code_lt hl.symm hb.tail ha.tail q; omega
    subst xy
    have : TS.code B a = TS.code B b := by
      have h1 : x * B ^ a.length + TS.code B a = x * B ^ b.length + TS.code B b := e
      rw [hl] at h1
      omega
    rw [code_inj hl ha.tail hb.tail this]
/-- alike long, within B -/
def AlkT (d : Nat) (B : Int) (ts : List (List Int)) : Prop := ∀ ns ∈ ts, ns.length = d ∧ TS.Bd B ns
theorem insT_sorted {d : Nat} {B : Int} (x : List Int) : ∀ ys : List (List Int), AlkT d B (x :: ys) → ys.Pairwise (fun n m => TS.code B n ≤ TS.code B m) → (MP.insT x ys).Pairwise (fun n m => TS.code B n ≤ TS.code B m)
  | [], _, _ => by simp [MP.insT]
  | y :: ys, ha, h => by
    unfold MP.insT
    have h' := h
    rw [List.pairwise_cons] at h
    obtain ⟨x1, x2⟩ := ha x (by simp)
    obtain ⟨y1, y2⟩ := ha y (by simp)
    split
    · rename_i hyx
      have hyx := (lex_code (y1.trans x1.symm) y2 x2).mp hyx
      rw [List.pairwise_cons]
      refine ⟨fun z hz => ?_, insT_sorted x ys (fun n hn => ha n (by
        rcases List.mem_cons.mp hn with q | q
        · rw [q]; simp
        · simp [q])) h.2⟩
      rcases List.mem_cons.mp ((insT_perm x ys).mem_iff.mp hz) with q | q
      · rw [q]; omega
      · exact h.1 z q
    · rename_i hyx
      have hyx : TS.code B x ≤ TS.code B y := by
        apply Classical.byContradiction
        intro n
        exact hyx ((lex_code (y1.trans x1.symm) y2 x2).mpr (by omega))
      rw [List.pairwise_cons]
      refine ⟨fun z hz => ?_, h'⟩
      rcases List.mem_cons.mp hz with q | q
      · rw [q]; exact hyx
      · have := h.1 z q; omega
theorem sortT_sorted {d : Nat} {B : Int} : ∀ xs : List (List Int), AlkT d B xs → (MP.sortT xs).Pairwise (fun n m => TS.code B n ≤ TS.code B m)
  | [], _ => List.Pairwise.nil
  | x :: xs, h => insT_sorted x _ (fun n hn => by
      rcases List.mem_cons.mp hn with q | q
      · exact h n (by rw [q]; simp)
      · exact h n (List.mem_cons_of_mem _ ((sortT_perm xs).mem_iff.mp q))) (sortT_sorted xs fun n hn => h n (List.mem_cons_of_mem _ hn))
theorem bd_ex : ∀ ts : List (List Int), (∀ ns ∈ ts, ∀ i ∈ ns, 0 ≤ i) → ∃ B : Int, ∀ ns ∈ ts, TS.Bd B ns := by
  have one : ∀ ns : List Int, ∃ B : Int, ∀ i ∈ ns, i < B := fun ns => by
    induction ns with
    | nil => exact ⟨0, fun i h => absurd h List.not_mem_nil⟩
    | cons x ns ih =>
      obtain ⟨B, hB⟩ := ih
      refine ⟨max B (x + 1), fun i hi => ?_⟩
      rcases List.mem_cons.mp hi with q | q
      · rw [q]; omega
      · have := hB i q; omega
  intro ts
  induction ts with
  | nil => exact fun _ => ⟨0, fun ns h => absurd h List.not_mem_nil⟩
  | cons t ts ih =>
    intro h
    obtain ⟨B, hB⟩ := ih fun ns hn => h ns (List.mem_cons_of_mem _ hn)
    obtain ⟨C, hC⟩ := one t
    refine ⟨max B C, fun ns hn i hi => ⟨h ns hn i hi, ?_⟩⟩
    rcases List.mem_cons.mp hn with q | q
    · rw [q] at hi; have := hC i hi; omega
    · have := (hB ns q i hi).2; omega
section
variable {K : PySem.W.Frag} {m : Pl} {H : Hp}
theorem intsOf_eq : ∀ {xs : List MP.D} {ns : List Int}, MP.intsOf xs = some ns → xs = ns.map .int
  | [], ns, e => by simp [MP.intsOf] at e; subst e; rfl
  | .int i :: xs, ns, e => by
    simp only [MP.intsOf, Option.map_eq_some_iff] at e
    obtain ⟨ms, e1, rfl⟩ := e
    rw [List.map_cons, ← intsOf_eq e1]
  | .und :: _, _, e => by simp [MP.intsOf] at e
  | .non :: _, _, e => by simp [MP.intsOf] at e
  | .bl _ :: _, _, e => by simp [MP.intsOf] at e
  | .str _ :: _, _, e => by simp [MP.intsOf] at e
  | .tup _ :: _, _, e => by simp [MP.intsOf] at e
  | .lst _ :: _, _, e => by simp [MP.intsOf] at e
  | .frz _ :: _, _, e => by simp [MP.intsOf] at e
  | .ref _ :: _, _, e => by simp [MP.intsOf] at e
  | .clo _ _ :: _, _, e => by simp [MP.intsOf] at e
theorem tupsI_eq : ∀ {xs : List MP.D} {ts : List (List Int)}, MP.tupsI xs = some ts → xs = ts.map MP.tupI
  | [], ts, e => by simp [MP.tupsI] at e; subst e; rfl
  | .tup ys :: xs, ts, e => by
    simp only [MP.tupsI, Option.bind_eq_some_iff, Option.map_eq_some_iff] at e
    obtain ⟨ns, e1, rs, e2, rfl⟩ := e
    rw [List.map_cons, ← tupsI_eq e2, intsOf_eq e1]
    rfl
  | .und :: _, _, e => by simp [MP.tupsI] at e
  | .non :: _, _, e => by simp [MP.tupsI] at e
  | .bl _ :: _, _, e => by simp [MP.tupsI] at e
  | .str _ :: _, _, e => by simp [MP.tupsI] at e
  | .int _ :: _, _, e => by simp [MP.tupsI] at e
  | .lst _ :: _, _, e => by simp [MP.tupsI] at e
  | .frz _ :: _, _, e => by simp [MP.tupsI] at e
  | .ref _ :: _, _, e => by simp [MP.tupsI] at e
  | .clo _ _ :: _, _, e => by simp [MP.tupsI] at e
theorem intsOf_ints : ∀ ns : List Int, MP.intsOf (ns.map .int) = some ns
  | [] => rfl
  | x :: ns => by rw [List.map_cons, MP.intsOf, intsOf_ints ns]; rfl
theorem rel_tupI {ns : List Int} {v : V} (r : Rel K m H (MP.tupI ns) v) : TupI K H v ns := by
  unfold MP.tupI at r
  cases r with
  | tup h r =>
    have := Rels.intsOf r (intsOf_ints ns)
    subst this
    exact ⟨_, rfl, h⟩
theorem rels_permT : ∀ {us ys : List V}, us.Perm ys → ∀ {ts : List (List Int)}, Rels K m H (ts.map MP.tupI) us → ∃ ts', ts.Perm ts' ∧ Rels K m H (ts'.map MP.tupI) ys := by
  intro us ys p
  induction p with
  | nil => exact fun {ts} r => ⟨ts, List.Perm.refl _, r⟩
  | cons v p ih =>
    intro ts r
    cases ts with
    | nil => cases r
    | cons t ts =>
      cases r with
      | cons q r =>
        obtain ⟨ts', p', r'⟩ := ih r
        exact ⟨t :: ts', p'.cons t, .cons q r'⟩
  | swap a b l =>
    intro ts r
    cases ts with
    | nil => cases r
    | cons t ts =>
      cases r with
      | cons q r =>
        cases ts with
        | nil => cases r
        | cons t2 ts =>
          cases r with
          | cons q2 r => exact ⟨t2 :: t :: ts, List.Perm.swap _ _ _, .cons q2 (.cons q r)⟩
  | trans p q ih1 ih2 =>
    intro ts r
    obtain ⟨t1, p1, r1⟩ := ih1 r
    obtain ⟨t2, p2, r2⟩ := ih2 r1
    exact ⟨t2, p1.trans p2, r2⟩
theorem rels_memT : ∀ {ts : List (List Int)} {us : List V}, Rels K m H (ts.map MP.tupI) us → ∀ v ∈ us, ∃ ns ∈ ts, TupI K H v ns
  | [], _, .nil, v, h => absurd h List.not_mem_nil
  | t :: ts, _, .cons q r, v, h => by
    rcases List.mem_cons.mp h with e | e
    · rw [e]; exact ⟨t, by simp, rel_tupI q⟩
    · obtain ⟨ns, hn, i⟩ := rels_memT r v e
      exact ⟨ns, List.mem_cons_of_mem _ hn, i⟩
theorem rels_memU : ∀ {ts : List (List Int)} {us : List V}, Rels K m H (ts.map MP.tupI) us → ∀ ns ∈ ts, ∃ v ∈ us, TupI K H v ns
  | [], _, .nil, v, h => absurd h List.not_mem_nil
  | t :: ts, _, .cons q r, ns, h => by
    rcases List.mem_cons.mp h with e | e
    · rw [e]; exact ⟨_, by simp, rel_tupI q⟩
    · obtain ⟨v, hv, i⟩ := rels_memU r ns e
      exact ⟨v, List.mem_cons_of_mem _ hv, i⟩
theorem rels_sortT {B : Int} : ∀ {ts : List (List Int)} {us : List V}, Rels K m H (ts.map MP.tupI) us → us.Pairwise (fun x y => ∀ n m, TupI K H x n → TupI K H y m → TS.code B n ≤ TS.code B m) → ts.Pairwise (fun n m => TS.code B n ≤ TS.code B m)
  | [], _, .nil, _ => List.Pairwise.nil
  | t :: ts, _, .cons q r, h => by
    rw [List.pairwise_cons] at h ⊢
    refine ⟨fun n hn => ?_, rels_sortT r h.2⟩
    obtain ⟨v, hv, i⟩ := rels_memU r n hn
    exact h.1 v hv t n (rel_tupI q) i
theorem sortT_uniq {d : Nat} {B : Int} {ts ts' : List (List Int)} (a : AlkT d B ts) (p : ts.Perm ts') (s : ts'.Pairwise (fun n m => TS.code B n ≤ TS.code B m)) : ts' = MP.sortT ts := by
  have pp : ts'.Perm (MP.sortT ts) := p.symm.trans (sortT_perm ts).symm
  refine pp.eq_of_pairwise (fun x y hx hy h1 h2 => ?_) s (sortT_sorted ts a)
  obtain ⟨x1, x2⟩ := a x (p.mem_iff.mpr hx)
  obtain ⟨y1, y2⟩ := a y ((sortT_perm ts).mem_iff.mp hy)
  exact code_inj (x1.trans y1.symm) x2 y2 (Int.le_antisymm h1 h2)
end
end MPS
/-! sum and sorted of a tuple of whole numbers -/
namespace SrtO
open PySem PySem.Spec PySem.Calls PyProof.Rows PySem.W
section
variable {prog : Program} {w : World} {A : Around} {E : Value → Shared → Prop} {s : Shared}
/-- a tuple's items, collected in a new list at the end of the heap -/
theorem tup_collected {l : Addr} {vs : List Value} {Q : List Value → Shared → Prop} (hl : IsTup s.heap l vs.toArray) (hz : vs.length ≤ sizeLine)
    (q : Q vs { s with heap := (s.heap.push (seqObj "list" #[] 0)).update s.heap.objs.size (Obj.mapSeq (· ++ vs.toArray)) }) : wpAny (model prog w) A (collect (.ref l)) Q E s := by
  obtain ⟨o, ho, hc, n, hd⟩ := hl
  have new : (s.heap.push (seqObj "list" #[] 0)).get? s.heap.objs.size = some (seqObj "list" #[] 0) := Heap.get?_push_size _ rfl
  have old : (s.heap.push (seqObj "list" #[] 0)).get? l = some o := Heap.get?_push_of_some _ ho
  have room : ((#[] : Array Value) ++ vs.toArray).size ≤ sizeLine + 1 := by simp only [Array.size_append, List.size_toArray, List.length_nil]; omega
  have all : ((#[] : Array Value) ++ vs.toArray).toList = vs := by simp
  unfold collect; refine wpAny_bind (wpAny_runValue (codeAny_builtin entry_proto_collect' ?_))
  show wpAny (model prog w) _ (do again (.builtin "list.__iadd__" ⟨[← newList [], .ref l], []⟩)) _ _ s
  refine wpAny_bind (wpAny_newList (wpAny_pure ⟨Code.quiet_builtin _ (by decide +kernel), codeAny_builtin entry_list_iadd' (?_)⟩))
  show wpAny (model prog w) _ (Builtin.List.listExtendWith (.ref s.heap.objs.size) (.ref l) (.ref s.heap.objs.size)) _ _ { s with heap := s.heap.push (seqObj "list" #[] 0) }
  unfold Builtin.List.listExtendWith; refine wpAny_bind (wpAny_typeOf (T := "tuple") ⟨o, old, hc⟩ ?_)
  have cnd : (Builtin.List.listSameRef (.ref s.heap.objs.size) (.ref l) || Value.type "tuple" == Value.type "list" || Value.type "tuple" == Value.type "tuple") = true := by simp
  rw [if_pos cnd]; refine wpAny_bind (listItems_at old hd ?_)
  refine wpAny_bind (listItems_at (xs := #[]) (n := 0) new rfl ?_); rw [if_neg (by simp)]
  refine wpAny_bind (listUpdate_at (xs := #[]) (n := 0) new rfl ?_ (Nat.zero_le _) room); refine wpAny_pure ?_
  show wpAny (model prog w) A (do let o ← load s.heap.objs.size; match o.data with | .seq xs _ => pure xs.toList | _ => unsupported "internal:collect") Q E { s with heap := (s.heap.push (seqObj "list" #[] 0)).update s.heap.objs.size (Obj.mapSeq (· ++ vs.toArray)) }
  refine wpAny_bind (wpAny_load (get?_update_seq new _) ?_); show wpAny _ _ (pure ((#[] : Array Value) ++ vs.toArray).toList) Q E _; rw [all]
  exact wpAny_pure q
theorem sorted_tupO {l : Addr} {vs : List Value} {ltv : Value → Value → Bool} {Q : Value → Shared → Prop} (O : Swo ltv) (hl : IsTup s.heap l vs.toArray) (hz : vs.length ≤ sizeLine)
    (hS : 2 ≤ vs.length → ∀ (h₁ : Heap), ∀ a, SortableO prog w A.in1.in1 { s with heap := h₁ } a vs ltv)
    (h : ∀ (out : List Value), Srtd ltv out → Stb ltv out vs → Q (.ref (s.heap.objs.size + 1)) { s with heap := sortedAll s.heap vs out.toArray }) :
    wpAny (model prog w) A (call (.builtin "sorted") [.ref l]) Q E s := by
  refine Calls.call_function_entry kind_sorted plain_sorted entry_sorted (args_sorted1 _) (?_)
  unfold Builtin.«sorted»; refine wpAny_bind (m := checkCount "sorted" 1 1 _) (wpAny_pure ?_); refine wpAny_bind (tup_collected hl hz ?_); refine wpAny_bind (wpAny_newList ?_ hz)
  have sz : ((s.heap.push (seqObj "list" #[] 0)).update s.heap.objs.size (Obj.mapSeq (· ++ vs.toArray))).objs.size = s.heap.objs.size + 1 := (Heap.size_update _ _ _).trans (size_push' _ _)
  have new : (((s.heap.push (seqObj "list" #[] 0)).update s.heap.objs.size (Obj.mapSeq (· ++ vs.toArray))).push (seqObj "list" vs.toArray 0)).get? (s.heap.objs.size + 1) = some (seqObj "list" vs.toArray 0) := sz ▸ Heap.get?_push_size _ rfl
  show wpAny _ _ _ _ _ { s with heap := ((s.heap.push (seqObj "list" #[] 0)).update s.heap.objs.size (Obj.mapSeq (fun z => z ++ vs.toArray))).push (seqObj "list" vs.toArray 0) }
  rw [sz]; refine wpAny_bind (wpAny_holding (wpAny_call_entry slot_list_sort ⟨_, new, rfl⟩ entry_list_sort (list_sort_ord O new hz (fun h2 => hS h2 _ _) fun out hs hb => ⟨_, rfl, ?_⟩) (args_list_sort _)))
  exact wpAny_pure ⟨_, rfl, h out hs hb⟩
end
end SrtO
namespace MPS
open PySem PySem.Spec PyProof.Rows L2 PySem.W
section
variable {X : Cx}
/-- sum of a tuple of whole numbers -/
theorem cr_sumT (hc : X.calm = true) : CallR X (.builtin "sum") fun vs H Q => ∃ (a : Addr) (ns : List Int), vs = [V.ref a] ∧ SqT X.K H a (ns.map V.int) ∧ Q (.int ns.sum) H := by
  intro pins s σ H vs us Q I r h
  obtain ⟨a, ns, rfl, hs, q⟩ := h
  obtain ⟨its, rv, ht, hz⟩ := I.tuple hs
  rw [Vals.ref1 r]
  have hi := rv.ints
  obtain ⟨xs, hx⟩ := hi.allInts.items; have hn : numsOf its.toArray.toList = ns := by rw [show its.toArray.toList = its from rfl, hi.numsOf]
  rw [hx] at ht hn; rw [nums_intItems] at hn
  obtain ⟨o, ho, hc', n, hd⟩ := ht
  refine ktm_sumG (I.ok.hd hc) ⟨o, ho, hc', n, hd⟩ fun h' tk t' hk => ?_
  rw [preSum_eq, List.take_of_length_le (by simp), hn]; exact ⟨.int _, H, I.kept hk, ⟨_, rfl⟩, q⟩
/-- sorted of a tuple of whole numbers -/
theorem cr_sortedIT : CallR X (.builtin "sorted") fun vs H Q => ∃ (a : Addr) (ns : List Int), vs = [V.ref a] ∧ SqT X.K H a (ns.map V.int) ∧ ∀ (ns' : List Int) (p : Addr), ns'.Perm ns → ns'.Pairwise (· ≤ ·) → H p = none → Q (.ref p) (upd H p (.lst (ns'.map V.int))) := by
  intro pins s σ H vs us Q I r h
  obtain ⟨a, ns, rfl, hs, q⟩ := h
  obtain ⟨its, rv, ht, hz⟩ := I.tuple hs
  rw [Vals.ref1 r]
  have hi := rv.ints
  refine SrtO.sorted_tupO SrtO.swo_int ht (by rw [← rv.length]; exact hz) (fun h2 h₁ a' => SrtO.ints_sortable hi h2) fun out h1 h2 => ?_
  obtain ⟨k1', k2, k3⟩ := SrtO.ints_out hi h1 h2
  obtain ⟨e, he⟩ := PyProof.Rows.sortedAll_at s.heap its out.toArray
  have lenOk : ((out.map SrtO.iv).map V.int).length ≤ sizeLine := by rw [List.length_map, k2.length_eq]; rw [List.length_map] at hz; exact hz
  exact ⟨.ref _, upd H (s.heap.objs.size + 1) (.lst ((out.map SrtO.iv).map V.int)), I.laid (t' := s.toks) (fun _ _ => PyProof.Rows.sortedAll_old) (Nat.le_succ _) ⟨lenOk, out, e, vals_of_ints k1', he⟩, rfl, q _ _ k2 k3 (I.hok.fresh (Nat.le_succ _))⟩
end
end MPS
namespace MPS
open PySem PySem.Spec PyProof.Rows L2 PySem.W
variable [Tbs]
/-! repr of plain data -/
theorem call_reprD {X : Cx} (hg : X.A.guards = some []) (hu : X.A.units + 65 < cLine) : CallR X (.builtin "repr") fun vs H Q => ∃ (a : Addr) (ds : List PyData), vs = [.ref a] ∧ Dp X.K H (.ref a) (.tuple ds) ∧ (PyData.tuple ds).showable = true ∧ (PyData.tuple ds).hasDict = false ∧ (PyData.tuple ds).depth ≤ 60 ∧ (PyData.tuple ds).shown.length ≤ sizeLine ∧ Q (.str (PyData.tuple ds).shown) H := by
  intro pins s σ H xs us Q I r h
  obtain ⟨a, ds, rfl, hd, hs, hn, hp, hz, q⟩ := h
  obtain ⟨u, rfl, ru⟩ := vals1 r
  obtain ⟨as, r1⟩ := Dp.reads I (.tuple ds) (.ref a) u hd ru
  obtain rfl : u = Value.ref a := ru
  exact repr_of_reads' r1 hs (PyData.noDict_hsm hn) hg (by omega) (fun _ _ e => e) (fun h' u tk hk => ⟨.str _, H, I.kept hk, ⟨_, rfl⟩, q⟩) hz
theorem cps_str (s : String) : (Str.ofString s).cps.toList = MP.cpsOf s := by
  rw [Str.ofString_eq_toList]
  rfl
theorem str_app (a b : Str) : (a ++ b).cps.toList = a.cps.toList ++ b.cps.toList := by
  show (a.cps ++ b.cps).toList = _
  simp
theorem join_cps : ∀ ts : List Str, (Str.join (Str.ofString ", ") ts).cps.toList = MP.joinN (ts.map fun t => t.cps.toList)
  | [] => rfl
  | [x] => rfl
  | x :: y :: r => by
    show (x ++ Str.ofString ", " ++ Str.join (Str.ofString ", ") (y :: r)).cps.toList = _
    rw [str_app, str_app, cps_str, join_cps (y :: r)]
    rfl
mutual
theorem shown_shw : ∀ d : MP.D, d.rp = true → (toPy d).shown.cps.toList = d.shw
  | .non, _ => by
    show (Str.ofString "None").cps.toList = MP.cpsOf "None"
    exact cps_str _
  | .bl b, _ => by
    cases b
    · exact cps_str "False"
    · exact cps_str "True"
  | .int i, _ => by
    show (Str.ofString (toString i)).cps.toList = MP.cpsOf (toString i)
    exact cps_str _
  | .tup xs, h => by
    have e := shown_shws xs h
    have l : (PyData.shownAll (toPys xs)).length = xs.length := by
      have := congrArg List.length e
      rw [List.length_map] at this
      rw [this]
      exact shws_len xs
    show (tupleText (PyData.shownAll (toPys xs))).cps.toList = MP.cpsOf "(" ++ MP.joinN (MP.D.shws xs) ++ MP.cpsOf (if xs.length == 1 then ",)" else ")")
    unfold tupleText
    rw [str_app, str_app, l, ← e]
    show (Str.ofString "(").cps.toList ++ (Str.join (Str.ofString ", ") _).cps.toList ++ (Str.ofString (if xs.length == 1 then ",)" else ")")).cps.toList = _
    rw [cps_str, cps_str, join_cps]
  | .und, h => by simp [MP.D.rp] at h
  | .str _, h => by simp [MP.D.rp] at h
  | .lst _, h => by simp [MP.D.rp] at h
  | .frz _, h => by simp [MP.D.rp] at h
  | .ref _, h => by simp [MP.D.rp] at h
  | .clo _ _, h => by simp [MP.D.rp] at h
theorem shown_shws : ∀ xs : List MP.D, MP.D.rps xs = true → (PyData.shownAll (toPys xs)).map (fun t => t.cps.toList) = MP.D.shws xs
  | [], _ => rfl
  | x :: xs, h => by
    simp only [MP.D.rps, Bool.and_eq_true] at h
    show (toPy x).shown.cps.toList :: (PyData.shownAll (toPys xs)).map (fun t => t.cps.toList) = MP.D.shw x :: MP.D.shws xs
    rw [shown_shw x h.1, shown_shws xs h.2]
theorem shws_len : ∀ xs : List MP.D, (MP.D.shws xs).length = xs.length
  | [] => rfl
  | x :: xs => by show (MP.D.shws xs).length + 1 = _; rw [shws_len xs]; rfl
end
theorem int_log {i : Int} (h : i.natAbs < 1000000000000000000000000000000) : i.natAbs.log2 < 1920 := by
  by_cases z : i.natAbs = 0
  · rw [z]; decide
  · rw [Nat.log2_lt z]
    exact Nat.lt_trans h (by decide)
mutual
theorem rp_show : ∀ d : MP.D, d.rp = true → (toPy d).showable = true ∧ (toPy d).hasDict = false ∧ (toPy d).leavesShort 31 = true ∧ (toPy d).bulk = d.bk
  | .non, _ => ⟨rfl, rfl, rfl, rfl⟩
  | .bl b, _ => ⟨rfl, rfl, rfl, rfl⟩
  | .int i, h => by
    have h' : i.natAbs < 1000000000000000000000000000000 := of_decide_eq_true h
    refine ⟨decide_eq_true (int_log h'), rfl, decide_eq_true ?_, rfl⟩
    show (Str.ofString (toString i)).length ≤ 31
    have a := int_text_length_le10 (a := i) (k := 30) (by decide) h'
    have b : (Str.ofString (toString i)).length = (toString i).length := by
      rw [Str.ofString_eq_toList]
      show ((toString i).toList.map Char.toNat).toArray.size = _
      rw [List.size_toArray, List.length_map, String.length_toList]
    omega
  | .tup xs, h => rps_show xs h
  | .und, h => by simp [MP.D.rp] at h
  | .str _, h => by simp [MP.D.rp] at h
  | .lst _, h => by simp [MP.D.rp] at h
  | .frz _, h => by simp [MP.D.rp] at h
  | .ref _, h => by simp [MP.D.rp] at h
  | .clo _ _, h => by simp [MP.D.rp] at h
theorem rps_show : ∀ xs : List MP.D, MP.D.rps xs = true → PyData.showableAll (toPys xs) = true ∧ PyData.hasDictAll (toPys xs) = false ∧ PyData.leavesShortAll 31 (toPys xs) = true ∧ PyData.bulkAll (toPys xs) = MP.D.bks xs
  | [], _ => ⟨rfl, rfl, rfl, rfl⟩
  | x :: xs, h => by
    simp only [MP.D.rps, Bool.and_eq_true] at h
    obtain ⟨a1, a2, a3, a4⟩ := rp_show x h.1
    obtain ⟨b1, b2, b3, b4⟩ := rps_show xs h.2
    refine ⟨?_, ?_, ?_, ?_⟩
    · show (PyData.showable (toPy x) && PyData.showableAll (toPys xs)) = true
      rw [a1, b1]; rfl
    · show (PyData.hasDict (toPy x) || PyData.hasDictAll (toPys xs)) = false
      rw [a2, b2]; rfl
    · show (PyData.leavesShort 31 (toPy x) && PyData.leavesShortAll 31 (toPys xs)) = true
      rw [a3, b3]; rfl
    · show PyData.bulk (toPy x) + 1 + PyData.bulkAll (toPys xs) = MP.D.bk x + 1 + MP.D.bks xs
      rw [a4, b4]
end
end MPS
namespace MPS
open PySem PySem.Spec PyProof.Rows L2 PySem.W
variable [Tbs]
/-- the built-ins that are called by a name with values: the name, the value -/
def plainF : MP.Blt → Option (Str × Value)
  | .len => some ("len", .builtin "len")
  | .abs => some ("abs", .builtin "abs")
  | .int => some ("int", .type "int")
  | .tuple => some ("tuple", .type "tuple")
  | .list _ => some ("list", .type "list")
  | .min2 => some ("min", .builtin "min")
  | .max2 => some ("max", .builtin "max")
  | .minL => some ("min", .builtin "min")
  | .maxL => some ("max", .builtin "max")
  | .sumL => some ("sum", .builtin "sum")
  | .sorted _ => some ("sorted", .builtin "sorted")
  | .all => some ("all", .builtin "all")
  | .any => some ("any", .builtin "any")
  | _ => none
section
variable {X : Cx} {m : Pl} {H : Hp} {h : MP.Heap} {Q : VK} {Z : Nat → Hp → Prop}
theorem items_str {d : MP.D} {xs : List MP.D} (e : MP.items h d = some xs) : ∀ s, d ≠ .str s := fun s z => by subst z; simp [MP.items] at e
theorem sortOf_cases {d : MP.D} {es : List MP.D} (e : MP.sortOf h d = some es) : (∃ xs ns, d = .tup xs ∧ MP.intsOf xs = some ns ∧ es = (MP.sortI ns).map .int) ∨ (MP.rlist h d).bind MP.sortD = some es := by
  cases d with
  | tup xs =>
    simp only [MP.sortOf, Option.map_eq_some_iff] at e
    obtain ⟨ns, e1, rfl⟩ := e
    exact .inl ⟨xs, ns, rfl, e1, rfl⟩
  | _ => exact .inr e
theorem opF_sound {f : MP.Blt} {x : Str} {fv : Value} {ds : List MP.D} {vs : List V} (hf : plainF f = some (x, fv)) (hc : X.calm = true) (hw : X.w = Tbs.w) (hu : X.A.units + 65 < cLine) (hr : HR X.K m h H) (r : Rels X.K m H ds vs)
    (g : Gd X.K (Rel X.K) m H (MP.opF f ds h) Q Z) : CallV X fv vs H Q := by
  unfold MP.opF at g
  split at g
  -- len of a text
  · cases hf
    split at g
    · rename_i hz
      cases r with
      | cons r1 r2 =>
      cases r2
      cases r1 with
      | str x =>
      exact .of call_len ⟨_, _, rfl, ⟨hz, rfl⟩, g.here hr (.int _)⟩
    · exact g.elim
  -- len of a place
  · cases hf
    cases r with
    | cons r1 r2 =>
    cases r2
    have r1' := r1
    cases r1 with
    | ref h1 =>
    split at g
    · rename_i e2
      obtain ⟨a, ks, e3, e4, rk⟩ := hr.dic e2
      rw [h1] at e3; cases e3
      intro pins s σ us I rus
      cases rus with
      | cons q1 q2 =>
      cases q2
      cases q1
      have := g.here hr (.int _)
      rw [rk.length] at this
      exact d_len I (.inl e4) fun t s' I' => ⟨.int _, H, I', ⟨t, rfl⟩, this⟩
    · rename_i e2
      obtain ⟨a, ks, e3, e4, rk⟩ := hr.dct e2
      rw [h1] at e3; cases e3
      intro pins s σ us I rus
      cases rus with
      | cons q1 q2 =>
      cases q2
      cases q1
      have := g.here hr (.int _)
      rw [rk.length] at this
      obtain ⟨hs, hz, dd⟩ := dct_of I hw e4 rk
      exact call_len_dictH hs dd (by rw [sizeLine_eq] at hz; omega) ⟨.int _, H, I.tok _, ⟨_, rfl⟩, this⟩
    · obtain ⟨ys, e, g⟩ := g.optBind
      obtain ⟨a, us, e0, hs, q⟩ := items_rel hr r1' e
      cases e0
      refine .of call_len_seq ⟨_, _, rfl, hs, ?_⟩
      have := g.here hr (.int _)
      rw [q.length] at this
      exact this
  -- len
  · cases hf
    obtain ⟨ys, e, g⟩ := g.optBind
    cases r with
    | cons r1 r2 =>
    cases r2
    obtain ⟨a, us, rfl, hs, q⟩ := items_rel hr r1 e
    refine .of call_len_seq ⟨_, _, rfl, hs, ?_⟩
    have := g.here hr (.int _)
    rw [q.length] at this
    exact this
  -- abs
  · cases hf
    cases r with
    | cons r1 r2 =>
    cases r2
    cases r1
    exact .of call_abs ⟨_, rfl, g.here hr (.int _)⟩
  -- int
  · cases hf
    cases r with
    | cons r1 r2 =>
    cases r2
    cases r1
    exact .of call_int1 (.inl ⟨_, rfl, g.here hr (.int _)⟩)
  · cases hf
    cases r with
    | cons r1 r2 =>
    cases r2
    cases r1
    exact .of call_int1 (.inr ⟨_, rfl, g.here hr (.int _)⟩)
  -- tuple
  · cases hf
    cases r with
    | cons r1 r2 =>
    cases r2
    cases r1 with
    | tup h1 q =>
    exact .of call_tuple_of ⟨_, _, rfl, .inr ⟨h1, g.here hr (.tup h1 q)⟩⟩
  · cases hf
    obtain ⟨ys, e, g⟩ := g.optBind
    cases r with
    | cons r1 r2 =>
    cases r2
    obtain ⟨a, us, rfl, hs, q⟩ := items_rel hr r1 e
    rcases hs with hs | hs
    · exact .of call_tuple_of ⟨_, _, rfl, .inl ⟨hs, fun p hp => new_tup g hr q p hp⟩⟩
    · exact .of call_tuple_of ⟨_, _, rfl, .inr ⟨hs, g.here hr (.tup hs q)⟩⟩
  -- list
  · cases hf
    obtain ⟨ys, e, g⟩ := g.optBind
    cases r with
    | cons r1 r2 =>
    cases r2
    obtain ⟨a, us, rfl, hs, q⟩ := items_rel hr r1 e
    exact .of call_list_of ⟨_, _, rfl, hs, (new_lst g hr q).2⟩
  · cases hf
  · cases hf
  -- min, max of two
  · cases hf
    cases r with
    | cons r1 r2 =>
    cases r2 with
    | cons r2 r3 =>
    cases r3
    cases r1; cases r2
    exact .of (call_min2 hc) ⟨_, _, rfl, g.here hr (.int _)⟩
  · cases hf
    cases r with
    | cons r1 r2 =>
    cases r2 with
    | cons r2 r3 =>
    cases r3
    cases r1; cases r2
    exact .of (call_max2 hc) ⟨_, _, rfl, g.here hr (.int _)⟩
  -- min, max of many
  · cases hf
    obtain ⟨ns, e, g⟩ := g.optBind
    simp only [Option.bind_eq_some_iff] at e
    obtain ⟨ys, e1, e2⟩ := e
    cases r with
    | cons r1 r2 =>
    cases r2
    obtain ⟨a, us, rfl, hs, q⟩ := items_rel hr r1 e1
    have := q.intsOf e2; subst this
    split at g
    · exact g.elim
    · exact .of (call_minI hc hu) ⟨_, _, _, rfl, hs, g.here hr (.int _)⟩
  · cases hf
    obtain ⟨ns, e, g⟩ := g.optBind
    simp only [Option.bind_eq_some_iff] at e
    obtain ⟨ys, e1, e2⟩ := e
    cases r with
    | cons r1 r2 =>
    cases r2
    obtain ⟨a, us, rfl, hs, q⟩ := items_rel hr r1 e1
    have := q.intsOf e2; subst this
    split at g
    · exact g.elim
    · exact .of (call_maxI hc hu) ⟨_, _, _, rfl, hs, g.here hr (.int _)⟩
  -- sum
  · cases hf
    obtain ⟨ns, e, g⟩ := g.optBind
    simp only [Option.bind_eq_some_iff] at e
    obtain ⟨ys, e1, e2⟩ := e
    cases r with
    | cons r1 r2 =>
    cases r2
    obtain ⟨a, us, rfl, hs, q⟩ := items_rel hr r1 e1
    have := q.intsOf e2; subst this
    rcases hs with hs | hs
    · exact .of (cr_sum hc) ⟨_, _, rfl, hs, g.here hr (.int _)⟩
    · exact .of (cr_sumT hc) ⟨_, _, rfl, hs, g.here hr (.int _)⟩
  -- sorted
  · cases hf
    obtain ⟨es, e, g⟩ := g.optBind
    cases r with
    | cons r1 r2 =>
    cases r2
    rcases sortOf_cases e with ⟨xs, ns, rfl, e1, rfl⟩ | e
    · cases r1 with
      | tup h1 q =>
      have := q.intsOf e1; subst this
      refine .of cr_sortedIT ⟨_, _, rfl, h1, fun ns' p hp hw hn => ?_⟩
      have e3 : ns' = MP.sortI ns := sorted_unique (hp.trans (sortI_perm ns).symm) hw (sortI_sorted ns)
      subst e3
      exact (new_lst g hr (rels_ints _)).2 p hn
    simp only [Option.bind_eq_some_iff] at e
    obtain ⟨ys, e1, e2⟩ := e
    obtain ⟨a, us, rfl, hs, q⟩ := rlist_rel hr r1 e1
    unfold MP.sortD at e2
    split at e2
    · rename_i ns e3
      cases e2
      have := q.intsOf e3; subst this
      refine .of cr_sortedI ⟨_, _, rfl, .of hs, fun ns' p hp hw hn => ?_⟩
      have e3 : ns' = MP.sortI ns := sorted_unique (hp.trans (sortI_perm ns).symm) hw (sortI_sorted ns)
      subst e3
      exact (new_lst g hr (rels_ints _)).2 p hn
    · simp only [Option.bind_eq_some_iff] at e2
      obtain ⟨ts, e4, e5⟩ := e2
      have := tupsI_eq e4; subst this
      cases ts with
      | nil => cases e5
      | cons t ts =>
        dsimp only at e5
        split at e5
        · rename_i hh
          cases e5
          rw [Bool.and_eq_true, Bool.and_eq_true, decide_eq_true_eq, decide_eq_true_eq] at hh
          obtain ⟨⟨h64, h1⟩, ha⟩ := hh
          have al : ∀ ns ∈ t :: ts, ns.length = t.length ∧ ∀ i ∈ ns, 0 ≤ i := fun ns hn => by
            have := List.all_eq_true.mp ha ns hn
            rw [Bool.and_eq_true, decide_eq_true_eq, List.all_eq_true] at this
            exact ⟨this.1, fun i hi => of_decide_eq_true (this.2 i hi)⟩
          obtain ⟨B, hB⟩ := bd_ex (t :: ts) fun ns hn => (al ns hn).2
          have AL : AlkT t.length B (t :: ts) := fun ns hn => ⟨(al ns hn).1, hB ns hn⟩
          refine .of (cr_sortT (B := B) h1) ⟨_, _, rfl, .of hs, by rw [← q.length, List.length_map]; exact h64, fun x hx => ?_, fun ys p hp hw hn => ?_⟩
          · obtain ⟨ns, hn, i⟩ := rels_memT q x hx
            exact ⟨ns, i, AL ns hn⟩
          · obtain ⟨ts', p', r'⟩ := rels_permT hp.symm q
            have := sortT_uniq AL p' (rels_sortT r' hw)
            subst this
            exact (new_lst g hr r').2 p hn
        · cases e5
  -- sorted of a set, its length, repr
  · cases hf
  · cases hf
  · cases hf
  -- all, any
  · cases hf
    obtain ⟨bs, e, g⟩ := g.optBind
    simp only [Option.bind_eq_some_iff] at e
    obtain ⟨ys, e1, e2⟩ := e
    cases r with
    | cons r1 r2 =>
    cases r2
    obtain ⟨a, us, rfl, hs, q⟩ := rlist_rel hr r1 e1
    have := q.bools e2; subst this
    exact .of (cr_all hc) ⟨_, _, rfl, .of hs, g.here hr (.bl _)⟩
  · cases hf
    obtain ⟨bs, e, g⟩ := g.optBind
    simp only [Option.bind_eq_some_iff] at e
    obtain ⟨ys, e1, e2⟩ := e
    cases r with
    | cons r1 r2 =>
    cases r2
    obtain ⟨a, us, rfl, hs, q⟩ := rlist_rel hr r1 e1
    have := q.bools e2; subst this
    exact .of (cr_any hc) ⟨_, _, rfl, .of hs, g.here hr (.bl _)⟩
  · cases hf
  · exact g.elim

/-! ### isinstance -/
def tyN : MP.Ty → String
  | .int => "int" | .bool => "bool" | .tuple => "tuple" | .list => "list" | .str => "str" | .dict => "dict"
theorem kitB_all : ∀ (a b : MP.Ty), L2.kitB (tyN a) (tyN b) = some (decide (a = b ∨ (a = .bool ∧ b = .int))) := by
  intro a b
  cases a <;> cases b <;> decide +kernel
theorem kitB_non : ∀ (b : MP.Ty), L2.kitB "NoneType" (tyN b) = some false := by
  intro b
  cases b <;> decide +kernel
theorem tyX_of {d : MP.D} {v : V} (r : Rel X.K m H d v) {t : MP.Ty} {b : Bool} (e : MP.isTy t d = some b) : ∃ tv, TyX X.K H v tv ∧ PySem.W.kitOne X.K tv (.type (tyN t)) = some b := by
  cases r with
  | non => exact ⟨_, .base .non, kit_ty (by rw [kitB_non]; cases t <;> exact e)⟩
  | bl x => exact ⟨_, .base (.bl x), kit_ty (by rw [show ("bool" : String) = tyN .bool from rfl, kitB_all]; cases t <;> exact e)⟩
  | int x => exact ⟨_, .base (.int x), kit_ty (by rw [show ("int" : String) = tyN .int from rfl, kitB_all]; cases t <;> exact e)⟩
  | str x => exact ⟨_, .base (.str x), kit_ty (by rw [show ("str" : String) = tyN .str from rfl, kitB_all]; cases t <;> exact e)⟩
  | tup h1 q =>
    have k : PySem.W.kitOne X.K (.type "tuple") (.type (tyN t)) = some b := kit_ty (by rw [show ("tuple" : String) = tyN .tuple from rfl, kitB_all]; cases t <;> exact e)
    rcases h1 with (h1 | ⟨o, h1⟩) | ⟨o, its, n, h1, h2, _⟩
    · exact ⟨_, .base (.tup h1), k⟩
    · exact ⟨_, .fTuple h1, k⟩
    · exact ⟨_, .kTuple h1 h2, k⟩
  | lst h1 n _ q => exact ⟨_, .base (.lst h1), kit_ty (by rw [show ("list" : String) = tyN .list from rfl, kitB_all]; cases t <;> exact e)⟩
  | frz h1 q => simp [MP.isTy] at e
  | ref h1 => simp [MP.isTy] at e
theorem isinst_sound {t : MP.Ty} {d : MP.D} {v : V} (hr : HR X.K m h H) (r : Rel X.K m H d v) (g : Gd X.K (Rel X.K) m H (MP.opF (.isinst t) [d] h) Q Z) : CallV X (.builtin "isinstance") [v, .ty (tyN t)] H Q := by
  have main : ∀ b, MP.isTy t d = some b → Q (.bl b) H → CallV X (.builtin "isinstance") [v, .ty (tyN t)] H Q := fun b e q => by
    obtain ⟨tv, h1, h2⟩ := tyX_of r e
    exact .of call_isi ⟨_, _, tv, _, b, rfl, .ty _, h1, h2, q⟩
  cases d with
  | ref n =>
    simp only [MP.opF] at g
    split at g
    · rename_i xs e1
      cases r with
      | ref h1 =>
      obtain ⟨a, vs, e2, e3, r⟩ := hr.lst e1
      rw [h1] at e2; cases e2
      refine .of call_isi ⟨_, _, .type "list", _, decide (t = .list), rfl, .ty _, .base (.lst e3), kit_ty (by rw [show ("list" : String) = tyN .list from rfl, kitB_all]; cases t <;> rfl), g.here hr (.bl _)⟩
    · exact g.elim
  | _ =>
    simp only [MP.opF] at g
    obtain ⟨b, e, g⟩ := g.optBind
    exact main b e (g.here hr (.bl _))
end
end MPS
namespace MPS
open PySem PySem.Spec PyProof.Rows L2 PySem.W
variable [Tbs]
def mtN : MP.Mth → Str
  | .append => "append" | .extend => "extend" | .pop => "pop" | .popAt => "pop" | .insert => "insert" | .index => "index" | .remove => "remove" | .count => "count"
def mtI : MP.Mth → String
  | .append => "list.append" | .extend => "list.extend" | .pop => "list.pop" | .popAt => "list.pop" | .insert => "list.insert" | .index => "list.index" | .remove => "list.remove" | .count => "list.count"
theorem mt_slot : ∀ f : MP.Mth, Slot "list" (mtN f) (mtI f)
  | .append => PySem.F.slot_list_append
  | .extend => PySem.F.slot_list_extend
  | .pop => PySem.F.slot_list_pop
  | .popAt => PySem.F.slot_list_pop
  | .insert => PySem.F.slot_list_insert
  | .index => PySem.F.slot_list_index
  | .remove => PySem.F.slot_list_remove
  | .count => PySem.F.slot_list_count
theorem mt_type : ∀ f : MP.Mth, typeOf (.builtin (mtI f)) = pure (.type "method_descriptor")
  | .append => PySem.F.type_list_append
  | .extend => PySem.F.type_list_extend
  | .pop => PySem.F.type_list_pop
  | .popAt => PySem.F.type_list_pop
  | .insert => PySem.F.type_list_insert
  | .index => PySem.F.type_list_index
  | .remove => PySem.F.type_list_remove
  | .count => PySem.F.type_list_count
def MtV (X : Cx) (id : String) : V → List V → Hp → VK → Prop := fun x xs H Q => ∀ (pins : List (Addr × Obj)) (s : Shared) (σ : L2.St) (v : Value) (us : List Value), Inv X pins σ H s → RelV x v → Vals xs us →
  wpAny (model X.prog X.w) X.A (call (.builtin id) (v :: us)) (EP X pins σ Q) X.xe s
theorem mtV (X : Cx) (id : String) : MtR X id (MtV X id) := fun pins s σ H x xs v us Q I rx r h => h pins s σ v us I rx r
theorem MtV.of {X : Cx} {id : String} {r : V → List V → Hp → VK → Prop} (ho : MtR X id r) {x : V} {xs : List V} {H : Hp} {Q : VK} (h : r x xs H Q) : MtV X id x xs H Q := fun pins s σ v us I rx rr => ho pins s σ H x xs v us Q I rx rr h
section
variable {X : Cx} {m : Pl} {H : Hp} {h : MP.Heap} {Q : VK} {Z : Nat → Hp → Prop}
/-- a list of the small heap is rewritten -/
theorem HR.wlst {K : PySem.W.Frag} (hr : HR K m h H) {n : Nat} {a : Addr} {ys : List MP.D} {us : List V} (hn : m.at_[n]? = some a) (r : Rels K m H ys us) : Kp m H m (upd H a (.lst us)) ∧ HR K m (MP.setO h n ys) (upd H a (.lst us)) := by
  have k : Kp m H m (upd H a (.lst us)) := .write (List.mem_of_getElem? hn)
  exact ⟨k, hr.write hn ⟨us, upd_same, r.keep hr.mut k⟩⟩
theorem Gd.wrote {d : MP.D} {v : V} {n : Nat} {a : Addr} {ys : List MP.D} {us : List V} (g : Gd X.K (Rel X.K) m H (.ok d (MP.setO h n ys)) Q Z) (hr : HR X.K m h H) (hn : m.at_[n]? = some a) (r : Rels X.K m H ys us) (rd : Rel X.K m H d v) : Q v (upd H a (.lst us)) := by
  obtain ⟨k, hr'⟩ := hr.wlst hn r
  exact g v m _ k hr' (rd.keep hr.mut k)
theorem opM_sound {f : MP.Mth} {d : MP.D} {v : V} {ds : List MP.D} {vs : List V} (hr : HR X.K m h H) (r : Rel X.K m H d v) (rs : Rels X.K m H ds vs) (g : Gd X.K (Rel X.K) m H (MP.opM f d ds h) Q Z) : tyV X.K "list" v H ∧ MtV X (mtI f) v vs H Q := by
  unfold MP.opM at g
  split at g
  · split at g
    · rename_i n _ xs e1
      cases r with
      | ref h1 =>
      obtain ⟨a, us, e2, e3, q⟩ := hr.lst e1
      rw [h1] at e2; cases e2
      refine ⟨.inl ⟨rfl, _, .of e3⟩, ?_⟩
      split at g
      · split at g
        · rename_i hz
          cases rs with
          | cons r1 r2 =>
          cases r2
          exact .of mt_append ⟨_, _, _, rfl, rfl, e3, by rw [← q.length]; exact hz, g.wrote hr h1 (q.append (.cons r1 .nil)) .non⟩
        · exact g.elim
      · split at g
        · rename_i ys e4
          split at g
          · rename_i hz
            cases rs with
            | cons r1 r2 =>
            cases r2
            obtain ⟨b, ws, rfl, e5, q2⟩ := rlist_rel hr r1 e4
            exact .of mt_extend ⟨_, _, _, _, rfl, rfl, e3, e5, by rw [← q.length, ← q2.length]; exact hz, g.wrote hr h1 (q.append q2) .non⟩
          · exact g.elim
        · exact g.elim
      · split at g
        · rename_i y e4
          cases rs
          obtain ⟨w, e5, r5⟩ := q.get e4
          refine .of mt_pop ⟨_, _, w, rfl, rfl, e3, by rw [← q.length]; exact e5, g.wrote hr h1 q.dropLast r5⟩
        · exact g.elim
      · split at g
        · rename_i hb
          split at g
          · rename_i k e4
            split at g
            · rename_i y e5
              cases rs with
              | cons r1 r2 =>
              cases r2
              cases r1
              obtain ⟨w, e6, r6⟩ := q.get e5
              simp only [MP.big62, Bool.and_eq_true, decide_eq_true_eq] at hb
              have e7 := (ixN_seq (show L2.ixN xs.length _ = some k from e4)).1
              rw [q.length] at e7
              exact .of mt_popAt ⟨_, _, _, k, w, rfl, rfl, e3, by omega, by omega, e7, e6, g.wrote hr h1 (q.erase k) r6⟩
            · exact g.elim
          · exact g.elim
        · exact g.elim
      · split at g
        · rename_i hb
          cases rs with
          | cons r1 r2 =>
          cases r2 with
          | cons r2 r3 =>
          cases r3
          cases r1
          simp only [MP.big62, Bool.and_eq_true, decide_eq_true_eq] at hb
          refine .of mt_insert ⟨_, _, _, _, rfl, rfl, e3, by rw [← q.length]; exact hb.2, by omega, by omega, g.wrote hr h1 ?_ .non⟩
          exact ((q.take _).append (.cons r2 .nil)).append (q.drop _)
        · exact g.elim
      · exact g.elim
    · exact g.elim
  · exact g.elim
/-! ### a store into a list -/
def SetV (X : Cx) : TSet := fun o i v H Q => ∀ (pins : List (Addr × Obj)) (s : Shared) (σ : L2.St) (ov iv u : Value), Inv X pins σ H s → RelV o ov → RelV i iv → RelV v u → wpAny (model X.prog X.w) X.A (setItem ov iv u) (fun _ s' => ∃ H', Inv X pins σ H' s' ∧ Q H') X.xe s
theorem setV (X : Cx) : PSet X (SetV X) := fun pins s σ H o i v ov iv u Q I ro ri rv h => h pins s σ ov iv u I ro ri rv
theorem SetV.of {X : Cx} {t : TSet} (ho : PSet X t) {o i v : V} {H : Hp} {Q : Hp → Prop} (h : t o i v H Q) : SetV X o i v H Q := fun pins s σ ov iv u I ro ri rv => ho pins s σ H o i v ov iv u Q I ro ri rv h
theorem setL_sound {o i d : MP.D} {ov iv v : V} {Q : Unit → Hp → Prop} (hr : HR X.K m h H) (r1 : Rel X.K m H o ov) (r2 : Rel X.K m H i iv) (r3 : Rel X.K m H d v)
    (g : Gd X.K (fun _ _ (_ : Unit) (_ : Unit) => True) m H (MP.setL o i d h) Q Z) : SetV X ov iv v H (Q ()) := by
  unfold MP.setL at g
  split at g
  · split at g
    · rename_i xs e1
      split at g
      · rename_i j e4
        cases r2
        cases r1 with
        | ref h1 =>
        obtain ⟨a, us, e2, e3, q⟩ := hr.lst e1
        rw [h1] at e2; cases e2
        refine .of set_list ⟨_, _, _, j, rfl, rfl, e3, by rw [← q.length]; exact e4, ?_⟩
        obtain ⟨k, hr'⟩ := hr.wlst h1 (q.set r3 j)
        exact g () m _ k hr' trivial
      · exact g.elim
    · exact g.elim
  · exact g.elim
theorem HR.wdic {K : PySem.W.Frag} (hr : HR K m h H) {n : Nat} {a : Addr} {kvs : List (MP.D × MP.D)} {ks : List (Key × V)} (hn : m.at_[n]? = some a) (r : KR K m H kvs ks) : Kp m H m (upd H a (.dK ks)) ∧ HR K m (h.set n (.dic kvs)) (upd H a (.dK ks)) := by
  have k : Kp m H m (upd H a (.dK ks)) := .write (List.mem_of_getElem? hn)
  exact ⟨k, hr.write hn ⟨ks, upd_same, r.keepW hr.mut k.w⟩⟩
theorem HR.wdct {K : PySem.W.Frag} (hr : HR K m h H) {n : Nat} {a : Addr} {kvs : List (MP.D × MP.D)} {xs : List (NestedKey × Addr × Value)} (hn : m.at_[n]? = some a) (r : NR K m H kvs xs) : Kp m H m (upd H a (dctO a xs)) ∧ HR K m (h.set n (.dct kvs)) (upd H a (dctO a xs)) := by
  have k : Kp m H m (upd H a (dctO a xs)) := .write (List.mem_of_getElem? hn)
  exact ⟨k, hr.write hn ⟨xs, upd_same, r.keepW hr.mut k.w⟩⟩
theorem setJ_sound {o i d : MP.D} {ov iv v : V} {Q : Unit → Hp → Prop} (hw : X.w = Tbs.w) (hu : X.A.units + 65 < cLine) (hr : HR X.K m h H) (r1 : Rel X.K m H o ov) (r2 : Rel X.K m H i iv) (r3 : Rel X.K m H d v)
    (g : Gd X.K (fun _ _ (_ : Unit) (_ : Unit) => True) m H (MP.setJ o i d h) Q Z) : SetV X ov iv v H (Q ()) := by
  unfold MP.setJ at g
  split at g
  · split at g
    · rename_i n i _ kvs e2
      split at g
      · rename_i hz
        cases r2
        cases r1 with
        | @ref a0 _ h1 =>
        obtain ⟨a, ks, e3, e4, rk⟩ := hr.dic e2
        rw [h1] at e3; cases e3
        intro pins s σ ov iv u I ro ri ru
        obtain rfl : ov = Value.ref a0 := ro
        refine d_setItem (y := .int i) (v := v) (by omega) I (.k (k := .inl i) e4 (by rw [← rk.length]; exact hz)) ri ru fun s' I' => ⟨_, I', ?_⟩
        obtain ⟨k, hr'⟩ := hr.wdic h1 (rk.put (i := i) r3)
        exact g () m _ k hr' trivial
      · exact g.elim
    · exact setL_sound hr r1 r2 r3 g
  · split at g
    · rename_i n ys _ kvs e2
      split at g
      · rename_i hz
        rw [Bool.and_eq_true, decide_eq_true_eq] at hz
        have r2' := r2
        cases r2 with
        | @tup b _ _ _ _ =>
        cases r1 with
        | @ref a0 _ h1 =>
        obtain ⟨a, ks, e3, e4, rk⟩ := hr.dct e2
        rw [h1] at e3; cases e3
        intro pins s σ ov iv u I ro ri ru
        obtain rfl : ov = Value.ref a0 := ro
        refine dct_setItem (u := u) hw (by omega) I e4 rk hz.2 r2' hz.1 ri fun s' I' => ⟨_, I', ?_⟩
        obtain ⟨k, hr'⟩ := hr.wdct h1 (rk.put r2' hz.1 r3 ru)
        exact g () m _ k hr' trivial
      · exact g.elim
    · rename_i n ys _ e2
      split at g
      · rename_i hz
        have r2' := r2
        cases r2 with
        | @tup b _ _ _ _ =>
        cases r1 with
        | @ref a0 _ h1 =>
        obtain ⟨a, ks, e3, e4, rk⟩ := hr.dic e2
        rw [h1] at e3; cases e3
        cases rk
        intro pins s σ ov iv u I ro ri ru
        obtain rfl : ov = Value.ref a0 := ro
        refine dct_setItem0 (u := u) hw (by omega) I e4 r2' hz ri fun s' I' => ⟨_, I', ?_⟩
        obtain ⟨k, hr'⟩ := hr.wdct h1 (.cons r2' hz r3 ru .nil)
        exact g () m _ k hr' trivial
      · exact g.elim
    · exact g.elim
  · exact setL_sound hr r1 r2 r3 g
end
end MPS
namespace MPS
open PySem PySem.Spec PyProof.Rows L2 PySem.W
variable [Tbs]
/-! ### which text a term stands for -/
/-- the names of a text: its defs, its constants, its exceptions, the built-ins that it calls -/
structure Tb where
  fn : List Str
  gn : List Str
  cn : List Str
  bl : List Str
  sb : List (Nat × Nat) := []
  lm : List (Str × List (Nat × List Nat × MP.D) × MP.D) := []
/-- the mark of a def that makes lambdas -/
abbrev LAM : Str := "<lambda>"
/-- the mark of a def that is called by nobody but the outside, and may ask for repr -/
abbrev RPR : Str := "<repr>"
def visB (sc : Scope) (x : Str) : Bool := match sc.names.lookup x with
  | some .local => true
  | some .cell => true
  | some .free => true
  | _ => false
def locB (sc : Scope) (x : Str) : Bool := (!(x == LAM) && !(x == RPR)) && match sc.names.lookup x with
  | some .local => true
  | some .cell => true
  | _ => false
def glB (sc : Scope) (x : Str) : Bool := decide (sc.names.lookup x = some .globalImplicit)
def nmB (x : Str) : Bool := !(x == ("__debug__" : Str)) && !(x == ("__classdict__" : Str)) && decide (x ≠ ("__name__" : Str))
/-- which names a comprehension's block keeps in cells -/
abbrev cfb (scope : Scope) : Str → Bool := fun x => (!(x == LAM) && !(x == RPR)) && scope.names.lookup x == some .cell
section
variable (tb : Tb) (N : List Str)
mutual
inductive TrT : Scope → (Str → Bool) → MP.E → Expr → Prop
  | var {sc fb i x pos} (h : N[i]? = some x) (l : locB sc x = true) (f : fb x = true ∨ sc.names.lookup x = some .local) : TrT sc fb (.var i) (.Name x pos)
  | tup {sc fb es pes k pos} (h : TrTs sc fb es pes) : TrT sc fb (.tup es) (.Tuple pes k pos)
inductive TrTs : Scope → (Str → Bool) → MP.E → List Expr → Prop
  | nil {sc fb} : TrTs sc fb .nil []
  | cons {sc fb a r pa pr} (h : TrT sc fb a pa) (q : TrTs sc fb r pr) : TrTs sc fb (.cons a r) (pa :: pr)
end
mutual
inductive TrE : Scope → (Str → Bool) → MP.E → Expr → Prop
  | var {sc fb i x pos} (h : N[i]? = some x) (v : visB sc x = true) (n : nmB x = true) : TrE sc fb (.var i) (.Name x pos)
  | dct0 {sc fb pos} : TrE sc fb .dct0 (.Dict [] [] pos)
  | non {sc fb k pos} : TrE sc fb (.con .non) (.Constant .none k pos)
  | bl {sc fb b k pos} : TrE sc fb (.con (.bl b)) (.Constant (.bool b) k pos)
  | int {sc fb i k pos} : TrE sc fb (.con (.int i)) (.Constant (.int i) k pos)
  | str {sc fb} {x : Str} {k pos} : TrE sc fb (.con (.str x.cps.toList)) (.Constant (.str x) k pos)
  | glo {sc fb j x pos} (h : tb.gn[j]? = some x) (g : glB sc x = true) (n : nmB x = true) : TrE sc fb (.glo j) (.Name x pos)
  | tup {sc fb es pes k pos} (h : TrA sc fb es pes) (hz : pes.length ≤ 1000) : TrE sc fb (.tup es) (.Tuple pes k pos)
  | lst {sc fb imm es pes pos} (h : TrA sc fb es pes) : TrE sc fb (.lst imm es) (.List pes pos)
  | bin {sc fb o a b pa pb pos} (ha : TrE sc fb a pa) (hb : TrE sc fb b pb) : TrE sc fb (.bin o a b) (.BinOp pa (bop o) pb pos)
  | neg {sc fb a pa pos} (ha : TrE sc fb a pa) : TrE sc fb (.neg a) (.UnaryOp .USub pa pos)
  | cmp {sc fb o a b pa pb pos} (ha : TrE sc fb a pa) (hb : TrE sc fb b pb) : TrE sc fb (.cmp o a b) (.Compare pa [cop o] [pb] pos)
  | chn {sc fb o p a b c pa pb pc pos} (ha : TrE sc fb a pa) (hb : TrE sc fb b pb) (hc : TrE sc fb c pc) : TrE sc fb (.chn o p a b c) (.Compare pa [cop o, cop p] [pb, pc] pos)
  | and2 {sc fb a r pa pb ps pos} (ha : TrE sc fb a pa) (hr : TrE sc fb r (.BoolOp .And (pb :: ps) pos)) : TrE sc fb (.and2 a r) (.BoolOp .And (pa :: pb :: ps) pos)
  | or2 {sc fb a r pa pb ps pos} (ha : TrE sc fb a pa) (hr : TrE sc fb r (.BoolOp .Or (pb :: ps) pos)) : TrE sc fb (.or2 a r) (.BoolOp .Or (pa :: pb :: ps) pos)
  | one {sc fb a op pa pos} (ha : TrE sc fb a pa) : TrE sc fb (.one a) (.BoolOp op [pa] pos)
  | nt {sc fb a pa pos} (ha : TrE sc fb a pa) : TrE sc fb (.nt a) (.UnaryOp .Not pa pos)
  | ite {sc fb c a b pc pa pb pos} (hc : TrE sc fb c pc) (ha : TrE sc fb a pa) (hb : TrE sc fb b pb) : TrE sc fb (.ite c a b) (.IfExp pc pa pb pos)
  | dct1 {sc fb k v pk pv pos} (hk : TrE sc fb k pk) (hv : TrE sc fb v pv) : TrE sc fb (.dct1 k v) (.Dict [some pk] [pv] pos)
  | lamc {sc fb hs d0 e x params body scope p lpos pos} (h : (x, hs, d0) ∈ tb.lm) (g : glB sc x = true) (n : nmB x = true) (l : fb LAM = true) (ls : LamX.lamSB sc scope = true) (hp : params = ⟨[], [], none, [], [], none, []⟩) (hb : TrE scope (fun _ => false) e body) : TrE sc fb (.lamc hs d0 e) (.Call (.Name x p) [.Lambda params body scope lpos] [] pos)
  | idx {sc fb a b pa pb pos} (ha : TrE sc fb a pa) (hb : TrE sc fb b pb) : TrE sc fb (.idx a b) (.Subscript pa pb pos)
  | slc {sc fb imm a lo hi pa pl ph p2 pos} (ha : TrE sc fb a pa) (hl : TrO sc fb lo pl) (hh : TrO sc fb hi ph) : TrE sc fb (.slc imm a lo hi) (.Subscript pa (.Slice pl ph none p2) pos)
  | rev {sc fb imm a pa k p1 p2 p3 pos} (ha : TrE sc fb a pa) : TrE sc fb (.rev imm a) (.Subscript pa (.Slice none none (some (.UnaryOp .USub (.Constant (.int 1) k p1) p2)) p3) pos)
  | call {sc fb f x es pe pes p pos} (h : tb.fn[f]? = some x) (g : glB sc x = true) (n : nmB x = true) (ha : TrA sc fb es (pe :: pes)) : TrE sc fb (.call f es) (.Call (.Name x p) (pe :: pes) [] pos)
  | blt {sc fb f x fv es pe pes p pos} (h : plainF f = some (x, fv)) (m : x ∈ tb.bl) (g : glB sc x = true) (ha : TrA sc fb es (pe :: pes)) : TrE sc fb (.blt f es) (.Call (.Name x p) (pe :: pes) [] pos)
  | isi {sc fb t a pa p p2 pos} (m : ("isinstance" : Str) ∈ tb.bl) (g : glB sc "isinstance" = true) (m2 : Str.ofString (tyN t) ∈ tb.bl) (g2 : glB sc (Str.ofString (tyN t)) = true) (ha : TrE sc fb a pa) :
      TrE sc fb (.blt (.isinst t) (.cons a .nil)) (.Call (.Name "isinstance" p) [pa, .Name (Str.ofString (tyN t)) p2] [] pos)
  | lrg {sc fb imm es pes p p2 p3 pos} (m : ("list" : Str) ∈ tb.bl) (g : glB sc "list" = true) (m2 : ("range" : Str) ∈ tb.bl) (g2 : glB sc "range" = true) (ha : TrA sc fb es pes) (hl : pes.length = 1 ∨ pes.length = 2) :
      TrE sc fb (.blt (.listR imm) es) (.Call (.Name "list" p) [.Call (.Name "range" p2) pes [] p3] [] pos)
  | rpr {sc fb a pa p pos} (m : ("repr" : Str) ∈ tb.bl) (g : glB sc "repr" = true) (l : fb RPR = true) (ha : TrE sc fb a pa) : TrE sc fb (.blt .repr (.cons a .nil)) (.Call (.Name "repr" p) [pa] [] pos)
  | sst {sc fb imm a pa p p2 p3 pos} (m : ("sorted" : Str) ∈ tb.bl) (g : glB sc "sorted" = true) (m2 : ("set" : Str) ∈ tb.bl) (g2 : glB sc "set" = true) (ha : TrE sc fb a pa) :
      TrE sc fb (.blt (.sortedSet imm) (.cons a .nil)) (.Call (.Name "sorted" p) [.Call (.Name "set" p2) [pa] [] p3] [] pos)
  | lns {sc fb a pa p p2 p3 pos} (m : ("len" : Str) ∈ tb.bl) (g : glB sc "len" = true) (m2 : ("set" : Str) ∈ tb.bl) (g2 : glB sc "set" = true) (ha : TrE sc fb a pa) :
      TrE sc fb (.blt .lenSet (.cons a .nil)) (.Call (.Name "len" p) [.Call (.Name "set" p2) [pa] [] p3] [] pos)
  | mth {sc fb f o es po pe pes apos pos} (ho : TrE sc fb o po) (ha : TrA sc fb es (pe :: pes)) (hl : (apos.endLine == pos.line) = true) (hn : decide ((pe :: pes).length < 30) = true) : TrE sc fb (.mth f o es) (.Call (.Attribute po (mtN f) apos) (pe :: pes) [] pos)
  | mth0 {sc fb f o po apos pos} (ho : TrE sc fb o po) (hl : (apos.endLine == pos.line) = true) : TrE sc fb (.mth f o .nil) (.Call (.Attribute po (mtN f) apos) [] [] pos)
  | lc {sc fb imm tg k ia c el ptg pit ifs pel scope own pos} (hi : TrI sc fb k ia ptg pit) (hb : blkC N sc scope own = true) (ho : own.map (·.2) = MP.tgI tg)
      (ht : TrT N (relS scope sc) (cfb scope) tg ptg) (hc : TrC (relS scope sc) (cfb scope) c ifs) (he : TrE (relS scope sc) (cfb scope) el pel) :
      TrE sc fb (.lc imm tg k ia c el) (.ListComp pel [⟨ptg, pit, ifs, 0⟩] scope pos)
  | lc2 {sc fb imm tg k ia c tg1 k1 ia1 c1 el ptg pit ifs ptg1 pit1 ifs1 pel scope own pos} (hi : TrI sc fb k ia ptg pit) (hb : blkC N sc scope own = true) (ho : own.map (·.2) = MP.tgI tg ++ MP.tgI tg1)
      (ht : TrT N (relS scope sc) (cfb scope) tg ptg) (hc : TrC (relS scope sc) (cfb scope) c ifs) (hi1 : TrI (relS scope sc) (cfb scope) k1 ia1 ptg1 pit1)
      (ht1 : TrT N (relS scope sc) (cfb scope) tg1 ptg1) (hc1 : TrC (relS scope sc) (cfb scope) c1 ifs1) (he : TrE (relS scope sc) (cfb scope) el pel) :
      TrE sc fb (.lc2 imm tg k ia c tg1 k1 ia1 c1 el) (.ListComp pel [⟨ptg, pit, ifs, 0⟩, ⟨ptg1, pit1, ifs1, 0⟩] scope pos)
inductive TrC : Scope → (Str → Bool) → MP.E → List Expr → Prop
  | none {sc fb} : TrC sc fb (.con (.bl true)) []
  | one {sc fb c pc} (h : TrE sc fb c pc) : TrC sc fb c [pc]
inductive TrA : Scope → (Str → Bool) → MP.E → List Expr → Prop
  | nil {sc fb} : TrA sc fb .nil []
  | cons {sc fb a r pa pr} (h : TrE sc fb a pa) (q : TrA sc fb r pr) : TrA sc fb (.cons a r) (pa :: pr)
inductive TrO : Scope → (Str → Bool) → MP.E → Option Expr → Prop
  | none {sc fb} : TrO sc fb (.con .und) none
  | some {sc fb a pa} (h : TrE sc fb a pa) : TrO sc fb a (some pa)
inductive TrI : Scope → (Str → Bool) → MP.ItK → MP.E → Expr → Expr → Prop
  | gen {sc fb a pa tg} (h : TrE sc fb a pa) : TrI sc fb .gen (.cons a .nil) tg pa
  | rng {sc fb es pes tg p pos} (m : ("range" : Str) ∈ tb.bl) (g : glB sc "range" = true) (h : TrA sc fb es pes) (hl : pes.length = 1 ∨ pes.length = 2) : TrI sc fb .rng es tg (.Call (.Name "range" p) pes [] pos)
  | enum {sc fb a pa ts kk tp p pos} (m : ("enumerate" : Str) ∈ tb.bl) (g : glB sc "enumerate" = true) (h : TrE sc fb a pa) : TrI sc fb .enum (.cons a .nil) (.Tuple ts kk tp) (.Call (.Name "enumerate" p) [pa] [] pos)
  | zip {sc fb a b pa pb ts kk tp p pos} (m : ("zip" : Str) ∈ tb.bl) (g : glB sc "zip" = true) (h : TrE sc fb a pa) (q : TrE sc fb b pb) : TrI sc fb .zip (.cons a (.cons b .nil)) (.Tuple ts kk tp) (.Call (.Name "zip" p) [pa, pb] [] pos)
end
end
section
variable (tb : Tb) (sc : Scope)
def conB : MP.D → Expr → Bool
  | .non, .Constant .none _ _ => true
  | .bl b, .Constant (.bool c) _ _ => b == c
  | .str s, .Constant (.str x) _ _ => decide (s = x.cps.toList)
  | .int i, .Constant (.int j) _ _ => decide (i = j)
  | _, _ => false
inductive TrH : List (Nat × List Nat × MP.D) → List ExceptHandler → Prop
  | nil : TrH [] []
  | cons {c l d hs x pc np p p2 hds} (h : tb.cn[c]? = some x) (g : glB sc x = true) (n : nmB x = true) (hl : ∀ i, i < tb.cn.length → l.contains i = tb.sb.contains (i, c)) (hc : conB d pc = true) (q : TrH hs hds) :
      TrH ((c, l, d) :: hs) (.ExceptHandler (some (.Name x np)) none [.Return (some pc) p] p2 :: hds)
end
/-! ### forms that never come -/
section
variable {tb : Tb} {N : List Str} {sc : Scope} {fb : Str → Bool} {e : MP.E} {pe : Expr}
theorem TrE.noset (h : TrE tb N sc fb e pe) (op : CmpOp) : behindInMarks op pe = false := by
  cases h <;> rfl
theorem TrE.nostar (h : TrE tb N sc fb e pe) (es : List Expr) (env : Env) : starEach (pe :: es) env = (false, eval pe env) :: starEach es env := by
  cases h <;> rfl
theorem TrE.plain (h : TrE tb N sc fb e pe) : PlainIx pe := by
  cases h <;> exact fun _ _ => rfl
theorem TrE.base (h : TrE tb N sc fb e pe) (x : Str) (env : Env) (w : Sem Value) : attributeBase pe x env w = w := by
  cases h <;> rfl
theorem TrE.fold (h : TrE tb N sc fb e pe) (env : Env) : ∀ x, foldedSetIterable pe env x = pure x := by
  cases h <;> exact fun _ => rfl
theorem TrI.fold {k : MP.ItK} {ia : MP.E} {tg pi : Expr} (h : TrI tb N sc fb k ia tg pi) (env : Env) : ∀ x, foldedSetIterable pi env x = pure x := by
  cases h with
  | gen h => exact h.fold env
  | _ => exact fun _ => rfl
theorem TrA.noplain {es : MP.E} {pes : List Expr} (h : TrA tb N sc fb es pes) (pos : Pos) (env : Env) : (backTo pos (starEach pes env)).any (·.1) = false := by
  induction pes generalizing es with
  | nil => rfl
  | cons a l ih =>
    cases h with
    | cons h q =>
    rw [h.nostar]
    have := ih q
    simp only [backTo, List.map_cons, List.any_cons, Bool.false_or] at this ⊢
    exact this
end
end MPS
namespace MPS
open PySem PySem.Spec PyProof.Rows L2 PySem.W
variable [Tbs]
/-! ### equal as trees -/
mutual
theorem beq_eq : ∀ (a b : MP.D), MP.D.beq a b = true → a = b
  | .und, b, h => by cases b <;> first | rfl | (simp [MP.D.beq] at h; done)
  | .non, b, h => by cases b <;> first | rfl | (simp [MP.D.beq] at h; done)
  | .bl x, b, h => by cases b <;> first | (simp [MP.D.beq] at h; subst h; rfl) | (simp [MP.D.beq] at h; done)
  | .int x, b, h => by cases b <;> first | (simp [MP.D.beq] at h; subst h; rfl) | (simp [MP.D.beq] at h; done)
  | .str x, b, h => by cases b <;> first | (simp [MP.D.beq] at h; subst h; rfl) | (simp [MP.D.beq] at h; done)
  | .ref x, b, h => by cases b <;> first | (simp [MP.D.beq] at h; subst h; rfl) | (simp [MP.D.beq] at h; done)
  | .tup xs, b, h => by
    cases b with
    | tup ys => rw [beqs_eq xs ys (by simpa [MP.D.beq] using h)]
    | _ => simp [MP.D.beq] at h
  | .lst xs, b, h => by
    cases b with
    | lst ys => rw [beqs_eq xs ys (by simpa [MP.D.beq] using h)]
    | _ => simp [MP.D.beq] at h
  | .frz xs, b, h => by
    cases b with
    | frz ys => rw [beqs_eq xs ys (by simpa [MP.D.beq] using h)]
    | _ => simp [MP.D.beq] at h
  | .clo k xs, b, h => by
    cases b with
    | clo j ys =>
      simp only [MP.D.beq, Bool.and_eq_true, beq_iff_eq] at h
      rw [h.1, beqs_eq xs ys h.2]
    | _ => simp [MP.D.beq] at h
theorem beqs_eq : ∀ (as bs : List MP.D), MP.D.beqs as bs = true → as = bs
  | [], [], _ => rfl
  | [], _ :: _, h => by simp [MP.D.beqs] at h
  | _ :: _, [], h => by simp [MP.D.beqs] at h
  | a :: as, b :: bs, h => by
    simp only [MP.D.beqs, Bool.and_eq_true] at h
    rw [beq_eq a b h.1, beqs_eq as bs h.2]
end
/-! ### what is walked -/
/-- J walks the items xs, as long as the lists of g stay -/
def Wk (K : PySem.W.Frag) (J : It) (xs : List MP.D) (g : MP.Gd) (m0 : Pl) (H0 : Hp) : Prop :=
  ∀ (m : Pl) (h : MP.Heap) (H : Hp), Kw m0 H0 m H → HR K m h H → MP.gdOk h g = true →
    (∀ (i : Nat) (d : MP.D), xs[i]? = some d → J.go i H ∧ ∀ x H', J.yld i H x H' → Kp m H m H' ∧ HR K m h H' ∧ Rel K m H' d x) ∧ J.stop xs.length H
section
variable {K : PySem.W.Frag} {m m0 : Pl} {H H0 : Hp} {h h0 : MP.Heap}
/-- a value that is a list, read again later -/
theorem list_later {d : MP.D} {v : V} {xs : List MP.D} (hr0 : HR K m0 h0 H0) (r : Rel K m0 H0 d v) (e : MP.rlist h0 d = some xs) :
    ∃ a, v = .ref a ∧ ((∃ vs, SqL K H0 a vs) ∧ ∀ m h H, Kw m0 H0 m H → HR K m h H → MP.gdOk h (MP.gdOf h0 d) = true → ∃ vs, SqL K H a vs ∧ Rels K m H xs vs) := by
  cases r with
  | lst h1 n nb r =>
    simp [MP.rlist] at e; subst e
    exact ⟨_, rfl, ⟨_, .of h1⟩, fun m h H k hr _ => ⟨_, .of (k.keep _ _ h1 nt_lst n nb).1, r.keepW hr0.mut k⟩⟩
  | ref h1 =>
    rename_i a n
    simp only [MP.rlist] at e
    split at e
    · rename_i ys e1
      cases e
      obtain ⟨a', vs, e2, e3, r⟩ := hr0.lst e1
      rw [h1] at e2; cases e2
      refine ⟨_, rfl, ⟨_, .of e3⟩, fun m h H k hr hg => ?_⟩
      simp only [MP.gdOf, e1, MP.gdOk, List.all_cons, List.all_nil, Bool.and_true] at hg
      split at hg
      · rename_i zs e4
        have := beqs_eq _ _ hg; subst this
        obtain ⟨b, us, e5, e6, r6⟩ := hr.lst e4
        rw [k.at_ _ _ h1] at e5
        cases e5
        exact ⟨us, .of e6, r6⟩
      · cases hg
    · cases e
  | _ => simp [MP.rlist] at e
/-- a value that is a list or a tuple, read again later -/
theorem seq_later {d : MP.D} {v : V} {xs : List MP.D} (hr0 : HR K m0 h0 H0) (r : Rel K m0 H0 d v) (e : MP.items h0 d = some xs) :
    (∃ a, v = .ref a ∧ ((∃ vs, SqL K H0 a vs) ∧ ∀ m h H, Kw m0 H0 m H → HR K m h H → MP.gdOk h (MP.gdOf h0 d) = true → ∃ vs, SqL K H a vs ∧ Rels K m H xs vs)) ∨
    ∃ a, v = .ref a ∧ ((∃ vs, SqT K H0 a vs) ∧ ∀ m h H, Kw m0 H0 m H → HR K m h H → ∃ vs, SqT K H a vs ∧ Rels K m H xs vs) := by
  cases d with
  | tup ys =>
    cases r with
    | tup h1 r =>
    simp [MP.items] at e; subst e
    exact .inr ⟨_, rfl, ⟨_, h1⟩, fun m h H k hr => ⟨_, SqT.keepW hr0.mut k h1, r.keepW hr0.mut k⟩⟩
  | frz ys =>
    cases r with
    | frz h1 r =>
    simp [MP.items] at e; subst e
    exact .inl ⟨_, rfl, ⟨_, h1.sq⟩, fun m h H k hr _ => ⟨_, (h1.keepW k).sq, r.keepW hr0.mut k⟩⟩
  | lst ys => exact .inl (list_later hr0 r e)
  | ref n => exact .inl (list_later hr0 r e)
  | _ => simp [MP.items] at e
theorem wk_list {a : Addr} {xs : List MP.D} {g : MP.Gd} (L : ∀ m h H, Kw m0 H0 m H → HR K m h H → MP.gdOk h g = true → ∃ vs, SqL K H a vs ∧ Rels K m H xs vs) : Wk K (Itl K a) xs g m0 H0 := fun m h H k hr hg => by
  obtain ⟨vs, h1, r⟩ := L m h H k hr hg
  refine ⟨fun i d hd => ?_, ⟨vs, h1, by rw [r.length]; exact Nat.le_refl _⟩⟩
  obtain ⟨v, e, rv⟩ := r.get hd
  refine ⟨⟨vs, v, h1, e⟩, fun x H' hy => ?_⟩
  obtain ⟨rfl, hy⟩ := hy
  have := hy vs h1
  rw [e] at this; cases this
  exact ⟨.refl _ _, hr, rv⟩
theorem wk_tup {a : Addr} {xs : List MP.D} {g : MP.Gd} (L : ∀ m h H, Kw m0 H0 m H → HR K m h H → ∃ vs, SqT K H a vs ∧ Rels K m H xs vs) : Wk K (Itt K a) xs g m0 H0 := fun m h H k hr hg => by
  obtain ⟨vs, h1, r⟩ := L m h H k hr
  refine ⟨fun i d hd => ?_, ⟨vs, h1, by rw [r.length]; exact Nat.le_refl _⟩⟩
  obtain ⟨v, e, rv⟩ := r.get hd
  refine ⟨⟨vs, v, h1, e⟩, fun x H' hy => ?_⟩
  obtain ⟨rfl, hy⟩ := hy
  have := hy vs h1
  rw [e] at this; cases this
  exact ⟨.refl _ _, hr, rv⟩
theorem rangeI_get {a b : Int} {i : Nat} {d : MP.D} (e : ((MP.rangeI a b).map MP.D.int)[i]? = some d) : i < (b - a).toNat ∧ d = .int (a + i) := by
  unfold MP.rangeI at e
  rw [List.getElem?_map, List.getElem?_map] at e
  cases q : (List.range (b - a).toNat)[i]? with
  | none => rw [q] at e; cases e
  | some j =>
    rw [q] at e
    have h1 := List.getElem?_eq_some_iff.mp q
    obtain ⟨h1, h2⟩ := h1
    rw [List.length_range] at h1
    rw [List.getElem_range] at h2
    subst h2
    simp at e
    exact ⟨h1, e.symm⟩
theorem rangeI_len {a b : Int} : ((MP.rangeI a b).map MP.D.int).length = (b - a).toNat := by
  unfold MP.rangeI
  rw [List.length_map, List.length_map, List.length_range]
theorem wk_range {a b : Int} : Wk K (Itr a (b - a).toNat) ((MP.rangeI a b).map MP.D.int) [] m0 H0 := fun m h H k hr hg => by
  refine ⟨fun i d hd => ?_, by show (b - a).toNat ≤ _; rw [rangeI_len]; exact Nat.le_refl _⟩
  obtain ⟨h1, rfl⟩ := rangeI_get hd
  refine ⟨h1, fun x H' hy => ?_⟩
  obtain ⟨rfl, rfl⟩ := hy
  exact ⟨.refl _ _, hr, .int _⟩
theorem enumD_get : ∀ {xs : List MP.D} {k i : Nat} {d : MP.D}, (MP.enumD k xs)[i]? = some d → ∃ x, xs[i]? = some x ∧ d = .tup [.int ((k + i : Nat) : Int), x]
  | [], _, _, _, e => by simp [MP.enumD] at e
  | x :: xs, k, 0, d, e => by simp [MP.enumD] at e; subst e; exact ⟨x, rfl, rfl⟩
  | x :: xs, k, i + 1, d, e => by
    simp only [MP.enumD, List.getElem?_cons_succ] at e
    obtain ⟨y, e1, e2⟩ := enumD_get e
    refine ⟨y, by simpa using e1, ?_⟩
    rw [e2]
    have : k + 1 + i = k + (i + 1) := by omega
    rw [this]
theorem enumD_len : ∀ {xs : List MP.D} {k : Nat}, (MP.enumD k xs).length = xs.length
  | [], _ => rfl
  | x :: xs, k => by simp [MP.enumD, enumD_len]
theorem wk_enumT {a : Addr} {xs : List MP.D} {g : MP.Gd} (L : ∀ m h H, Kw m0 H0 m H → HR K m h H → ∃ vs, SqT K H a vs ∧ Rels K m H xs vs) : Wk K (ItT K a) (MP.enumD 0 xs) g m0 H0 := fun m h H k hr hg => by
  obtain ⟨vs, h1, r⟩ := L m h H k hr
  refine ⟨fun i d hd => ?_, ⟨vs, h1, by rw [enumD_len, r.length]; exact Nat.le_refl _⟩⟩
  obtain ⟨x, e, rfl⟩ := enumD_get hd
  obtain ⟨v, e1, rv⟩ := r.get e
  refine ⟨⟨vs, v, h1, e1⟩, fun y H' ⟨T, z, e2, hT, e3, hy⟩ => ?_⟩
  subst e2; subst e3
  have := hy vs h1
  rw [e1] at this; cases this
  refine ⟨.new hT, hr.new hT, .tup (.of upd_same) (.cons ?_ (.cons (rv.keep hr.mut (.new hT)) .nil))⟩
  rw [Nat.zero_add]
  exact .int _
theorem wk_enum {a : Addr} {xs : List MP.D} {g : MP.Gd} (L : ∀ m h H, Kw m0 H0 m H → HR K m h H → MP.gdOk h g = true → ∃ vs, SqL K H a vs ∧ Rels K m H xs vs) : Wk K (Ite K a) (MP.enumD 0 xs) g m0 H0 := fun m h H k hr hg => by
  obtain ⟨vs, h1, r⟩ := L m h H k hr hg
  refine ⟨fun i d hd => ?_, ⟨vs, h1, by rw [enumD_len, r.length]; exact Nat.le_refl _⟩⟩
  obtain ⟨x, e, rfl⟩ := enumD_get hd
  obtain ⟨v, e1, rv⟩ := r.get e
  refine ⟨⟨vs, v, h1, e1⟩, fun y H' hy => ?_⟩
  obtain ⟨T, z, rfl, hT, rfl, hy⟩ := hy
  have := hy vs h1
  rw [e1] at this; cases this
  refine ⟨.new hT, hr.new hT, .tup (.of upd_same) (.cons ?_ (.cons (rv.keep hr.mut (.new hT)) .nil))⟩
  rw [Nat.zero_add]
  exact .int _
theorem zipD_get : ∀ {xs ys : List MP.D} {i : Nat} {d : MP.D}, (MP.zipD xs ys)[i]? = some d → ∃ x y, xs[i]? = some x ∧ ys[i]? = some y ∧ d = .tup [x, y]
  | [], _, _, _, e => by simp [MP.zipD] at e
  | _ :: _, [], _, _, e => by simp [MP.zipD] at e
  | x :: xs, y :: ys, 0, d, e => by simp [MP.zipD] at e; subst e; exact ⟨x, y, rfl, rfl, rfl⟩
  | x :: xs, y :: ys, i + 1, d, e => by
    simp only [MP.zipD, List.getElem?_cons_succ] at e
    obtain ⟨u, v, e1, e2, e3⟩ := zipD_get e
    exact ⟨u, v, by simpa using e1, by simpa using e2, e3⟩
theorem zipD_len : ∀ {xs ys : List MP.D}, (MP.zipD xs ys).length = min xs.length ys.length
  | [], _ => by simp [MP.zipD]
  | _ :: _, [] => by simp [MP.zipD]
  | x :: xs, y :: ys => by simp only [MP.zipD, List.length_cons, zipD_len]; omega
theorem wk_zipB {p r : Bool} {a b : Addr} {xs ys : List MP.D} {g : MP.Gd} (L : ∀ m h H, Kw m0 H0 m H → HR K m h H → MP.gdOk h g = true → (∃ vs, SqB p K H a vs ∧ Rels K m H xs vs) ∧ ∃ vs, SqB r K H b vs ∧ Rels K m H ys vs) : Wk K (ItzB K p r a b) (MP.zipD xs ys) g m0 H0 := fun m h H k hr hg => by
  obtain ⟨⟨vs, h1, r⟩, ⟨us, h2, r2⟩⟩ := L m h H k hr hg
  refine ⟨fun i d hd => ?_, ⟨vs, us, h1, h2, by rw [zipD_len, ← r.length, ← r2.length]; omega⟩⟩
  obtain ⟨x, y, e, e2, rfl⟩ := zipD_get hd
  obtain ⟨v, e1, rv⟩ := r.get e
  obtain ⟨u, e3, ru⟩ := r2.get e2
  refine ⟨⟨vs, us, v, u, h1, h2, e1, e3⟩, fun z H' hy => ?_⟩
  obtain ⟨T, z, z', rfl, hT, rfl, hy, hy'⟩ := hy
  have := hy vs h1
  rw [e1] at this; cases this
  have := hy' us h2
  rw [e3] at this; cases this
  exact ⟨.new hT, hr.new hT, .tup (.of upd_same) (.cons (rv.keep hr.mut (.new hT)) (.cons (ru.keep hr.mut (.new hT)) .nil))⟩
end
end MPS
namespace MPS
open PySem PySem.Spec PyProof.Rows L2 PySem.W
variable [Tbs]
/-! ### the world of a text, the context of a piece of it -/
/-- what a def promises: φ's result -/
def spF (K : PySem.W.Frag) (cs : List Addr) (φ : List MP.D → MP.Heap → MP.R MP.D) (np : Nat) : Sp := fun vs H Q E => vs.length = np ∧ ∃ m h ds, HR K m h H ∧ Rels K m H ds vs ∧
  Gd K (Rel K) m H (φ ds h) Q (fun c H' => ∀ C, cs[c]? = some C → E (.ref C) none H')
/-- an exception class over ValueError, without an own __init__ -/
structure ClsOk (K : PySem.W.Frag) (C : Addr) : Prop where
  keep : PySem.W.keepIn K (.ref C) = true
  exc : PySem.W.excIn K C [.type "ValueError", .type "Exception", .type "BaseException", .type "object"] "ValueError.__new__" = true
  sub : PySem.W.subIn K (.ref C) (.type "BaseException") = some true
  ty : PySem.W.typeIn K (.ref C) = some (.type "type")
/-- the exception classes of a text: where they lie, and which is under which -/
structure ClsT (K : PySem.W.Frag) (mg : Str → Option Value) (tb : Tb) (cs : List Addr) : Prop where
  cls : ∀ (c : Nat) (x : Str), tb.cn[c]? = some x → ∃ C, cs[c]? = some C ∧ mg x = some (.ref C) ∧ ClsOk K C
  sub : ∀ (i j : Nat) (A B : Addr), cs[i]? = some A → cs[j]? = some B → PySem.W.exmOne K (.ref A) (.ref B) = some (tb.sb.contains (i, j))
  len : cs.length = tb.cn.length
/-- a def that calls what it got, and tells the exceptions -/
structure HBody (tb : Tb) (sg : Scope) (a : Str) (hs : List (Nat × List Nat × MP.D)) (d0 : MP.D) (bg : List Stmt) : Prop where
  ex : ∃ (pc : Expr) (hd : ExceptHandler) (hds : List ExceptHandler) (p1 p2 p3 p4 p5 : Pos), conB d0 pc = true ∧ TrH tb sg hs (hd :: hds) ∧
    (bg = [.Try [.Expr (.Call (.Name a p1) [] [] p2) p3] (hd :: hds) [] [] p4, .Return (some pc) p5] ∨ bg = [.Try [.Expr (.Call (.Name a p1) [] [] p2) p3, .Return (some pc) p5] (hd :: hds) [] [] p4])
structure LamDef (K : PySem.W.Frag) (mg : Str → Option Value) (tb : Tb) (x : Str) (hs : List (Nat × List Nat × MP.D)) (d0 : MP.D) : Prop where
  ex : ∃ (g : Addr) (oc : Value) (od an : Option Addr) (pg : Arguments) (bg : List Stmt) (sg : Scope) (dV kV doc pm cdv ct : Value) (osl : Array (Option Value)) (Ng : List Str) (a : Str), mg x = some (.ref g) ∧ PySem.W.keepIn K (.ref g) = true ∧
    K.lookup g = some ⟨oc, od, .func (PySem.W.fnOf x x pg bg sg dV kV doc pm an cdv ct), osl⟩ ∧ PySem.W.codeIn K cdv x = true ∧ L2.Binds K (PySem.W.fnOf x x pg bg sg dV kV doc pm an cdv ct) [a] [] ∧ FnScope Ng [a] sg ∧ Ng[0]? = some a ∧ Vis sg a ∧ (a == ("__debug__" : Str)) = false ∧ (a == ("__classdict__" : Str)) = false ∧ HBody tb sg a hs d0 bg
structure Wld (P : Program) (w : World) (K : PySem.W.Frag) (mg : Str → Option Value) (base : Heap) (tb : Tb) (cs : List Addr) (Φ : Nat → List MP.D → MP.Heap → MP.R MP.D) (G : List MP.D) (k : Nat) : Prop where
  fns : ∀ (f : Nat) (x : Str), tb.fn[f]? = some x → ∃ a fd ps, mg x = some (.ref a) ∧ PySem.W.keepIn K (.ref a) = true ∧ Binds K fd ps [] ∧ FnOk P w K mg base (L2.CX P w) (3 * k) a fd ps (spF K cs (Φ f) ps.length) ∧ ∀ ds h, Φ f ds h ≠ .bad → ds.length = ps.length
  glo : ∀ (j : Nat) (x : Str), tb.gn[j]? = some x → ∃ (d : MP.D) (u : Value) (v : V), G[j]? = some d ∧ mg x = some u ∧ RelV v u ∧ ∀ m H, Rel K m H d v
  blt : ∀ x ∈ tb.bl, mg x = none
  cl : ClsT K mg tb cs
  lam : ∀ x hs d0, (x, hs, d0) ∈ tb.lm → LamDef K mg tb x hs d0
/-- what the making of a lambda asks -/
def LamAt (X : Cx) (k : Nat) : Prop := Room (3 * k + 2) X.A ∧ ∃ c P, X.env.code = .ref c ∧ LamX.TabB X.base X.mg c P ∧ (P, X.env.qual ++ "<lambda>") ∈ Tbs.l ∧ ∀ p ∈ Tbs.l, p.1 = P → p.2 = X.env.qual ++ "<lambda>"
structure Cg (X : Cx) (N : List Str) (sc : Scope) (fb : Str → Bool) (k : Nat) : Prop where
  calm : X.calm = true
  room : Room (3 * k) X.A
  nd : N.Nodup
  nn : X.N = N
  sc : X.env.scope = sc
  wo : X.w = Tbs.w
  lam : fb LAM = true → LamAt X k
  gd : fb RPR = true → X.A.guards = some []
  fb : ∀ x, x ≠ LAM → x ≠ RPR → X.fn x = fb x
def EnvR (K : PySem.W.Frag) (m : Pl) (H : Hp) (env : MP.Env) (σ : L2.St) : Prop := env.length = σ.length ∧ ∀ (i : Nat) (d : MP.D), env[i]? = some d → d ≠ .und → ∃ v, σ[i]? = some (some v) ∧ Rel K m H d v
theorem EnvR.keep {K : PySem.W.Frag} {m m' : Pl} {H H' : Hp} {h : MP.Heap} {env : MP.Env} {σ : L2.St} (e : EnvR K m H env σ) (hr : HR K m h H) (k : Kp m H m' H') : EnvR K m' H' env σ :=
  ⟨e.1, fun i d e1 e2 => let ⟨v, e3, r⟩ := e.2 i d e1 e2; ⟨v, e3, r.keep hr.mut k⟩⟩
theorem EnvR.set {K : PySem.W.Frag} {m : Pl} {H : Hp} {env : MP.Env} {σ : L2.St} {i : Nat} {d : MP.D} {v : V} (e : EnvR K m H env σ) (r : Rel K m H d v) (hi : i < env.length) : EnvR K m H (env.set i d) (σ.set i (some v)) := by
  refine ⟨by simp [e.1], fun j x e1 e2 => ?_⟩
  by_cases hj : j = i
  · subst hj
    rw [List.getElem?_set_self hi] at e1
    cases e1
    exact ⟨v, by rw [List.getElem?_set_self (by rw [← e.1]; exact hi)], r⟩
  · rw [List.getElem?_set_ne (Ne.symm hj)] at e1
    obtain ⟨u, e3, r3⟩ := e.2 j x e1 e2
    exact ⟨u, by rw [List.getElem?_set_ne (Ne.symm hj)]; exact e3, r3⟩
/-! ### readings by what they are to do -/
def ER (X : Cx) (pe : Expr) : TE := fun σ H Q => ∀ pins s, Inv X pins σ H s → wpAny (model X.prog X.w) X.A (eval pe X.env) (EP X pins σ Q) X.xe s
def TR (X : Cx) (pe : Expr) : TT := fun σ H Q => ∀ pins s, Inv X pins σ H s → wpAny (model X.prog X.w) X.A (isTrue pe X.env (eval pe X.env)) (TP X pins σ Q) X.xe s
def WR (X : Cx) (pe : Expr) : TT := fun σ H Q => ∀ whole pins s, Inv X pins σ H s → wpAny (model X.prog X.w) X.A (isTrue pe X.env whole) (TP X pins σ Q) X.xe s
def AR (X : Cx) (pes : List Expr) : TA := fun σ H Q => ∀ pos pins s, Inv X pins σ H s → wpAny (model X.prog X.w) X.A (spliced (backTo pos (starEach pes X.env))) (AP X pins σ Q) X.xe s
theorem per (X : Cx) (pe : Expr) : PE X pe (ER X pe) := ⟨fun pins s σ H Q I h => h pins s I⟩
theorem ptr (X : Cx) (pe : Expr) : PT X pe (TR X pe) := ⟨fun pins s σ H Q I h => h pins s I⟩
theorem pwr (X : Cx) (pe : Expr) : PW X pe (WR X pe) := ⟨fun wh pins s σ H Q I h => h wh pins s I⟩
theorem par (X : Cx) (pes : List Expr) : PA X pes (AR X pes) := ⟨fun pos pins s σ H Q I h => h pos pins s I⟩
section
variable {X : Cx} {pe : Expr} {pes : List Expr} {σ : L2.St} {H : Hp}
theorem ER.of {t : TE} {Q : VK} (h : PE X pe t) (q : t σ H Q) : ER X pe σ H Q := fun pins s I => h.run pins s σ H Q I q
theorem TR.of {t : TT} {Q : Bool → Hp → Prop} (h : PT X pe t) (q : t σ H Q) : TR X pe σ H Q := fun pins s I => h.run pins s σ H Q I q
theorem WR.of {t : TT} {Q : Bool → Hp → Prop} (h : PW X pe t) (q : t σ H Q) : WR X pe σ H Q := fun wh pins s I => h.run wh pins s σ H Q I q
theorem WR.tr {Q : Bool → Hp → Prop} (h : WR X pe σ H Q) : TR X pe σ H Q := fun pins s I => h _ pins s I
theorem AR.of {t : TA} {Q : List V → Hp → Prop} (h : PA X pes t) (q : t σ H Q) : AR X pes σ H Q := fun pos pins s I => h.run pos pins s σ H Q I q
end
def Zw (cs : List Addr) (W : WX) (σ : L2.St) : Nat → Hp → Prop := fun c H' => ∀ C, cs[c]? = some C → W (.ref C) none σ H'
def relA (K : PySem.W.Frag) : Pl → Hp → MP.D → List V → Prop := fun m H d vs => ∃ ds, d = .tup ds ∧ Rels K m H ds vs
def relB : Pl → Hp → Bool → Bool → Prop := fun _ _ a b => a = b
section
variable (tb : Tb) (N : List Str) (cs : List Addr) (Φ : Nat → List MP.D → MP.Heap → MP.R MP.D) (G : List MP.D) (k : Nat)
abbrev WldX (X : Cx) : Prop := Wld X.prog X.w X.K X.mg X.base tb cs Φ G k
def SimE (sc : Scope) (fb : Str → Bool) (e : MP.E) (pe : Expr) : Prop := ∀ (X : Cx), Cg X N sc fb k → WldX tb cs Φ G k X → ∀ (W : WX), Takes X W → ∀ (env : MP.Env) (h : MP.Heap) (m : Pl) (σ : L2.St) (H : Hp) (Q : VK),
  EnvR X.K m H env σ → HR X.K m h H → Gd X.K (Rel X.K) m H (MP.eE Φ G e env h) Q (Zw cs W σ) → ER X pe σ H Q
def SimA (sc : Scope) (fb : Str → Bool) (e : MP.E) (pes : List Expr) : Prop := ∀ (X : Cx), Cg X N sc fb k → WldX tb cs Φ G k X → ∀ (W : WX), Takes X W → ∀ (env : MP.Env) (h : MP.Heap) (m : Pl) (σ : L2.St) (H : Hp) (Q : List V → Hp → Prop),
  EnvR X.K m H env σ → HR X.K m h H → Gd X.K (relA X.K) m H (MP.eE Φ G e env h) Q (Zw cs W σ) → AR X pes σ H Q
def tE (e : MP.E) (env : MP.Env) (h : MP.Heap) : MP.R Bool := (MP.eE Φ G e env h).bind MP.tru
def SimT (sc : Scope) (fb : Str → Bool) (e : MP.E) (pe : Expr) : Prop := ∀ (X : Cx), Cg X N sc fb k → WldX tb cs Φ G k X → ∀ (W : WX), Takes X W → ∀ (env : MP.Env) (h : MP.Heap) (m : Pl) (σ : L2.St) (H : Hp) (Q : Bool → Hp → Prop),
  EnvR X.K m H env σ → HR X.K m h H → Gd X.K relB m H (tE Φ G e env h) Q (Zw cs W σ) → TR X pe σ H Q
def SimW (sc : Scope) (fb : Str → Bool) (e : MP.E) (pe : Expr) : Prop := ∀ (X : Cx), Cg X N sc fb k → WldX tb cs Φ G k X → ∀ (W : WX), Takes X W → ∀ (env : MP.Env) (h : MP.Heap) (m : Pl) (σ : L2.St) (H : Hp) (Q : Bool → Hp → Prop),
  EnvR X.K m H env σ → HR X.K m h H → Gd X.K relB m H (tE Φ G e env h) Q (Zw cs W σ) → WR X pe σ H Q
end
section
variable {tb : Tb} {N : List Str} {cs : List Addr} {Φ : Nat → List MP.D → MP.Heap → MP.R MP.D} {G : List MP.D} {k : Nat} {sc : Scope} {fb : Str → Bool}
theorem Cg.gl {X : Cx} (c : Cg X N sc fb k) {x : Str} (h : glB sc x = true) : Gl X x := by
  unfold Gl Env.kindOf
  rw [c.sc]
  exact of_decide_eq_true h
theorem Cg.vis {X : Cx} (c : Cg X N sc fb k) {x : Str} (h : visB sc x = true) : Vis X.env.scope x := by
  unfold Vis
  rw [c.sc]
  unfold visB at h
  split at h
  · rename_i e; exact .inl e
  · rename_i e; exact .inr (.inl e)
  · rename_i e; exact .inr (.inr e)
  · cases h
theorem Cg.hu {X : Cx} (c : Cg X N sc fb k) : X.A.units + 65 < cLine := by
  have := c.room.un
  omega
theorem nm1 {x : Str} (h : nmB x = true) : (x == ("__debug__" : Str)) = false ∧ (x == ("__classdict__" : Str)) = false ∧ x ≠ "__name__" := by
  unfold nmB at h
  simp only [Bool.and_eq_true, Bool.not_eq_true', decide_eq_true_eq] at h
  exact ⟨h.1.1, h.1.2, h.2⟩
/-- arguments -/
theorem simA : ∀ {es : MP.E} {pes : List Expr}, (∀ a, sizeOf a < sizeOf es → ∀ pe, TrE tb N sc fb a pe → SimE tb N cs Φ G k sc fb a pe) → TrA tb N sc fb es pes → SimA tb N cs Φ G k sc fb es pes
  | .nil, _, _, .nil => fun X c w W tk env h m σ H Q er hr g => AR.of pa_nil (g [] m H (.refl _ _) hr ⟨[], rfl, .nil⟩)
  | .cons a r, pa :: pr, ih, .cons h q => fun X c w W tk env h m σ H Q er hr g => by
    have iha := ih a (by simp; omega) pa ‹_›
    have ihr : SimA tb N cs Φ G k sc fb r pr := simA (fun a' ha => ih a' (by simp; omega)) q
    refine AR.of (pa_cons (per X pa) (par X pr) (TrE.nostar ‹_› _ _)) ?_
    refine iha X c w W tk env _ m σ H _ er hr (g.bind fun d1 h1 v1 m1 H1 _ k1 hr1 r1 g1 => ?_)
    refine ihr X c w W tk env h1 m1 σ H1 _ (er.keep hr k1) hr1 (g1.bind fun d2 h2 v2 m2 H2 _ k2 hr2 r2 g2 => ?_)
    obtain ⟨ds, rfl, r2⟩ := r2
    exact g2 _ m2 H2 (.refl _ _) hr2 ⟨_, rfl, .cons (r1.keep hr1.mut k2) r2⟩
/-! ### tests, by parts -/
theorem tE_and {a r : MP.E} {env : MP.Env} {h : MP.Heap} : tE Φ G (.and2 a r) env h = (tE Φ G a env h).bind fun b h2 => if b then tE Φ G r env h2 else .ok false h2 := by
  unfold tE
  simp only [MP.eE_and2, MP.eE_or2, MP.eE_nt, MP.eE_ite]
  cases MP.eE Φ G a env h with
  | ok x h1 =>
    simp only [MP.R.bind, MP.tru]
    cases e : MP.truthy h1 x with
    | none => rfl
    | some b =>
      cases b with
      | true => rfl
      | false => simp only [MP.R.opt, Bool.false_eq_true, if_false, e]
  | exc c h1 => rfl
  | bad => rfl
theorem tE_or {a r : MP.E} {env : MP.Env} {h : MP.Heap} : tE Φ G (.or2 a r) env h = (tE Φ G a env h).bind fun b h2 => if b then .ok true h2 else tE Φ G r env h2 := by
  unfold tE
  simp only [MP.eE_and2, MP.eE_or2, MP.eE_nt, MP.eE_ite]
  cases MP.eE Φ G a env h with
  | ok x h1 =>
    simp only [MP.R.bind, MP.tru]
    cases e : MP.truthy h1 x with
    | none => rfl
    | some b =>
      cases b with
      | false => rfl
      | true => simp only [MP.R.opt, if_true, e]
  | exc c h1 => rfl
  | bad => rfl
theorem tE_not {a : MP.E} {env : MP.Env} {h : MP.Heap} : tE Φ G (.nt a) env h = (tE Φ G a env h).bind fun b h2 => .ok (!b) h2 := by
  unfold tE
  simp only [MP.eE_and2, MP.eE_or2, MP.eE_nt, MP.eE_ite]
  cases MP.eE Φ G a env h with
  | ok x h1 =>
    simp only [MP.R.bind, MP.tru]
    cases e : MP.truthy h1 x with
    | none => rfl
    | some b => rfl
  | exc c h1 => rfl
  | bad => rfl
theorem tE_ite {c a b : MP.E} {env : MP.Env} {h : MP.Heap} : tE Φ G (.ite c a b) env h = (tE Φ G c env h).bind fun k h2 => if k then tE Φ G a env h2 else tE Φ G b env h2 := by
  unfold tE
  simp only [MP.eE_and2, MP.eE_or2, MP.eE_nt, MP.eE_ite]
  cases MP.eE Φ G c env h with
  | ok x h1 =>
    simp only [MP.R.bind, MP.tru]
    cases e : MP.truthy h1 x with
    | none => rfl
    | some b => cases b <;> rfl
  | exc c h1 => rfl
  | bad => rfl
theorem pt_ifExp {X : Cx} {c a b : Expr} {tc ta tb : TT} {pos : Pos} (hc : PT X c tc) (ha : PT X a ta) (hb : PT X b tb) : PW X (.IfExp c a b pos) (fun σ H Q => tc σ H fun k H1 => if k = true then ta σ H1 Q else tb σ H1 Q) := by
  refine ⟨fun wh pins s σ H Q I h => ?_⟩
  show wpAny _ _ (do if ← isTrue c X.env (eval c X.env) then isTrue a X.env (eval a X.env) else isTrue b X.env (eval b X.env)) _ _ s
  refine wpAny_bind (thn (hc.run pins s σ H _ I h) fun d s1 ⟨H1, I1, q1⟩ => ?_)
  cases d with
  | true => exact ha.run pins s1 σ H1 Q I1 q1
  | false => exact hb.run pins s1 σ H1 Q I1 q1
end
end MPS
namespace MPS
open PySem PySem.Spec PyProof.Rows L2 PySem.W
variable [Tbs]
section
variable {tb : Tb} {N : List Str} {cs : List Addr} {Φ : Nat → List MP.D → MP.Heap → MP.R MP.D} {G : List MP.D} {k : Nat} {sc : Scope} {fb : Str → Bool}
theorem trA_len : ∀ {es : MP.E} {pes : List Expr} {env : MP.Env} {h h' : MP.Heap} {d : MP.D}, TrA tb N sc fb es pes → MP.eE Φ G es env h = .ok d h' → ∃ ds, d = .tup ds ∧ ds.length = pes.length
  | .nil, _, _, _, _, _, .nil, e => by
    rw [MP.eE_nil] at e; cases e; exact ⟨[], rfl, rfl⟩
  | .cons a r, pa :: pr, env, h, h', d, .cons h1 q, e => by
    rw [MP.eE_cons] at e
    cases e1 : MP.eE Φ G a env h with
    | ok x h2 =>
      rw [e1] at e
      simp only [MP.R.bind] at e
      cases e2 : MP.eE Φ G r env h2 with
      | ok y h3 =>
        rw [e2] at e
        simp only at e
        obtain ⟨ds, rfl, hl⟩ := trA_len q e2
        cases e
        exact ⟨_, rfl, by simp [MP.args, hl]⟩
      | exc c h3 => rw [e2] at e; cases e
      | bad => rw [e2] at e; cases e
    | exc c h3 => rw [e1] at e; cases e
    | bad => rw [e1] at e; cases e
theorem plainF_spec {f : MP.Blt} {x : Str} {fv : Value} (h : plainF f = some (x, fv)) : bootBuiltins x = some fv ∧ nmB x = true ∧ ((∃ id, fv = .builtin id) ∨ ∃ T, fv = .type T) := by
  cases f <;> simp only [plainF, Option.some.injEq, Prod.mk.injEq] at h <;> first
    | (obtain ⟨rfl, rfl⟩ := h; exact ⟨by decide +kernel, by decide +kernel, .inl ⟨_, rfl⟩⟩)
    | (obtain ⟨rfl, rfl⟩ := h; exact ⟨by decide +kernel, by decide +kernel, .inr ⟨_, rfl⟩⟩)
    | cases h
theorem tyN_spec (t : MP.Ty) : bootBuiltins (Str.ofString (tyN t)) = some (.type (tyN t)) ∧ nmB (Str.ofString (tyN t)) = true := by
  cases t <;> exact ⟨by decide +kernel, by decide +kernel⟩
theorem TrA.stars {es : MP.E} {pes : List Expr} (h : TrA tb N sc fb es pes) (pos : Pos) (env : Env) : (backTo pos (starEach pes env)).all (fun x => !x.1) = true := by
  induction pes generalizing es with
  | nil => rfl
  | cons a l ih =>
    cases h with
    | cons h q =>
    rw [h.nostar]
    have := ih q
    simp only [backTo, List.map_cons, List.all_cons, Bool.not_false, Bool.true_and] at this ⊢
    exact this
theorem Cg.calmA {X : Cx} (c : Cg X N sc fb k) : X.calm = true := c.calm
/-- a tuple of written items -/
theorem gd_tup {K : PySem.W.Frag} {m : Pl} {H : Hp} {r : MP.R MP.D} {Q : VK} {Z : Nat → Hp → Prop} (g : Gd K (Rel K) m H r Q Z) (hl : ∀ d h', r = .ok d h' → ∃ ds, d = .tup ds ∧ ds.length ≤ sizeLine) :
    Gd K (relA K) m H r (fun xs H1 => xs.length ≤ sizeLine ∧ ∀ p, H1 p = none → Q (.ref p) (upd H1 p (.tup xs))) Z := by
  cases r with
  | ok d h1 =>
    intro xs m1 H1 k1 hr1 ⟨ds, e, r1⟩
    subst e
    obtain ⟨ds', e, hz⟩ := hl _ _ rfl
    cases e
    refine ⟨by rw [← r1.length]; exact hz, fun p hp => ?_⟩
    exact new_tup (Gd.shift (r := MP.R.ok (MP.D.tup ds) h1) k1 g) hr1 r1 p hp
  | exc c h1 => exact g
  | bad => exact g
theorem gd_args {K : PySem.W.Frag} {γ δ : Type} {rl' : Pl → Hp → γ → δ → Prop} {m : Pl} {H : Hp} {r : MP.R MP.D} {f : MP.D → MP.Heap → MP.R γ} {Q' : δ → Hp → Prop} {Z : Nat → Hp → Prop} {Q1 : List V → Hp → Prop} (g : Gd K rl' m H (r.bind f) Q' Z)
    (h : ∀ (ds : List MP.D) h' vs m' H', r = .ok (MP.D.tup ds) h' → Kp m H m' H' → HR K m' h' H' → Rels K m' H' ds vs → Gd K rl' m' H' (f (.tup ds) h') Q' Z → Q1 vs H') : Gd K (relA K) m H r Q1 Z :=
  g.bind fun d h' vs m' H' e k' hr r g' => by
    obtain ⟨ds, rfl, r⟩ := r
    exact h ds h' vs m' H' e k' hr r g'
end
end MPS
namespace MPS
open PySem PySem.Spec PyProof.Rows L2 PySem.W
variable [Tbs]
section
variable {tb : Tb} {N : List Str} {cs : List Addr} {Φ : Nat → List MP.D → MP.Heap → MP.R MP.D} {G : List MP.D} {k : Nat}
variable {sc : Scope} {fb : Str → Bool}
abbrev IH (tb : Tb) (N : List Str) (cs : List Addr) (Φ : Nat → List MP.D → MP.Heap → MP.R MP.D) (G : List MP.D) (k : Nat) (n : Nat) : Prop :=
  ∀ a : MP.E, sizeOf a < n → ∀ sc fb pe, TrE tb N sc fb a pe → SimE tb N cs Φ G k sc fb a pe ∧ SimT tb N cs Φ G k sc fb a pe ∧ (∀ op ps pos, pe = .BoolOp op ps pos → SimW tb N cs Φ G k sc fb a pe)
/-- the test of a value, where nothing else is looked at -/
theorem simT_plain {e : MP.E} {pe : Expr} (hs : SimE tb N cs Φ G k sc fb e pe) (he : ∀ env whole, isTrue pe env whole = (do let v ← whole; standAt pe.pos; holding [v] (truthy v))) : SimT tb N cs Φ G k sc fb e pe :=
  fun X c w W tk env h m σ H Q er hr g => by
    refine TR.of (pt_truth (per X pe) (he X.env)) ?_
    refine hs X c w W tk env h m σ H _ er hr (g.bind fun d h' v m' H' _ k' hr' r g' => ?_)
    obtain ⟨b, e, g'⟩ := g'.opt
    exact ⟨b, truthy_rel hr' r e, g' b m' H' (.refl _ _) hr' rfl⟩
theorem simE_var {i : Nat} {x : Str} {pos : Pos} (h : N[i]? = some x) (v : visB sc x = true) (n : nmB x = true) : SimE tb N cs Φ G k sc fb (.var i) (.Name x pos) :=
  fun X c w W tk env hp m σ H Q er hr g => by
    obtain ⟨n1, n2, n3⟩ := nm1 n
    refine ER.of (pe_var (by rw [c.nn]; exact h) (c.vis v) n1 n2) ?_
    rw [MP.eE_var] at g
    split at g
    · exact g.elim
    · rename_i d hd e
      obtain ⟨v, e1, r⟩ := er.2 i _ e hd
      exact ⟨v, e1, g.here hr r⟩
    · exact g.elim
theorem simE_dct0 {pos : Pos} : SimE tb N cs Φ G k sc fb .dct0 (.Dict [] [] pos) :=
  fun X c w W tk env h m σ H Q er hr g => by
    refine ER.of pe_dnewK fun p hp => ?_
    rw [MP.eE_dct0] at g
    refine g _ (m.add p) _ (.newM hp) (hr.newM hp ⟨[], upd_same, .nil⟩) (.ref ?_)
    show (m.at_ ++ [p])[h.length]? = _
    rw [← hr.len]
    simp
theorem simE_glo {j : Nat} {x : Str} {pos : Pos} (h : tb.gn[j]? = some x) (gl : glB sc x = true) (n : nmB x = true) : SimE tb N cs Φ G k sc fb (.glo j) (.Name x pos) :=
  fun X c w W tk env hp m σ H Q er hr g => by
    obtain ⟨n1, n2, n3⟩ := nm1 n
    obtain ⟨d, u, v, e1, e2, e3, e4⟩ := w.glo j x h
    refine ER.of (pe_glob (c.gl gl) e2 e3 n1) ?_
    rw [MP.eE_glo, e1] at g
    exact g.here hr (e4 m H)
theorem simE_tup {es : MP.E} {pes : List Expr} {kk : Nat} {pos : Pos} (ha : TrA tb N sc fb es pes) (sa : SimA tb N cs Φ G k sc fb es pes) (hz : pes.length ≤ 1000) : SimE tb N cs Φ G k sc fb (.tup es) (.Tuple pes kk pos) :=
  fun X c w W tk env hp m σ H Q er hr g => by
    refine ER.of (pe_tup (par X pes)) ?_
    refine sa X c w W tk env hp m σ H _ er hr (gd_tup g fun d h' e => ?_)
    obtain ⟨ds, e1, e2⟩ := trA_len ha e
    exact ⟨ds, e1, by rw [e2]; exact Nat.le_trans hz (by decide)⟩
theorem simE_lst {imm : Bool} {es : MP.E} {pes : List Expr} {pos : Pos} (sa : SimA tb N cs Φ G k sc fb es pes) : SimE tb N cs Φ G k sc fb (.lst imm es) (.List pes pos) :=
  fun X c w W tk env hp m σ H Q er hr g => by
    refine ER.of (pe_lst (par X pes)) ?_
    rw [MP.eE_lst] at g
    refine sa X c w W tk env hp m σ H _ er hr (gd_args g fun ds h' vs m' H' _ k' hr' r g' => ?_)
    exact new_lst g' hr' r
theorem simE_bin {o : MP.BOp} {a b : MP.E} {pa pb : Expr} {pos : Pos} (sa : SimE tb N cs Φ G k sc fb a pa) (sb : SimE tb N cs Φ G k sc fb b pb) : SimE tb N cs Φ G k sc fb (.bin o a b) (.BinOp pa (bop o) pb pos) :=
  fun X c w W tk env hp m σ H Q er hr g => by
    refine ER.of (pe_op (opV X _) (per X pa) (per X pb)) ?_
    rw [MP.eE_bin] at g
    refine sa X c w W tk env hp m σ H _ er hr (g.bind fun d1 h1 v1 m1 H1 _ k1 hr1 r1 g1 => ?_)
    refine sb X c w W tk env h1 m1 σ H1 _ (er.keep hr k1) hr1 (g1.bind fun d2 h2 v2 m2 H2 _ k2 hr2 r2 g2 => ?_)
    exact opB_sound hr2 (r1.keep hr1.mut k2) r2 g2
theorem simE_neg {a : MP.E} {pa : Expr} {pos : Pos} (sa : SimE tb N cs Φ G k sc fb a pa) : SimE tb N cs Φ G k sc fb (.neg a) (.UnaryOp .USub pa pos) :=
  fun X c w W tk env hp m σ H Q er hr g => by
    refine ER.of (pe_un un_neg (per X pa)) ?_
    rw [MP.eE_neg] at g
    refine sa X c w W tk env hp m σ H _ er hr (g.bind fun d1 h1 v1 m1 H1 _ k1 hr1 r1 g1 => ?_)
    split at g1
    · cases r1; exact ⟨_, rfl, g1.here hr1 (.int _)⟩
    · exact g1.elim
theorem simE_cmp {o : MP.COp} {a b : MP.E} {pa pb : Expr} {pos : Pos} (hb : behindInMarks (cop o) pb = false) (sa : SimE tb N cs Φ G k sc fb a pa) (sb : SimE tb N cs Φ G k sc fb b pb) : SimE tb N cs Φ G k sc fb (.cmp o a b) (.Compare pa [cop o] [pb] pos) :=
  fun X c w W tk env hp m σ H Q er hr g => by
    refine ER.of (pe_cmpR (opV X _) (per X pa) (per X pb) hb) ?_
    rw [MP.eE_cmp] at g
    refine sa X c w W tk env hp m σ H _ er hr (g.bind fun d1 h1 v1 m1 H1 _ k1 hr1 r1 g1 => ?_)
    refine sb X c w W tk env h1 m1 σ H1 _ (er.keep hr k1) hr1 (g1.bind fun d2 h2 v2 m2 H2 _ k2 hr2 r2 g2 => ?_)
    obtain ⟨b, e, g3⟩ := g2.optBind
    exact opK_sound c.wo c.hu hr2 (r1.keep hr1.mut k2) r2 e (g3.here hr2 (.bl _))
theorem simT_cmp {o : MP.COp} {a b : MP.E} {pa pb : Expr} {pos : Pos} (hb : behindInMarks (cop o) pb = false) (sa : SimE tb N cs Φ G k sc fb a pa) (sb : SimE tb N cs Φ G k sc fb b pb) : SimT tb N cs Φ G k sc fb (.cmp o a b) (.Compare pa [cop o] [pb] pos) :=
  fun X c w W tk env hp m σ H Q er hr g => by
    refine TR.of (pt_cmpR (opV X _) (per X pa) (per X pb) hb) ?_
    unfold tE at g
    rw [MP.eE_cmp] at g
    have e0 : ∀ (r : MP.R MP.D) (f : MP.D → MP.Heap → MP.R MP.D), (r.bind f).bind MP.tru = r.bind fun x h => (f x h).bind MP.tru := fun r f => by cases r <;> rfl
    rw [e0] at g
    refine sa X c w W tk env hp m σ H _ er hr (g.bind fun d1 h1 v1 m1 H1 _ k1 hr1 r1 g1 => ?_)
    rw [e0] at g1
    refine sb X c w W tk env h1 m1 σ H1 _ (er.keep hr k1) hr1 (g1.bind fun d2 h2 v2 m2 H2 _ k2 hr2 r2 g2 => ?_)
    cases e : MP.opK o d1 d2 h2 with
    | none => rw [e] at g2; exact g2.elim
    | some b =>
      rw [e] at g2
      exact opK_sound c.wo c.hu hr2 (r1.keep hr1.mut k2) r2 e ⟨b, rfl, g2 b m2 H2 (.refl _ _) hr2 rfl⟩
theorem simE_chn {o p : MP.COp} {a b d : MP.E} {pa pb pd : Expr} {pos : Pos} (hb : behindInMarks (cop p) pd = false) (sa : SimE tb N cs Φ G k sc fb a pa) (sb : SimE tb N cs Φ G k sc fb b pb) (sd : SimE tb N cs Φ G k sc fb d pd) :
    SimE tb N cs Φ G k sc fb (.chn o p a b d) (.Compare pa [cop o, cop p] [pb, pd] pos) :=
  fun X c w W tk env hp m σ H Q er hr g => by
    refine ER.of (pe_chain (opV X _) (opV X _) (per X pa) (per X pb) (per X pd) hb) ?_
    rw [MP.eE_chn] at g
    refine sa X c w W tk env hp m σ H _ er hr (g.bind fun d1 h1 v1 m1 H1 _ k1 hr1 r1 g1 => ?_)
    refine sb X c w W tk env h1 m1 σ H1 _ (er.keep hr k1) hr1 (g1.bind fun d2 h2 v2 m2 H2 _ k2 hr2 r2 g2 => ?_)
    obtain ⟨q, e, g3⟩ := g2.optBind
    refine opC_sound c.hu hr2 (r1.keep hr1.mut k2) r2 e ⟨q, rfl, ?_⟩
    cases q with
    | false =>
      simp only [Bool.false_eq_true, if_false] at g3 ⊢
      exact g3.here hr2 (.bl _)
    | true =>
      simp only [if_true] at g3 ⊢
      refine sd X c w W tk env h2 m2 σ H2 _ ((er.keep hr k1).keep hr1 k2) hr2 (g3.bind fun d4 h4 v4 m4 H4 _ k4 hr4 r4 g4 => ?_)
      obtain ⟨q2, e2, g5⟩ := g4.optBind
      exact opC_sound c.hu hr4 (r2.keep hr2.mut k4) r4 e2 (g5.here hr4 (.bl _))
theorem simT_chn {o p : MP.COp} {a b d : MP.E} {pa pb pd : Expr} {pos : Pos} (hb : behindInMarks (cop p) pd = false) (sa : SimE tb N cs Φ G k sc fb a pa) (sb : SimE tb N cs Φ G k sc fb b pb) (sd : SimE tb N cs Φ G k sc fb d pd) :
    SimT tb N cs Φ G k sc fb (.chn o p a b d) (.Compare pa [cop o, cop p] [pb, pd] pos) :=
  fun X c w W tk env hp m σ H Q er hr g => by
    refine TR.of (pt_chain (opV X _) (opV X _) (per X pa) (per X pb) (per X pd) hb) ?_
    unfold tE at g
    rw [MP.eE_chn] at g
    have e0 : ∀ {α : Type} (r : MP.R α) (f : α → MP.Heap → MP.R MP.D), (r.bind f).bind MP.tru = r.bind fun x h => (f x h).bind MP.tru := fun r f => by cases r <;> rfl
    rw [e0] at g
    refine sa X c w W tk env hp m σ H _ er hr (g.bind fun d1 h1 v1 m1 H1 _ k1 hr1 r1 g1 => ?_)
    rw [e0] at g1
    refine sb X c w W tk env h1 m1 σ H1 _ (er.keep hr k1) hr1 (g1.bind fun d2 h2 v2 m2 H2 _ k2 hr2 r2 g2 => ?_)
    rw [e0] at g2
    obtain ⟨q, e, g3⟩ := g2.optBind
    refine opC_sound c.hu hr2 (r1.keep hr1.mut k2) r2 e ⟨q, rfl, ?_⟩
    cases q with
    | false =>
      simp only [Bool.false_eq_true, if_false] at g3 ⊢
      exact ⟨false, rfl, g3 false m2 H2 (.refl _ _) hr2 rfl⟩
    | true =>
      simp only [if_true] at g3 ⊢
      rw [e0] at g3
      refine sd X c w W tk env h2 m2 σ H2 _ ((er.keep hr k1).keep hr1 k2) hr2 (g3.bind fun d4 h4 v4 m4 H4 _ k4 hr4 r4 g4 => ?_)
      rw [e0] at g4
      obtain ⟨q2, e2, g5⟩ := g4.optBind
      exact opC_sound c.hu hr4 (r2.keep hr2.mut k4) r4 e2 ⟨q2, rfl, g5 q2 m4 H4 (.refl _ _) hr4 rfl⟩
end
end MPS
namespace MPS
open PySem PySem.Spec PyProof.Rows L2 PySem.W
variable [Tbs]
section
variable {tb : Tb} {N : List Str} {cs : List Addr} {Φ : Nat → List MP.D → MP.Heap → MP.R MP.D} {G : List MP.D} {k : Nat}
variable {sc : Scope} {fb : Str → Bool}
theorem simE_and {a r : MP.E} {pa pb : Expr} {ps : List Expr} {pos : Pos} (sa : SimE tb N cs Φ G k sc fb a pa) (sr : SimE tb N cs Φ G k sc fb r (.BoolOp .And (pb :: ps) pos)) : SimE tb N cs Φ G k sc fb (.and2 a r) (.BoolOp .And (pa :: pb :: ps) pos) :=
  fun X c w W tk env hp m σ H Q er hr g => by
    refine ER.of (pe_andT (per X pa) (per X _)) ?_
    rw [MP.eE_and2] at g
    refine sa X c w W tk env hp m σ H _ er hr (g.bind fun d1 h1 v1 m1 H1 _ k1 hr1 r1 g1 => ?_)
    obtain ⟨b, e, g2⟩ := g1.optBind
    refine ⟨b, truthy_rel hr1 r1 e, ?_⟩
    cases b with
    | true =>
      simp only [if_true] at g2 ⊢
      exact sr X c w W tk env h1 m1 σ H1 _ (er.keep hr k1) hr1 g2
    | false =>
      simp only [Bool.false_eq_true, if_false] at g2 ⊢
      exact g2.here hr1 r1
theorem simE_or {a r : MP.E} {pa pb : Expr} {ps : List Expr} {pos : Pos} (sa : SimE tb N cs Φ G k sc fb a pa) (sr : SimE tb N cs Φ G k sc fb r (.BoolOp .Or (pb :: ps) pos)) : SimE tb N cs Φ G k sc fb (.or2 a r) (.BoolOp .Or (pa :: pb :: ps) pos) :=
  fun X c w W tk env hp m σ H Q er hr g => by
    refine ER.of (pe_orT (per X pa) (per X _)) ?_
    rw [MP.eE_or2] at g
    refine sa X c w W tk env hp m σ H _ er hr (g.bind fun d1 h1 v1 m1 H1 _ k1 hr1 r1 g1 => ?_)
    obtain ⟨b, e, g2⟩ := g1.optBind
    refine ⟨b, truthy_rel hr1 r1 e, ?_⟩
    cases b with
    | false =>
      simp only [Bool.false_eq_true, if_false] at g2 ⊢
      exact sr X c w W tk env h1 m1 σ H1 _ (er.keep hr k1) hr1 g2
    | true =>
      simp only [if_true] at g2 ⊢
      exact g2.here hr1 r1
theorem simW_and {a r : MP.E} {pa pb : Expr} {ps : List Expr} {pos : Pos} (sa : SimT tb N cs Φ G k sc fb a pa) (sr : SimW tb N cs Φ G k sc fb r (.BoolOp .And (pb :: ps) pos)) : SimW tb N cs Φ G k sc fb (.and2 a r) (.BoolOp .And (pa :: pb :: ps) pos) :=
  fun X c w W tk env hp m σ H Q er hr g => by
    refine WR.of (pw_and (ptr X pa) (pwr X _)) ?_
    rw [tE_and] at g
    refine sa X c w W tk env hp m σ H _ er hr (g.bind fun b h1 b' m1 H1 _ k1 hr1 r1 g1 => ?_)
    cases r1
    cases b with
    | true =>
      simp only [if_true] at g1 ⊢
      exact sr X c w W tk env h1 m1 σ H1 _ (er.keep hr k1) hr1 g1
    | false =>
      simp only [Bool.false_eq_true, if_false] at g1 ⊢
      exact g1 false m1 H1 (.refl _ _) hr1 rfl
theorem simW_or {a r : MP.E} {pa pb : Expr} {ps : List Expr} {pos : Pos} (sa : SimT tb N cs Φ G k sc fb a pa) (sr : SimW tb N cs Φ G k sc fb r (.BoolOp .Or (pb :: ps) pos)) : SimW tb N cs Φ G k sc fb (.or2 a r) (.BoolOp .Or (pa :: pb :: ps) pos) :=
  fun X c w W tk env hp m σ H Q er hr g => by
    refine WR.of (pw_or (ptr X pa) (pwr X _)) ?_
    rw [tE_or] at g
    refine sa X c w W tk env hp m σ H _ er hr (g.bind fun b h1 b' m1 H1 _ k1 hr1 r1 g1 => ?_)
    cases r1
    cases b with
    | false =>
      simp only [Bool.false_eq_true, if_false] at g1 ⊢
      exact sr X c w W tk env h1 m1 σ H1 _ (er.keep hr k1) hr1 g1
    | true =>
      simp only [if_true] at g1 ⊢
      exact g1 true m1 H1 (.refl _ _) hr1 rfl
theorem simE_one {a : MP.E} {op : BoolOp} {pa : Expr} {pos : Pos} (sa : SimE tb N cs Φ G k sc fb a pa) : SimE tb N cs Φ G k sc fb (.one a) (.BoolOp op [pa] pos) :=
  fun X c w W tk env hp m σ H Q er hr g => by
    refine ER.of (pe_one (per X pa)) ?_
    rw [MP.eE_one] at g
    exact sa X c w W tk env hp m σ H _ er hr g
theorem simW_one {a : MP.E} {op : BoolOp} {pa : Expr} {pos : Pos} (sa : SimT tb N cs Φ G k sc fb a pa) : SimW tb N cs Φ G k sc fb (.one a) (.BoolOp op [pa] pos) :=
  fun X c w W tk env hp m σ H Q er hr g => by
    unfold tE at g
    rw [MP.eE_one] at g
    have q := sa X c w W tk env hp m σ H _ er hr g
    cases op with
    | And => exact WR.of (pw_and1 (ptr X pa)) q
    | Or => exact WR.of (pw_or1 (ptr X pa)) q
theorem simE_nt {a : MP.E} {pa : Expr} {pos : Pos} (sa : SimE tb N cs Φ G k sc fb a pa) : SimE tb N cs Φ G k sc fb (.nt a) (.UnaryOp .Not pa pos) :=
  fun X c w W tk env hp m σ H Q er hr g => by
    refine ER.of (pe_notT (per X pa)) ?_
    rw [MP.eE_nt] at g
    refine sa X c w W tk env hp m σ H _ er hr (g.bind fun d1 h1 v1 m1 H1 _ k1 hr1 r1 g1 => ?_)
    obtain ⟨b, e, g2⟩ := g1.optBind
    exact ⟨b, truthy_rel hr1 r1 e, g2.here hr1 (.bl _)⟩
theorem simT_nt {a : MP.E} {pa : Expr} {pos : Pos} (sa : SimT tb N cs Φ G k sc fb a pa) : SimT tb N cs Φ G k sc fb (.nt a) (.UnaryOp .Not pa pos) :=
  fun X c w W tk env hp m σ H Q er hr g => by
    refine TR.of (pt_not (ptr X pa)) ?_
    rw [tE_not] at g
    refine sa X c w W tk env hp m σ H _ er hr (g.bind fun b h1 b' m1 H1 _ k1 hr1 r1 g1 => ?_)
    cases r1
    exact g1 _ m1 H1 (.refl _ _) hr1 rfl
theorem simE_ite {d a b : MP.E} {pd pa pb : Expr} {pos : Pos} (sd : SimT tb N cs Φ G k sc fb d pd) (sa : SimE tb N cs Φ G k sc fb a pa) (sb : SimE tb N cs Φ G k sc fb b pb) : SimE tb N cs Φ G k sc fb (.ite d a b) (.IfExp pd pa pb pos) :=
  fun X c w W tk env hp m σ H Q er hr g => by
    refine ER.of (pe_ifExp (ptr X pd) (per X pa) (per X pb)) ?_
    rw [MP.eE_ite] at g
    have e0 : ∀ (r : MP.R MP.D) (f : Bool → MP.Heap → MP.R MP.D), (r.bind fun x h1 => (MP.tru x h1).bind f) = (r.bind MP.tru).bind f := fun r f => by cases r <;> rfl
    rw [e0] at g
    refine sd X c w W tk env hp m σ H _ er hr (g.bind fun q h1 q' m1 H1 _ k1 hr1 r1 g1 => ?_)
    cases r1
    cases q with
    | true =>
      simp only [if_true] at g1 ⊢
      exact sa X c w W tk env h1 m1 σ H1 _ (er.keep hr k1) hr1 g1
    | false =>
      simp only [Bool.false_eq_true, if_false] at g1 ⊢
      exact sb X c w W tk env h1 m1 σ H1 _ (er.keep hr k1) hr1 g1
theorem simT_ite {d a b : MP.E} {pd pa pb : Expr} {pos : Pos} (sd : SimT tb N cs Φ G k sc fb d pd) (sa : SimT tb N cs Φ G k sc fb a pa) (sb : SimT tb N cs Φ G k sc fb b pb) : SimT tb N cs Φ G k sc fb (.ite d a b) (.IfExp pd pa pb pos) :=
  fun X c w W tk env hp m σ H Q er hr g => by
    refine (WR.of (pt_ifExp (ptr X pd) (ptr X pa) (ptr X pb)) ?_).tr
    rw [tE_ite] at g
    refine sd X c w W tk env hp m σ H _ er hr (g.bind fun q h1 q' m1 H1 _ k1 hr1 r1 g1 => ?_)
    cases r1
    cases q with
    | true =>
      simp only [if_true] at g1 ⊢
      exact sa X c w W tk env h1 m1 σ H1 _ (er.keep hr k1) hr1 g1
    | false =>
      simp only [Bool.false_eq_true, if_false] at g1 ⊢
      exact sb X c w W tk env h1 m1 σ H1 _ (er.keep hr k1) hr1 g1
theorem simE_idx {a b : MP.E} {pa pb : Expr} {pos : Pos} (hp' : PlainIx pb) (sa : SimE tb N cs Φ G k sc fb a pa) (sb : SimE tb N cs Φ G k sc fb b pb) : SimE tb N cs Φ G k sc fb (.idx a b) (.Subscript pa pb pos) :=
  fun X c w W tk env hp m σ H Q er hr g => by
    refine ER.of (pe_ix (ixV X) (per X pa) (per X pb) hp') ?_
    rw [MP.eE_idx] at g
    refine sa X c w W tk env hp m σ H _ er hr (g.bind fun d1 h1 v1 m1 H1 _ k1 hr1 r1 g1 => ?_)
    refine sb X c w W tk env h1 m1 σ H1 _ (er.keep hr k1) hr1 (g1.bind fun d2 h2 v2 m2 H2 _ k2 hr2 r2 g2 => ?_)
    obtain ⟨d, e, g3⟩ := g2.opt
    exact opJ_sound c.wo c.hu hr2 (r1.keep hr1.mut k2) r2 e fun v r => g3.here hr2 r
/-- a slice's part -/
def OR (X : Cx) (pe : Option Expr) : TO := fun σ H Q => ∀ pins s, Inv X pins σ H s → wpAny (model X.prog X.w) X.A (evalPart pe X.env) (fun u s' => ∃ o H', Inv X pins σ H' s' ∧ IsPart u o ∧ Q o H') X.xe s
theorem por (X : Cx) (pe : Option Expr) : PO X pe (OR X pe) := ⟨fun pins s σ H Q I h => h pins s I⟩
theorem OR.of {X : Cx} {pe : Option Expr} {σ : L2.St} {H : Hp} {t : TO} {Q : Option Int → Hp → Prop} (h : PO X pe t) (q : t σ H Q) : OR X pe σ H Q := fun pins s I => h.run pins s σ H Q I q
def SimO (tb : Tb) (N : List Str) (cs : List Addr) (Φ : Nat → List MP.D → MP.Heap → MP.R MP.D) (G : List MP.D) (k : Nat) (sc : Scope) (fb : Str → Bool) (e : MP.E) (pe : Option Expr) : Prop := ∀ (X : Cx), Cg X N sc fb k → WldX tb cs Φ G k X → ∀ (W : WX), Takes X W → ∀ (env : MP.Env) (h : MP.Heap) (m : Pl) (σ : L2.St) (H : Hp) (Q : Option Int → Hp → Prop),
  EnvR X.K m H env σ → HR X.K m h H → Gd X.K (fun _ _ (o o' : Option Int) => o = o') m H ((MP.eE Φ G e env h).bind fun d h => MP.R.opt h (MP.part d)) Q (Zw cs W σ) → OR X pe σ H Q
theorem simO_none : SimO tb N cs Φ G k sc fb (.con .und) none := fun X c w W tk env h m σ H Q er hr g => OR.of po_none (by rw [MP.eE_con] at g; exact g none m H (.refl _ _) hr rfl)
theorem simO_some {a : MP.E} {pa : Expr} (sa : SimE tb N cs Φ G k sc fb a pa) : SimO tb N cs Φ G k sc fb a (some pa) := fun X c w W tk env h m σ H Q er hr g => by
  refine OR.of (po_some (per X pa)) ?_
  refine sa X c w W tk env h m σ H _ er hr (g.bind fun d1 h1 v1 m1 H1 _ k1 hr1 r1 g1 => ?_)
  obtain ⟨o, q, g2⟩ := g1.opt
  have := g2 o m1 H1 (.refl _ _) hr1 rfl
  unfold MP.part at q
  split at q
  · cases r1
  · cases q; cases r1; exact ⟨_, rfl, this⟩
  · cases q
theorem simE_slc {imm : Bool} {a lo hi : MP.E} {pa : Expr} {pl ph : Option Expr} {p2 pos : Pos} (sa : SimE tb N cs Φ G k sc fb a pa) (sl : SimO tb N cs Φ G k sc fb lo pl) (sh : SimO tb N cs Φ G k sc fb hi ph) : SimE tb N cs Φ G k sc fb (.slc imm a lo hi) (.Subscript pa (.Slice pl ph none p2) pos) :=
  fun X c w W tk env hp m σ H Q er hr g => by
    refine ER.of (pe_slice (slV X) (per X pa) (por X pl) (por X ph)) ?_
    rw [MP.eE_slc] at g
    refine sa X c w W tk env hp m σ H _ er hr (g.bind fun d1 h1 v1 m1 H1 _ k1 hr1 r1 g1 => ?_)
    refine sl X c w W tk env h1 m1 σ H1 _ (er.keep hr k1) hr1 (g1.bind fun l h2 l' m2 H2 _ k2 hr2 e2 g2 => ?_)
    subst e2
    refine sh X c w W tk env h2 m2 σ H2 _ ((er.keep hr k1).keep hr1 k2) hr2 (g2.bind fun u h3 u' m3 H3 _ k3 hr3 e3 g3 => ?_)
    subst e3
    exact opS_sound hr3 ((r1.keep hr1.mut k2).keep hr2.mut k3) g3
theorem simE_rev {imm : Bool} {a : MP.E} {pa : Expr} {kk : Nat} {p1 p2 p3 pos : Pos} (sa : SimE tb N cs Φ G k sc fb a pa) : SimE tb N cs Φ G k sc fb (.rev imm a) (.Subscript pa (.Slice none none (some (.UnaryOp .USub (.Constant (.int 1) kk p1) p2)) p3) pos) :=
  fun X c w W tk env hp m σ H Q er hr g => by
    refine ER.of (pe_rev (per X pa)) ?_
    rw [MP.eE_rev] at g
    refine sa X c w W tk env hp m σ H _ er hr (g.bind fun d1 h1 v1 m1 H1 _ k1 hr1 r1 g1 => ?_)
    unfold MP.opV at g1
    rcases remade_rel hr1 r1 g1 with ⟨a, xs, vs, rfl, rfl, h1, q, g⟩ | ⟨a, xs, vs, rfl, h1, q, g⟩
    · exact .inr ⟨_, _, rfl, h1, fun p hp => new_tup g hr1 q.reverse p hp⟩
    · exact .inl ⟨_, _, rfl, .of h1, (new_lst g hr1 q.reverse).2⟩
theorem simE_call {f : Nat} {x : Str} {es : MP.E} {pe : Expr} {pes : List Expr} {p pos : Pos} (h : tb.fn[f]? = some x) (gl : glB sc x = true) (n : nmB x = true) (ha : TrA tb N sc fb es (pe :: pes)) (sa : SimA tb N cs Φ G k sc fb es (pe :: pes)) :
    SimE tb N cs Φ G k sc fb (.call f es) (.Call (.Name x p) (pe :: pes) [] pos) :=
  fun X c w W tk env hp m σ H Q er hr g => by
    obtain ⟨n1, n2, n3⟩ := nm1 n
    obtain ⟨a, fd, ps, e1, e2, e3, e4, e5⟩ := w.fns f x h
    have hn : starEach (pe :: pes) X.env = (false, eval pe X.env) :: starEach pes X.env := by cases ha with | cons h q => exact h.nostar _ _
    have hpl : (backTo pos (starEach pes X.env)).any (·.1) = false := by cases ha with | cons h q => exact q.noplain _ _
    refine ER.of (pe_callS (E := WE W) e4 c.room (c.gl gl) e1 e2 e3 (passAt tk) (par X _) n1 hn hpl) ?_
    rw [MP.eE_call] at g
    refine sa X c w W tk env hp m σ H _ er hr (gd_args g fun ds h1 vs m1 H1 e k1 hr1 r1 g1 => ?_)
    refine ⟨?_, m1, h1, ds, hr1, r1, g1⟩
    rw [← r1.length]
    exact e5 ds h1 fun z => by
      have : MP.args (MP.D.tup ds) = ds := rfl
      rw [this, z] at g1
      exact g1
theorem simE_blt {f : MP.Blt} {x : Str} {fv : Value} {es : MP.E} {pe : Expr} {pes : List Expr} {p pos : Pos} (h : plainF f = some (x, fv)) (mm : x ∈ tb.bl) (gl : glB sc x = true) (ha : TrA tb N sc fb es (pe :: pes)) (sa : SimA tb N cs Φ G k sc fb es (pe :: pes)) :
    SimE tb N cs Φ G k sc fb (.blt f es) (.Call (.Name x p) (pe :: pes) [] pos) :=
  fun X c w W tk env hp m σ H Q er hr g => by
    obtain ⟨b1, b2, b3⟩ := plainF_spec h
    obtain ⟨n1, n2, n3⟩ := nm1 b2
    have hn : starEach (pe :: pes) X.env = (false, eval pe X.env) :: starEach pes X.env := by cases ha with | cons h q => exact h.nostar _ _
    have hpl : (backTo pos (starEach pes X.env)).any (·.1) = false := by cases ha with | cons h q => exact q.noplain _ _
    rw [MP.eE_blt] at g
    rcases b3 with ⟨id, rfl⟩ | ⟨T, rfl⟩
    · refine ER.of (pe_callB (callV X _) (c.gl gl) (w.blt x mm) b1 (par X _) n3 n1 hn hpl) ?_
      exact sa X c w W tk env hp m σ H _ er hr (gd_args g fun ds h1 vs m1 H1 e k1 hr1 r1 g1 => opF_sound h c.calm c.wo c.hu hr1 r1 g1)
    · refine ER.of (pe_callTy (callV X _) (c.gl gl) (w.blt x mm) b1 (par X _) n3 n1 hn hpl) ?_
      exact sa X c w W tk env hp m σ H _ er hr (gd_args g fun ds h1 vs m1 H1 e k1 hr1 r1 g1 => opF_sound h c.calm c.wo c.hu hr1 r1 g1)
theorem simE_isi {t : MP.Ty} {a : MP.E} {pa : Expr} {p p2 pos : Pos} (mm : ("isinstance" : Str) ∈ tb.bl) (gl : glB sc "isinstance" = true) (m2 : Str.ofString (tyN t) ∈ tb.bl) (g2 : glB sc (Str.ofString (tyN t)) = true) (hn : ∀ es (env : Env), starEach (pa :: es) env = (false, eval pa env) :: starEach es env)
    (sa : SimE tb N cs Φ G k sc fb a pa) : SimE tb N cs Φ G k sc fb (.blt (.isinst t) (.cons a .nil)) (.Call (.Name "isinstance" p) [pa, .Name (Str.ofString (tyN t)) p2] [] pos) :=
  fun X c w W tk env hp m σ H Q er hr g => by
    obtain ⟨t1, t2⟩ := tyN_spec t
    obtain ⟨n1, n2, n3⟩ := nm1 t2
    have pt : PE X (.Name (Str.ofString (tyN t)) p2) (tC (.ty (tyN t))) := pe_bltn (c.gl g2) (w.blt _ m2) t1 rfl n3 n1
    refine ER.of (pe_callB (x := "isinstance") (id := "isinstance") (callV X _) (c.gl gl) (w.blt _ mm) (by decide +kernel) (pa_cons (per X pa) (pa_cons pt pa_nil) (hn _ _)) (by decide) (by decide) (hn _ _) rfl) ?_
    rw [MP.eE_blt, MP.eE_cons] at g
    have e0 : ∀ {α : Type} (r : MP.R α) (f : α → MP.Heap → MP.R MP.D) (q : MP.D → MP.Heap → MP.R MP.D), (r.bind f).bind q = r.bind fun x h => (f x h).bind q := fun r f q => by cases r <;> rfl
    rw [e0] at g
    refine sa X c w W tk env hp m σ H _ er hr (g.bind fun d1 h1 v1 m1 H1 _ k1 hr1 r1 g1 => ?_)
    exact isinst_sound hr1 r1 g1
theorem listR1 {imm : Bool} {d : MP.D} {h : MP.Heap} : MP.opF (.listR imm) [d] h = (match d with | .int b => if MP.big62 b && decide (b ≤ 4096) then MP.newL imm ((MP.rangeI 0 b).map .int) h else .bad | _ => .bad) := by
  cases d <;> rfl
theorem listR2 {imm : Bool} {d e : MP.D} {h : MP.Heap} : MP.opF (.listR imm) [d, e] h = (match d, e with | .int a, .int b => if MP.big62 a && MP.big62 b && decide (b - a ≤ 4096) then MP.newL imm ((MP.rangeI a b).map .int) h else .bad | _, _ => .bad) := by
  cases d <;> cases e <;> rfl
theorem rgV_eq (a b : Int) : (MP.rangeI a b).map V.int = rgV a b := by
  unfold MP.rangeI rgV
  rw [List.map_map]
  rfl
theorem simE_lrg1 {imm : Bool} {a : MP.E} {pa : Expr} {p p2 p3 pos : Pos} (mm : ("list" : Str) ∈ tb.bl) (gl : glB sc "list" = true) (m2 : ("range" : Str) ∈ tb.bl) (g2 : glB sc "range" = true) (hn : ∀ es (env : Env), starEach (pa :: es) env = (false, eval pa env) :: starEach es env)
    (sa : SimE tb N cs Φ G k sc fb a pa) : SimE tb N cs Φ G k sc fb (.blt (.listR imm) (.cons a .nil)) (.Call (.Name "list" p) [.Call (.Name "range" p2) [pa] [] p3] [] pos) :=
  fun X c w W tk env hp m σ H Q er hr g => by
    refine ER.of (pe_listRg c.calm (c.gl gl) (w.blt _ mm) (prg_1 (c.gl g2) (w.blt _ m2) (per X pa) (hn _ _)) rfl) ?_
    rw [MP.eE_blt, MP.eE_cons] at g
    have e0 : ∀ {α : Type} (r : MP.R α) (f : α → MP.Heap → MP.R MP.D) (q : MP.D → MP.Heap → MP.R MP.D), (r.bind f).bind q = r.bind fun x h => (f x h).bind q := fun r f q => by cases r <;> rfl
    rw [e0] at g
    refine sa X c w W tk env hp m σ H _ er hr (g.bind fun d1 h1 v1 m1 H1 _ k1 hr1 r1 g1 => ?_)
    have g3 : Gd X.K (Rel X.K) m1 H1 (MP.opF (.listR imm) [d1] h1) Q (Zw cs W σ) := g1
    rw [listR1] at g3
    cases d1 with
    | int b =>
      dsimp only at g3
      split at g3
      · rename_i hb
        cases r1
        simp only [MP.big62, Bool.and_eq_true, decide_eq_true_eq] at hb
        refine ⟨_, rfl, ⟨by decide, by decide, by omega, by omega, ?_⟩, ?_⟩
        · have : (b - 0).toNat ≤ 4096 := by omega
          exact Nat.le_trans this (by decide)
        · rw [← rgV_eq]; exact (new_lst g3 hr1 (rels_ints _)).2
      · exact g3.elim
    | _ => exact g3.elim
theorem simE_lrg2 {imm : Bool} {a b : MP.E} {pa pb : Expr} {p p2 p3 pos : Pos} (mm : ("list" : Str) ∈ tb.bl) (gl : glB sc "list" = true) (m2 : ("range" : Str) ∈ tb.bl) (g2 : glB sc "range" = true) (hn : ∀ es (env : Env), starEach (pa :: es) env = (false, eval pa env) :: starEach es env) (hn2 : ∀ es (env : Env), starEach (pb :: es) env = (false, eval pb env) :: starEach es env)
    (sa : SimE tb N cs Φ G k sc fb a pa) (sb : SimE tb N cs Φ G k sc fb b pb) : SimE tb N cs Φ G k sc fb (.blt (.listR imm) (.cons a (.cons b .nil))) (.Call (.Name "list" p) [.Call (.Name "range" p2) [pa, pb] [] p3] [] pos) :=
  fun X c w W tk env hp m σ H Q er hr g => by
    refine ER.of (pe_listRg c.calm (c.gl gl) (w.blt _ mm) (prg_2 (c.gl g2) (w.blt _ m2) (per X pa) (per X pb) (hn _ _) (hn2 _ _) (by rw [hn2]; rfl)) rfl) ?_
    rw [MP.eE_blt, MP.eE_cons] at g
    have e0 : ∀ (r : MP.R MP.D) (f : MP.D → MP.Heap → MP.R MP.D) (q : MP.D → MP.Heap → MP.R MP.D), (r.bind f).bind q = r.bind fun x h => (f x h).bind q := fun r f q => by cases r <;> rfl
    rw [e0] at g
    refine sa X c w W tk env hp m σ H _ er hr (g.bind fun d1 h1 v1 m1 H1 _ k1 hr1 r1 g1 => ?_)
    rw [MP.eE_cons, e0, e0] at g1
    refine sb X c w W tk env h1 m1 σ H1 _ (er.keep hr k1) hr1 (g1.bind fun d2 h2 v2 m2 H2 _ k2 hr2 r2 g2' => ?_)
    have g3 : Gd X.K (Rel X.K) m2 H2 (MP.opF (.listR imm) [d1, d2] h2) Q (Zw cs W σ) := g2'
    rw [listR2] at g3
    cases d1 with
    | int a =>
      cases d2 with
      | int b =>
        dsimp only at g3
        split at g3
        · rename_i hb
          cases r1; cases r2
          simp only [MP.big62, Bool.and_eq_true, decide_eq_true_eq] at hb
          refine ⟨_, _, rfl, rfl, ⟨by omega, by omega, by omega, by omega, ?_⟩, ?_⟩
          · have : (b - a).toNat ≤ 4096 := by omega
            exact Nat.le_trans this (by decide)
          · rw [← rgV_eq]; exact (new_lst g3 hr2 (rels_ints _)).2
        · exact g3.elim
      | _ => exact g3.elim
    | _ => exact g3.elim
theorem simE_rpr {a : MP.E} {pa : Expr} {p pos : Pos} (mm : ("repr" : Str) ∈ tb.bl) (gl : glB sc "repr" = true) (l : fb RPR = true) (hn : ∀ es (env : Env), starEach (pa :: es) env = (false, eval pa env) :: starEach es env)
    (sa : SimE tb N cs Φ G k sc fb a pa) : SimE tb N cs Φ G k sc fb (.blt .repr (.cons a .nil)) (.Call (.Name "repr" p) [pa] [] pos) :=
  fun X c w W tk env hp m σ H Q er hr g => by
    refine ER.of (pe_callB (x := "repr") (id := "repr") (call_reprD (c.gd l) c.hu) (c.gl gl) (w.blt _ mm) (by decide +kernel) (pa_cons (per X pa) pa_nil (hn _ _)) (by decide) (by decide) (hn _ _) rfl) ?_
    rw [MP.eE_blt, MP.eE_cons] at g
    have e0 : ∀ {α : Type} (r : MP.R α) (f : α → MP.Heap → MP.R MP.D) (q : MP.D → MP.Heap → MP.R MP.D), (r.bind f).bind q = r.bind fun x h => (f x h).bind q := fun r f q => by cases r <;> rfl
    rw [e0] at g
    refine sa X c w W tk env hp m σ H _ er hr (g.bind fun d1 h1 v1 m1 H1 _ k1 hr1 r1 g1 => ?_)
    have g3 : Gd X.K (Rel X.K) m1 H1 (MP.opF .repr [d1] h1) Q (Zw cs W σ) := g1
    cases d1 with
    | tup xs =>
      have g4 : Gd X.K (Rel X.K) m1 H1 (if ((MP.D.tup xs).flat MP.DEEP && MP.D.rps xs && decide (MP.D.bks xs ≤ 100000)) = true then .ok (.str (MP.D.tup xs).shw) h1 else .bad) Q (Zw cs W σ) := g3
      split at g4
      · rename_i hh
        rw [Bool.and_eq_true, Bool.and_eq_true, decide_eq_true_eq] at hh
        obtain ⟨⟨f1, f2⟩, f3⟩ := hh
        obtain ⟨s1, s2, s3, s4⟩ := rps_show xs f2
        have dp := flat_dp _ _ _ f1 r1
        have sh : (PyData.tuple (toPys xs)).shown.cps.toList = (MP.D.tup xs).shw := shown_shw (.tup xs) f2
        cases r1 with
        | tup h2 r2 =>
          refine ⟨_, toPys xs, rfl, dp, s1, s2, Nat.le_trans (flat_lay _ _ f1).2 (by decide), (by
            have a := PyData.shown_le_bulk 31 (by decide) (.tuple (toPys xs)) s3
            have b : (PyData.tuple (toPys xs)).bulk = MP.D.bks xs := s4
            have c : (31 + 2) * (PyData.tuple (toPys xs)).bulk ≤ 33 * 100000 := Nat.mul_le_mul (Nat.le_refl _) (by omega)
            rw [sizeLine_eq]
            omega), ?_⟩
          rw [← sh] at g4
          exact g4.here hr1 (.str _)
      · exact g4.elim
    | _ => exact g3.elim
theorem simE_sst {imm : Bool} {a : MP.E} {pa : Expr} {p p2 p3 pos : Pos} (mm : ("sorted" : Str) ∈ tb.bl) (gl : glB sc "sorted" = true) (m2 : ("set" : Str) ∈ tb.bl) (g2 : glB sc "set" = true) (hn : ∀ es (env : Env), starEach (pa :: es) env = (false, eval pa env) :: starEach es env)
    (sa : SimE tb N cs Φ G k sc fb a pa) : SimE tb N cs Φ G k sc fb (.blt (.sortedSet imm) (.cons a .nil)) (.Call (.Name "sorted" p) [.Call (.Name "set" p2) [pa] [] p3] [] pos) :=
  fun X c w W tk env hp m σ H Q er hr g => by
    refine ER.of (pe_sortSet c.calm (c.gl gl) (w.blt _ mm) (c.gl g2) (w.blt _ m2) (per X pa) (hn _ _)) ?_
    rw [MP.eE_blt, MP.eE_cons] at g
    have e0 : ∀ {α : Type} (r : MP.R α) (f : α → MP.Heap → MP.R MP.D) (q : MP.D → MP.Heap → MP.R MP.D), (r.bind f).bind q = r.bind fun x h => (f x h).bind q := fun r f q => by cases r <;> rfl
    rw [e0] at g
    refine sa X c w W tk env hp m σ H _ er hr (g.bind fun d1 h1 v1 m1 H1 _ k1 hr1 r1 g1 => ?_)
    have g3 : Gd X.K (Rel X.K) m1 H1 ((MP.R.opt h1 ((MP.rlist h1 d1).bind MP.intsOf)).bind fun ns h => if ns.length < 64 then MP.newL imm ((MP.sortI (MP.nubI ns)).map .int) h else .bad) Q (Zw cs W σ) := g1
    obtain ⟨ns, e, g4⟩ := g3.optBind
    simp only [Option.bind_eq_some_iff] at e
    obtain ⟨ys, e1, e2⟩ := e
    obtain ⟨b, us, rfl, hs, q⟩ := rlist_rel hr1 r1 e1
    have := q.intsOf e2; subst this
    split at g4
    · rename_i few
      exact ⟨_, _, rfl, .of hs, few, (new_lst g4 hr1 (rels_ints _)).2⟩
    · exact g4.elim
theorem simE_lns {a : MP.E} {pa : Expr} {p p2 p3 pos : Pos} (mm : ("len" : Str) ∈ tb.bl) (gl : glB sc "len" = true) (m2 : ("set" : Str) ∈ tb.bl) (g2 : glB sc "set" = true) (hn : ∀ es (env : Env), starEach (pa :: es) env = (false, eval pa env) :: starEach es env)
    (sa : SimE tb N cs Φ G k sc fb a pa) : SimE tb N cs Φ G k sc fb (.blt .lenSet (.cons a .nil)) (.Call (.Name "len" p) [.Call (.Name "set" p2) [pa] [] p3] [] pos) :=
  fun X c w W tk env hp m σ H Q er hr g => by
    refine ER.of (pe_lenSetD c.calm (c.gl gl) (w.blt _ mm) (c.gl g2) (w.blt _ m2) (per X pa) (hn _ _)) ?_
    rw [MP.eE_blt, MP.eE_cons] at g
    have e0 : ∀ {α : Type} (r : MP.R α) (f : α → MP.Heap → MP.R MP.D) (q : MP.D → MP.Heap → MP.R MP.D), (r.bind f).bind q = r.bind fun x h => (f x h).bind q := fun r f q => by cases r <;> rfl
    rw [e0] at g
    refine sa X c w W tk env hp m σ H _ er hr (g.bind fun d1 h1 v1 m1 H1 _ k1 hr1 r1 g1 => ?_)
    have g3 : Gd X.K (Rel X.K) m1 H1 ((MP.R.opt h1 ((MP.rlist h1 d1).bind MP.intsOf)).bind fun ns h => if ns.length < 64 then .ok (.int ((MP.nubI ns).length : Nat)) h else .bad) Q (Zw cs W σ) := g1
    obtain ⟨ns, e, g4⟩ := g3.optBind
    simp only [Option.bind_eq_some_iff] at e
    obtain ⟨ys, e1, e2⟩ := e
    obtain ⟨b, us, rfl, hs, q⟩ := rlist_rel hr1 r1 e1
    have := q.intsOf e2; subst this
    split at g4
    · rename_i few
      exact ⟨_, _, rfl, .of hs, few, g4.here hr1 (.int _)⟩
    · exact g4.elim
theorem isL_ty {K : PySem.W.Frag} {m : Pl} {H : Hp} {h : MP.Heap} {d : MP.D} {v : V} (hr : HR K m h H) (r : Rel K m H d v) (e : MP.isL h d = some ()) : tyV K "list" v H := by
  unfold MP.isL at e
  split at e
  · split at e
    · rename_i e1
      cases r with
      | ref h1 =>
      obtain ⟨a, us, e2, e3, q⟩ := hr.lst e1
      rw [h1] at e2; cases e2
      exact .inl ⟨rfl, _, .of e3⟩
    · cases e
  · cases e
theorem simE_mth {f : MP.Mth} {o es : MP.E} {po pe : Expr} {pes : List Expr} {apos pos : Pos} (hb : ∀ (x : Str) (env : Env) (w : Sem Value), attributeBase po x env w = w) (hl : (apos.endLine == pos.line) = true) (hlen : decide ((pe :: pes).length < 30) = true)
    (ha : TrA tb N sc fb es (pe :: pes)) (so : SimE tb N cs Φ G k sc fb o po) (sa : SimA tb N cs Φ G k sc fb es (pe :: pes)) : SimE tb N cs Φ G k sc fb (.mth f o es) (.Call (.Attribute po (mtN f) apos) (pe :: pes) [] pos) :=
  fun X c w W tk env hp m σ H Q er hr g => by
    have hn : starEach (pe :: pes) X.env = (false, eval pe X.env) :: starEach pes X.env := by cases ha with | cons h q => exact h.nostar _ _
    have hpl : (backTo pos (starEach pes X.env)).any (·.1) = false := by cases ha with | cons h q => exact q.noplain _ _
    have hfew : ((backTo pos (starEach (pe :: pes) X.env)).all (fun x => !x.1) && (backToKw pos (keywordEach [] X.env)).all (fun x => x.1.isSome)
      && decide ((pe :: pes).length + ([] : List Keyword).length + (if ([] : List Keyword).isEmpty then 0 else 1) < 30)) = true := by
      rw [ha.stars, Bool.true_and, Bool.and_eq_true]
      exact ⟨rfl, by simpa using hlen⟩
    refine ER.of (pe_bm PySem.F.plainAttrs_list (mt_slot f) (mt_type f) (mtV X _) (per X po) (par X _) (hb _ _ _) hfew hl hn hpl) ?_
    rw [MP.eE_mth] at g
    refine so X c w W tk env hp m σ H _ er hr (g.bind fun d1 h1 v1 m1 H1 _ k1 hr1 r1 g1 => ?_)
    obtain ⟨u, e, g2⟩ := g1.optBind
    refine ⟨isL_ty hr1 r1 e, sa X c w W tk env h1 m1 σ H1 _ (er.keep hr k1) hr1 (gd_args g2 fun ds h2 vs m2 H2 _ k2 hr2 r2 g3 => ?_)⟩
    exact (opM_sound hr2 (r1.keep hr1.mut k2) r2 g3).2
theorem simE_mth0 {f : MP.Mth} {o : MP.E} {po : Expr} {apos pos : Pos} (hb : ∀ (x : Str) (env : Env) (w : Sem Value), attributeBase po x env w = w) (hl : (apos.endLine == pos.line) = true)
    (so : SimE tb N cs Φ G k sc fb o po) : SimE tb N cs Φ G k sc fb (.mth f o .nil) (.Call (.Attribute po (mtN f) apos) [] [] pos) :=
  fun X c w W tk env hp m σ H Q er hr g => by
    refine ER.of (pe_bm0 PySem.F.plainAttrs_list (mt_slot f) (mt_type f) (mtV X _) (per X po) (hb _ _ _) hl) ?_
    rw [MP.eE_mth] at g
    refine so X c w W tk env hp m σ H _ er hr (g.bind fun d1 h1 v1 m1 H1 _ k1 hr1 r1 g1 => ?_)
    obtain ⟨u, e, g2⟩ := g1.optBind
    exact opM_sound hr1 r1 .nil g2
end
end MPS
namespace MPS
open PySem PySem.Spec PyProof.Rows L2 PySem.W
variable [Tbs]
/-! ### what is walked: a list or a tuple, told by its value -/
def iAny (K : PySem.W.Frag) (tl : TE) : TI := fun σ H R => tl σ H fun x H1 => ∃ a, x = .ref a ∧ (((∃ xs, SqL K H1 a xs) ∧ R (Itl K a) H1) ∨ ((∃ xs, SqT K H1 a xs) ∧ R (Itt K a) H1))
theorem pi_any {X : Cx} {tg l : Expr} {tl : TE} (hl : PE X l tl) : PI X tg l (iAny X.K tl) := by
  refine ⟨fun pins s σ H R I h => ?_⟩
  refine thn (hl.run pins s σ H _ I h) fun v s1 ⟨x, H1, I1, r1, q1⟩ => ?_
  obtain ⟨a, e, q1⟩ := q1
  subst e
  cases r1
  rcases q1 with ⟨⟨xs, hq⟩, q⟩ | ⟨⟨xs, hq⟩, q⟩
  · obtain ⟨its, rv, p, hz⟩ := I1.list hq
    refine wpAny_pyIter_list p.isList ?_
    refine ⟨s1.heap.objs.size, [s1.heap.objs.size], _, _, H1, rfl, I1.kept (t' := s1.toks) fun b o e => Heap.get?_push_of_some _ e, turn_list a _, ⟨_, Heap.get?_push_size _ rfl, rfl, rfl⟩, fun b hb => ?_, q⟩
    have e : b = s1.heap.objs.size := by simpa using hb
    subst e
    exact I1.fpOk (Nat.le_refl _) (I1.hok.fresh (Nat.le_refl _))
  · obtain ⟨its, rv, p, hz⟩ := I1.tuple hq
    refine wpAny_pyIter_tuple (show s1.heap.IsTuple a its.toArray from p) ?_
    refine ⟨s1.heap.objs.size, [s1.heap.objs.size], _, _, H1, rfl, I1.kept (t' := s1.toks) fun b o e => Heap.get?_push_of_some _ e, turn_tuple a _, ⟨_, Heap.get?_push_size _ rfl, rfl, rfl⟩, fun b hb => ?_, q⟩
    have e : b = s1.heap.objs.size := by simpa using hb
    subst e
    exact I1.fpOk (Nat.le_refl _) (I1.hok.fresh (Nat.le_refl _))
def IR (X : Cx) (tg iter : Expr) : TI := fun σ H R => ∀ pins s, Inv X pins σ H s → wpAny (model X.prog X.w) X.A (eval iter X.env) (fun v s1 => wpAny (model X.prog X.w) X.A (pyIter v) (PIE X pins σ tg R) X.xe s1) X.xe s
theorem pir (X : Cx) (tg iter : Expr) : PI X tg iter (IR X tg iter) := ⟨fun pins s σ H R I h => h pins s I⟩
theorem IR.of {X : Cx} {tg iter : Expr} {σ : L2.St} {H : Hp} {t : TI} {R : It → Hp → Prop} (h : PI X tg iter t) (q : t σ H R) : IR X tg iter σ H R := fun pins s I => h.run pins s σ H R I q
def relI (K : PySem.W.Frag) : Pl → Hp → (List MP.D × MP.Gd) → It → Prop := fun m H p J => Wk K J p.1 p.2 m H
/-- what is walked, as a result -/
def iE (Φ : Nat → List MP.D → MP.Heap → MP.R MP.D) (G : List MP.D) (k : MP.ItK) (ia : MP.E) (env : MP.Env) (h : MP.Heap) : MP.R (List MP.D × MP.Gd) := (MP.eE Φ G ia env h).bind fun ds h1 => MP.R.opt h1 (MP.iterOf k (MP.args ds) h1)
def SimI (tb : Tb) (N : List Str) (cs : List Addr) (Φ : Nat → List MP.D → MP.Heap → MP.R MP.D) (G : List MP.D) (k : Nat) (sc : Scope) (fb : Str → Bool) (ik : MP.ItK) (ia : MP.E) (tg pi : Expr) : Prop := ∀ (X : Cx), Cg X N sc fb k → WldX tb cs Φ G k X → ∀ (W : WX), Takes X W → ∀ (env : MP.Env) (h : MP.Heap) (m : Pl) (σ : L2.St) (H : Hp) (R : It → Hp → Prop),
  EnvR X.K m H env σ → HR X.K m h H → Gd X.K (relI X.K) m H (iE Φ G ik ia env h) R (Zw cs W σ) → IR X tg pi σ H R
section
variable {tb : Tb} {N : List Str} {cs : List Addr} {Φ : Nat → List MP.D → MP.Heap → MP.R MP.D} {G : List MP.D} {k : Nat}
variable {sc : Scope} {fb : Str → Bool}
theorem bind_assoc {α β γ : Type} (r : MP.R α) (f : α → MP.Heap → MP.R β) (q : β → MP.Heap → MP.R γ) : (r.bind f).bind q = r.bind fun x h => (f x h).bind q := by cases r <;> rfl
theorem simI_gen {a : MP.E} {pa tg : Expr} (sa : SimE tb N cs Φ G k sc fb a pa) : SimI tb N cs Φ G k sc fb .gen (.cons a .nil) tg pa :=
  fun X c w W tk env hp m σ H R er hr g => by
    refine IR.of (pi_any (per X pa)) ?_
    unfold iE at g
    rw [MP.eE_cons, bind_assoc] at g
    refine sa X c w W tk env hp m σ H _ er hr (g.bind fun d1 h1 v1 m1 H1 _ k1 hr1 r1 g1 => ?_)
    have g2 : Gd X.K (relI X.K) m1 H1 (MP.R.opt h1 (MP.iterOf .gen [d1] h1)) R (Zw cs W σ) := g1
    obtain ⟨p, e, g3⟩ := g2.opt
    have e : (MP.items h1 d1).map (fun xs => (xs, MP.gdOf h1 d1)) = some p := e
    have e' := Option.map_eq_some_iff.mp e
    obtain ⟨xs, e9, rfl⟩ := e'
    rcases seq_later hr1 r1 e9 with ⟨a, rfl, q, L⟩ | ⟨a, rfl, q, L⟩
    · exact ⟨a, rfl, .inl ⟨q, g3 _ m1 H1 (.refl _ _) hr1 (wk_list L)⟩⟩
    · exact ⟨a, rfl, .inr ⟨q, g3 _ m1 H1 (.refl _ _) hr1 (wk_tup L)⟩⟩
theorem iter_rng {ds : List MP.D} {h : MP.Heap} {p : List MP.D × MP.Gd} (e : MP.iterOf .rng ds h = some p) : (∃ b, ds = [.int b] ∧ MP.big62 b = true ∧ p = ((MP.rangeI 0 b).map .int, [])) ∨ ∃ a b, ds = [.int a, .int b] ∧ MP.big62 a = true ∧ MP.big62 b = true ∧ p = ((MP.rangeI a b).map .int, []) := by
  unfold MP.iterOf at e
  split at e <;> try contradiction
  · split at e
    · rename_i hb; cases e; exact .inl ⟨_, rfl, hb, rfl⟩
    · cases e
  · split at e
    · rename_i hb
      rw [Bool.and_eq_true] at hb
      cases e
      exact .inr ⟨_, _, rfl, hb.1, hb.2, rfl⟩
    · cases e
theorem simI_rng1 {a : MP.E} {pa tg : Expr} {p pos : Pos} (mm : ("range" : Str) ∈ tb.bl) (gl : glB sc "range" = true) (hn : ∀ es (env : Env), starEach (pa :: es) env = (false, eval pa env) :: starEach es env) (sa : SimE tb N cs Φ G k sc fb a pa) : SimI tb N cs Φ G k sc fb .rng (.cons a .nil) tg (.Call (.Name "range" p) [pa] [] pos) :=
  fun X c w W tk env hp m σ H R er hr g => by
    refine IR.of (pi_range1 (c.gl gl) (w.blt _ mm) (pa_cons (per X pa) pa_nil (hn _ _)) (hn _ _)) ?_
    unfold iE at g
    rw [MP.eE_cons, bind_assoc] at g
    refine sa X c w W tk env hp m σ H _ er hr (g.bind fun d1 h1 v1 m1 H1 _ k1 hr1 r1 g1 => ?_)
    have g2 : Gd X.K (relI X.K) m1 H1 (MP.R.opt h1 (MP.iterOf .rng [d1] h1)) R (Zw cs W σ) := g1
    obtain ⟨q, e, g3⟩ := g2.opt
    rcases iter_rng e with ⟨b, e1, hb, rfl⟩ | ⟨a, b, e1, _⟩
    · cases e1
      cases r1
      simp only [MP.big62, Bool.and_eq_true, decide_eq_true_eq] at hb
      refine ⟨b, rfl, by omega, by omega, g3 _ m1 H1 (.refl _ _) hr1 ?_⟩
      have := wk_range (K := X.K) (m0 := m1) (H0 := H1) (a := 0) (b := b)
      rw [Int.sub_zero] at this
      exact this
    · cases e1
theorem simI_rng2 {a b : MP.E} {pa pb tg : Expr} {p pos : Pos} (mm : ("range" : Str) ∈ tb.bl) (gl : glB sc "range" = true) (hn : ∀ es (env : Env), starEach (pa :: es) env = (false, eval pa env) :: starEach es env) (hn2 : ∀ es (env : Env), starEach (pb :: es) env = (false, eval pb env) :: starEach es env)
    (sa : SimE tb N cs Φ G k sc fb a pa) (sb : SimE tb N cs Φ G k sc fb b pb) : SimI tb N cs Φ G k sc fb .rng (.cons a (.cons b .nil)) tg (.Call (.Name "range" p) [pa, pb] [] pos) :=
  fun X c w W tk env hp m σ H R er hr g => by
    refine IR.of (pi_range2 (c.gl gl) (w.blt _ mm) (pa_cons (per X pa) (pa_cons (per X pb) pa_nil (hn2 _ _)) (hn _ _)) (by rw [hn, hn2]; rfl) (hn2 _ _)) ?_
    unfold iE at g
    rw [MP.eE_cons, bind_assoc] at g
    refine sa X c w W tk env hp m σ H _ er hr (g.bind fun d1 h1 v1 m1 H1 _ k1 hr1 r1 g1 => ?_)
    rw [MP.eE_cons, bind_assoc, bind_assoc] at g1
    refine sb X c w W tk env h1 m1 σ H1 _ (er.keep hr k1) hr1 (g1.bind fun d2 h2 v2 m2 H2 _ k2 hr2 r2 g1' => ?_)
    have g2 : Gd X.K (relI X.K) m2 H2 (MP.R.opt h2 (MP.iterOf .rng [d1, d2] h2)) R (Zw cs W σ) := g1'
    obtain ⟨q, e, g3⟩ := g2.opt
    rcases iter_rng e with ⟨b, e1, _⟩ | ⟨a, b, e1, ha, hb, rfl⟩
    · cases e1
    · cases e1
      cases r1; cases r2
      simp only [MP.big62, Bool.and_eq_true, decide_eq_true_eq] at ha hb
      exact ⟨a, b, rfl, ⟨by omega, by omega, by omega, by omega⟩, g3 _ m2 H2 (.refl _ _) hr2 wk_range⟩
theorem simI_enum {a : MP.E} {pa : Expr} {ts : List Expr} {kk : Nat} {tp p pos : Pos} (mm : ("enumerate" : Str) ∈ tb.bl) (gl : glB sc "enumerate" = true) (hn : ∀ es (env : Env), starEach (pa :: es) env = (false, eval pa env) :: starEach es env) (sa : SimE tb N cs Φ G k sc fb a pa) :
    SimI tb N cs Φ G k sc fb .enum (.cons a .nil) (.Tuple ts kk tp) (.Call (.Name "enumerate" p) [pa] [] pos) :=
  fun X c w W tk env hp m σ H R er hr g => by
    refine IR.of (pi_enB (c.gl gl) (w.blt _ mm) (pa_cons (per X pa) pa_nil (hn _ _)) (hn _ _)) ?_
    unfold iE at g
    rw [MP.eE_cons, bind_assoc] at g
    refine sa X c w W tk env hp m σ H _ er hr (g.bind fun d1 h1 v1 m1 H1 _ k1 hr1 r1 g1 => ?_)
    have g2 : Gd X.K (relI X.K) m1 H1 (MP.R.opt h1 (MP.iterOf .enum [d1] h1)) R (Zw cs W σ) := g1
    obtain ⟨q, e, g3⟩ := g2.opt
    have gen : (MP.rlist h1 d1).map (fun xs => (MP.enumD 0 xs, MP.gdOf h1 d1)) = some q → ∃ a xs, [v1] = [.ref a] ∧ ((SqL X.K H1 a xs ∧ R (Ite X.K a) H1) ∨ (SqT X.K H1 a xs ∧ R (ItT X.K a) H1)) := fun e => by
      obtain ⟨xs, e9, rfl⟩ := Option.map_eq_some_iff.mp e
      obtain ⟨a, rfl, ⟨vs, q⟩, L⟩ := list_later hr1 r1 e9
      exact ⟨a, vs, rfl, .inl ⟨q, g3 _ m1 H1 (.refl _ _) hr1 (wk_enum L)⟩⟩
    cases d1 with
    | tup xs =>
      cases e
      rcases seq_later hr1 r1 (show MP.items h1 (.tup xs) = some xs from rfl) with z | ⟨a, rfl, ⟨vs, q⟩, L⟩
      · cases r1 with
        | tup hS rs =>
        exact ⟨_, _, rfl, .inr ⟨hS, g3 _ m1 H1 (.refl _ _) hr1 (wk_enumT fun m h H k hr => ⟨_, SqT.keepW hr1.mut k hS, Rels.keepW hr1.mut k rs⟩)⟩⟩
      · exact ⟨a, vs, rfl, .inr ⟨q, g3 _ m1 H1 (.refl _ _) hr1 (wk_enumT L)⟩⟩
    | _ => exact gen e
theorem gdOk_append {h : MP.Heap} {g g' : MP.Gd} : MP.gdOk h (g ++ g') = (MP.gdOk h g && MP.gdOk h g') := by unfold MP.gdOk; rw [List.all_append]
def rowD : Bool → MP.Heap → MP.D → List MP.D → Prop
  | true, _, d, xs => d = .tup xs
  | false, h, d, xs => MP.rlist h d = some xs
theorem gdOf_tup (h : MP.Heap) (xs : List MP.D) : MP.gdOf h (.tup xs) = [] := rfl
theorem iter_zip {d e : MP.D} {h : MP.Heap} {p : List MP.D × MP.Gd} (q : MP.iterOf .zip [d, e] h = some p) : ∃ k l xs ys, rowD k h d xs ∧ rowD l h e ys ∧ p = (MP.zipD xs ys, MP.gdOf h d ++ MP.gdOf h e) := by
  have gen : (MP.rlist h d).bind (fun xs => (MP.rlist h e).map fun ys => (MP.zipD xs ys, MP.gdOf h d ++ MP.gdOf h e)) = some p → ∃ k l xs ys, rowD k h d xs ∧ rowD l h e ys ∧ p = (MP.zipD xs ys, MP.gdOf h d ++ MP.gdOf h e) := fun q => by
    simp only [Option.bind_eq_some_iff, Option.map_eq_some_iff] at q
    obtain ⟨xs, e1, ys, e2, rfl⟩ := q
    exact ⟨false, false, xs, ys, e1, e2, rfl⟩
  have genL : ∀ xs, d = .tup xs → (MP.rlist h e).map (fun ys => (MP.zipD xs ys, MP.gdOf h e)) = some p → ∃ k l xs ys, rowD k h d xs ∧ rowD l h e ys ∧ p = (MP.zipD xs ys, MP.gdOf h d ++ MP.gdOf h e) := fun xs hd q => by
    simp only [Option.map_eq_some_iff] at q
    obtain ⟨ys, e2, rfl⟩ := q
    exact ⟨true, false, xs, ys, hd, e2, by rw [hd, gdOf_tup, List.nil_append]⟩
  have genR : ∀ ys, e = .tup ys → (MP.rlist h d).map (fun xs => (MP.zipD xs ys, MP.gdOf h d)) = some p → ∃ k l xs ys, rowD k h d xs ∧ rowD l h e ys ∧ p = (MP.zipD xs ys, MP.gdOf h d ++ MP.gdOf h e) := fun ys he q => by
    simp only [Option.map_eq_some_iff] at q
    obtain ⟨xs, e2, rfl⟩ := q
    exact ⟨false, true, xs, ys, e2, he, by rw [he, gdOf_tup, List.append_nil]⟩
  cases d <;> cases e <;> first
    | exact gen q
    | exact genL _ rfl q
    | exact genR _ rfl q
    | (cases q; exact ⟨true, true, _, _, rfl, rfl, rfl⟩)
theorem row_later {k : Bool} {K : PySem.W.Frag} {m : Pl} {h : MP.Heap} {H : Hp} {d : MP.D} {v : V} {xs : List MP.D} (hr : HR K m h H) (r : Rel K m H d v) (e : rowD k h d xs) :
    ∃ a, v = .ref a ∧ (∃ vs, SqB k K H a vs) ∧ ∀ m' h' H', Kw m H m' H' → HR K m' h' H' → MP.gdOk h' (MP.gdOf h d) = true → ∃ vs, SqB k K H' a vs ∧ Rels K m' H' xs vs := by
  cases k with
  | false =>
    obtain ⟨a, rfl, ⟨vs, q⟩, L⟩ := list_later hr r e
    exact ⟨a, rfl, ⟨vs, q⟩, L⟩
  | true =>
    have e : d = .tup xs := e
    subst e
    cases r with
    | tup q1 r3 => exact ⟨_, rfl, ⟨_, q1⟩, fun m' h' H' k hr' _ => ⟨_, SqT.keepW hr.mut k q1, r3.keepW hr.mut k⟩⟩
theorem simI_zip {a b : MP.E} {pa pb : Expr} {ts : List Expr} {kk : Nat} {tp p pos : Pos} (mm : ("zip" : Str) ∈ tb.bl) (gl : glB sc "zip" = true) (hn : ∀ es (env : Env), starEach (pa :: es) env = (false, eval pa env) :: starEach es env) (hn2 : ∀ es (env : Env), starEach (pb :: es) env = (false, eval pb env) :: starEach es env)
    (sa : SimE tb N cs Φ G k sc fb a pa) (sb : SimE tb N cs Φ G k sc fb b pb) : SimI tb N cs Φ G k sc fb .zip (.cons a (.cons b .nil)) (.Tuple ts kk tp) (.Call (.Name "zip" p) [pa, pb] [] pos) :=
  fun X c w W tk env hp m σ H R er hr g => by
    refine IR.of (pi_zipB (c.gl gl) (w.blt _ mm) (pa_cons (per X pa) (pa_cons (per X pb) pa_nil (hn2 _ _)) (hn _ _)) (hn _ _) (by rw [hn2]; rfl)) ?_
    unfold iE at g
    rw [MP.eE_cons, bind_assoc] at g
    refine sa X c w W tk env hp m σ H _ er hr (g.bind fun d1 h1 v1 m1 H1 _ k1 hr1 r1 g1 => ?_)
    rw [MP.eE_cons, bind_assoc, bind_assoc] at g1
    refine sb X c w W tk env h1 m1 σ H1 _ (er.keep hr k1) hr1 (g1.bind fun d2 h2 v2 m2 H2 _ k2 hr2 r2 g1' => ?_)
    have g2 : Gd X.K (relI X.K) m2 H2 (MP.R.opt h2 (MP.iterOf .zip [d1, d2] h2)) R (Zw cs W σ) := g1'
    obtain ⟨q, e, g3⟩ := g2.opt
    have r1' := r1.keep hr1.mut k2
    obtain ⟨k1', l1', xs, ys, e1, e2, rfl⟩ := iter_zip e
    obtain ⟨a, rfl, ⟨vs, q1⟩, L1⟩ := row_later hr2 r1' e1
    obtain ⟨b, rfl, ⟨us, q2⟩, L2⟩ := row_later hr2 r2 e2
    refine ⟨_, _, _, _, _, _, rfl, q1, q2, g3 _ m2 H2 (.refl _ _) hr2 (wk_zipB fun m h H k hr hg => ?_)⟩
    rw [gdOk_append, Bool.and_eq_true] at hg
    exact ⟨L1 m h H k hr hg.1, L2 m h H k hr hg.2⟩
/-- what is walked, from its parts -/
theorem simI {ik : MP.ItK} {ia : MP.E} {tg pi : Expr} (ih : ∀ a, sizeOf a < sizeOf ia → ∀ pe, TrE tb N sc fb a pe → SimE tb N cs Φ G k sc fb a pe) (h : TrI tb N sc fb ik ia tg pi) : SimI tb N cs Φ G k sc fb ik ia tg pi := by
  cases h with
  | gen h => exact simI_gen (ih _ (by simp; omega) _ h)
  | rng mm gl h hl =>
    cases h with
    | nil => simp at hl
    | cons h q =>
    cases q with
    | nil => exact simI_rng1 mm gl (h.nostar) (ih _ (by simp; omega) _ h)
    | cons h2 q =>
    cases q with
    | nil => exact simI_rng2 mm gl h.nostar h2.nostar (ih _ (by simp; omega) _ h) (ih _ (by simp; omega) _ h2)
    | cons h3 q => simp at hl
  | enum mm gl h => exact simI_enum mm gl h.nostar (ih _ (by simp; omega) _ h)
  | zip mm gl h q => exact simI_zip mm gl h.nostar q.nostar (ih _ (by simp; omega) _ h) (ih _ (by simp; omega) _ q)
end
end MPS
namespace MPS
open PySem PySem.Spec PyProof.Rows L2 PySem.W
variable [Tbs]
/-! ### targets of names -/
mutual
def gOf (K : PySem.W.Frag) : MP.E → TG
  | .var i => gName i
  | .tup es => gTup K (MP.elen es) (gsOf K es)
  | _ => fun _ _ _ _ => False
def gsOf (K : PySem.W.Frag) : MP.E → TGs
  | .nil => gNil
  | .cons a r => gCons (gOf K a) (gsOf K r)
  | _ => fun _ _ _ _ => False
end
section
variable {N : List Str} {sc : Scope} {fb : Str → Bool} {k : Nat} {X : Cx}
theorem TrT.each {e : MP.E} {pe : Expr} (h : TrT N sc fb e pe) (es : List Expr) (env : Env) : assignEach (pe :: es) env = (false, assign pe env) :: assignEach es env := by cases h <;> rfl
theorem TrTs.len : ∀ {e : MP.E} {pes : List Expr}, TrTs N sc fb e pes → ∀ env, (assignEach pes env).length = MP.elen e ∧ (assignEach pes env).findIdx? (·.1) = none
  | _, _, .nil, _ => ⟨rfl, rfl⟩
  | _, _, .cons h q, env => by
    rw [h.each]
    obtain ⟨h1, h2⟩ := TrTs.len q env
    exact ⟨by simp [h1, MP.elen], by rw [List.findIdx?_cons]; simp [h2]⟩
theorem loc_ne {x : Str} (h : locB sc x = true) : x ≠ LAM ∧ x ≠ RPR := by
  unfold locB at h
  rw [Bool.and_eq_true, Bool.and_eq_true] at h
  obtain ⟨⟨h1, h2⟩, _⟩ := h
  exact ⟨fun z => by rw [z] at h1; simp at h1, fun z => by rw [z] at h2; simp at h2⟩
theorem Cg.fbx (c : Cg X N sc fb k) {x : Str} (l : locB sc x = true) : X.fn x = fb x := c.fb x (loc_ne l).1 (loc_ne l).2
theorem loc_of {x : Str} (h : locB sc x = true) : Loc sc x := by
  unfold locB at h
  rw [Bool.and_eq_true] at h
  replace h := h.2
  split at h
  · rename_i e; exact .inl e
  · rename_i e; exact .inr e
  · cases h
mutual
theorem pgOf (c : Cg X N sc fb k) : ∀ {tg : MP.E} {ptg : Expr}, TrT N sc fb tg ptg → PG X ptg (gOf X.K tg)
  | _, _, .var h l f => pg_name (by rw [c.nn]; exact c.nd) (by rw [c.nn]; exact h) (by rw [c.sc]; exact loc_of l) (by rw [c.fbx l, c.sc]; exact f)
  | _, _, .tup h => pg_tup c.calm (pgsOf c h) (h.len _).1 (h.len _).2
theorem pgsOf (c : Cg X N sc fb k) : ∀ {tg : MP.E} {pts : List Expr}, TrTs N sc fb tg pts → PGs X pts (gsOf X.K tg)
  | _, _, .nil => pgs_nil
  | _, _, .cons h q => pgs_cons (pgOf c h) (pgsOf c q) (by rw [h.each]; rfl)
end
end
/-- outside S nothing has changed -/
def Out (S : List Nat) (σ σ' : L2.St) : Prop := σ'.length = σ.length ∧ ∀ j, j ∉ S → σ'[j]? = σ[j]?
theorem Out.refl (S : List Nat) (σ : L2.St) : Out S σ σ := ⟨rfl, fun _ _ => rfl⟩
theorem wipe_ext {σ σ' : L2.St} (S : List Nat) (h : Out S σ σ') : wipe σ' S = wipe σ S := by
  apply List.ext_getElem?
  intro j
  by_cases hj : j ∈ S
  · have : ∀ (τ : L2.St) (T : List Nat), j ∈ T → (wipe τ T)[j]? = if j < τ.length then some none else none := fun τ T => by
      induction T with
      | nil => intro h; cases h
      | cons v vs ih =>
        intro h
        unfold wipe
        by_cases hv : v = j
        · subst hv
          by_cases hl : v < τ.length
          · rw [List.getElem?_set_self (by rw [wipe_length]; exact hl), if_pos hl]
          · rw [List.getElem?_eq_none (by rw [List.length_set, wipe_length]; omega), if_neg hl]
        · rw [List.getElem?_set_ne hv]
          exact ih ((List.mem_cons.mp h).resolve_left (Ne.symm hv))
    rw [this _ _ hj, this _ _ hj, h.1]
  · rw [wipe_out hj, wipe_out hj, h.2 j hj]
theorem Out.wipe (S : List Nat) (σ : L2.St) : Out S σ (wipe σ S) := ⟨wipe_length _ _, fun j hj => wipe_out hj⟩
theorem Out.trans {S : List Nat} {a b c : L2.St} (h : Out S a b) (g : Out S b c) : Out S a c := ⟨g.1.trans h.1, fun j hj => (g.2 j hj).trans (h.2 j hj)⟩
theorem Out.mono {S T : List Nat} {a b : L2.St} (h : Out S a b) (st : ∀ i ∈ S, i ∈ T) : Out T a b := ⟨h.1, fun j hj => h.2 j fun z => hj (st j z)⟩
section
variable {K : PySem.W.Frag} {m m' : Pl} {H H' : Hp} {h h' : MP.Heap}
theorem EnvR.clr {env : MP.Env} {σ : L2.St} (e : EnvR K m H env σ) : ∀ S : List Nat, EnvR K m H (MP.clr env S) (wipe σ S)
  | [] => e
  | v :: vs => by
    have ih := EnvR.clr e vs
    refine ⟨by simp [MP.clr, L2.wipe, ih.1], fun j d e1 e2 => ?_⟩
    unfold MP.clr at e1
    unfold L2.wipe
    by_cases hj : v = j
    · subst hj
      by_cases hl : v < (MP.clr env vs).length
      · rw [List.getElem?_set_self hl] at e1; cases e1; exact absurd rfl e2
      · rw [List.getElem?_eq_none (by rw [List.length_set]; omega)] at e1; cases e1
    · rw [List.getElem?_set_ne hj] at e1 ⊢
      exact ih.2 j d e1 e2
mutual
theorem bind_ok : ∀ {tg : MP.E} {d : MP.D} {v : V} {env env' : MP.Env} {σ : L2.St} {Q : L2.St → Hp → Prop}, EnvR K m H env σ → Rel K m H d v → MP.bindT tg d env = some env' → (∀ σ', EnvR K m H env' σ' → Out (MP.tgI tg) σ σ' → Q σ' H) → gOf K tg v σ H Q
  | .var i, d, v, env, env', σ, Q, er, r, e, q => by
    unfold MP.bindT at e
    split at e
    · rename_i hi
      cases e
      refine q _ (er.set r hi) ⟨List.length_set, fun j hj => ?_⟩
      rw [List.getElem?_set_ne]
      intro z; exact hj (by simp [MP.tgI, z])
    · cases e
  | .tup es, .tup ds, v, env, env', σ, Q, er, r, e, q => by
    cases r with
    | tup h1 r =>
    unfold MP.bindT at e
    have := binds_ok er r e q
    exact ⟨_, _, rfl, h1, this.1, this.2⟩
theorem binds_ok : ∀ {tg : MP.E} {ds : List MP.D} {vs : List V} {env env' : MP.Env} {σ : L2.St} {Q : L2.St → Hp → Prop}, EnvR K m H env σ → Rels K m H ds vs → MP.bindTs tg ds env = some env' → (∀ σ', EnvR K m H env' σ' → Out (MP.tgI tg) σ σ' → Q σ' H) → vs.length = MP.elen tg ∧ gsOf K tg vs σ H Q
  | .nil, [], _, env, env', σ, Q, er, .nil, e, q => by
    unfold MP.bindTs at e; cases e
    exact ⟨rfl, rfl, q σ er (.refl _ _)⟩
  | .cons a r, d :: ds, _ :: vs, env, env', σ, Q, er, .cons r1 r2, e, q => by
    unfold MP.bindTs at e
    rw [Option.bind_eq_some_iff] at e
    obtain ⟨env1, e1, e2⟩ := e
    have hl : vs.length = MP.elen r := by
      have : ∀ {tg : MP.E} {ds : List MP.D} {env env' : MP.Env}, MP.bindTs tg ds env = some env' → ds.length = MP.elen tg := by
        intro tg
        induction tg with
        | nil => intro ds env env' e; cases ds with | nil => rfl | cons _ _ => simp [MP.bindTs] at e
        | cons a r iha ihr =>
          intro ds env env' e
          cases ds with
          | nil => simp [MP.bindTs] at e
          | cons d ds =>
            unfold MP.bindTs at e
            rw [Option.bind_eq_some_iff] at e
            obtain ⟨env1, e1, e2⟩ := e
            simp [MP.elen, ihr e2]
        | _ => intro ds env env' e; simp [MP.bindTs] at e
      rw [← r2.length]; exact this e2
    refine ⟨by simp [MP.elen, hl], _, _, rfl, bind_ok er r1 e1 fun σ1 er1 o1 => ?_⟩
    refine (binds_ok er1 r2 e2 fun σ2 er2 o2 => q σ2 er2 ?_).2
    exact (o1.mono (by intro i hi; simp [MP.tgI, hi])).trans (o2.mono (by intro i hi; simp [MP.tgI, hi]))
end
end
end MPS
namespace MPS
open PySem PySem.Spec PyProof.Rows L2 PySem.W
variable [Tbs]
/-! ### a list that is being made -/
/-- a step that also writes the list at D -/
structure Kd (D : Addr) (m : Pl) (H : Hp) (m' : Pl) (H' : Hp) : Prop where
  pre : ∃ t, m'.at_ = m.at_ ++ t
  ban : m'.ban = m.ban
  keep : ∀ a o, H a = some o → NT o → a ∉ m.at_ → a ≠ D → H' a = some o ∧ a ∉ m'.at_
theorem Kp.d {D : Addr} {m m' : Pl} {H H' : Hp} (k : Kp m H m' H') : Kd D m H m' H' := ⟨k.pre, k.ban, fun a o h nt n _ => k.keep a o h nt n⟩
theorem Kd.refl {D : Addr} {m : Pl} {H : Hp} : Kd D m H m H := (Kp.refl m H).d
theorem Kd.trans {D : Addr} {m m1 m2 : Pl} {H H1 H2 : Hp} (a : Kd D m H m1 H1) (b : Kd D m1 H1 m2 H2) : Kd D m H m2 H2 := by
  obtain ⟨t, e1⟩ := a.pre
  obtain ⟨u, e2⟩ := b.pre
  refine ⟨⟨t ++ u, by rw [e2, e1]; simp⟩, b.ban.trans a.ban, fun x o h nt n nd => ?_⟩
  obtain ⟨h1, n1⟩ := a.keep x o h nt n nd
  exact b.keep x o h1 nt n1 nd
theorem Kd.w {D : Addr} {m m' : Pl} {H H' : Hp} (k : Kd D m H m' H') (hD : D ∈ m.ban) : Kw m H m' H' :=
  ⟨fun n a h => by obtain ⟨t, e⟩ := k.pre; rw [e, List.getElem?_append_left (List.getElem?_eq_some_iff.mp h).1]; exact h, fun a o h nt n nb => by
    have := k.keep a o h nt n (fun z => nb (z ▸ hD))
    exact ⟨this.1, this.2, by rw [k.ban]; exact nb⟩⟩
theorem Kd.write {D : Addr} {m : Pl} {H : Hp} {o : HO} : Kd D m H m (upd H D o) := ⟨⟨[], by simp⟩, rfl, fun a u h _ n nd => ⟨by rw [upd_ne nd]; exact h, n⟩⟩
section
variable {K : PySem.W.Frag} {m m' : Pl} {H H' : Hp} {h h' : MP.Heap}
theorem EnvR.keepW {env : MP.Env} {σ : L2.St} (e : EnvR K m H env σ) (hr : HR K m h H) (k : Kw m H m' H') : EnvR K m' H' env σ :=
  ⟨e.1, fun i d e1 e2 => let ⟨v, e3, r⟩ := e.2 i d e1 e2; ⟨v, e3, r.keepW hr.mut k⟩⟩
theorem HR.hide (r : HR K m h H) {D : Addr} {vs : List V} (hD : H D = none) : HR K (m.hide D) h (upd H D (.lst vs)) ∧ Kw m H (m.hide D) (upd H D (.lst vs)) := by
  have k : Kw m H (m.hide D) (upd H D (.lst vs)) := ⟨fun n a e => e, fun a o e _ n nb => ⟨by rw [upd_ne (ne_of_none e hD)]; exact e, n, by simp [nb, ne_of_none e hD]⟩⟩
  refine ⟨⟨r.len, r.nd, fun n a ob e1 e2 => (r.ob n a ob e1 e2).keepAt r.mut k (upd_ne fun z => ?_), fun a ha => ?_, tabs_new r.tb hD⟩, k⟩
  · subst z; exact r.free hD (List.mem_of_getElem? e1)
  · rcases List.mem_cons.mp ha with z | ha
    · subst z; exact ⟨by rw [upd_same]; trivial, r.free hD⟩
    · obtain ⟨e, n⟩ := r.bn a ha
      exact ⟨by rw [upd_ne (mutO_ne e hD)]; exact e, n⟩
theorem HR.banWrite (r : HR K m h H) {D : Addr} {vs : List V} (hD : D ∈ m.ban) : HR K m h (upd H D (.lst vs)) := by
  have k : Kw m H m (upd H D (.lst vs)) := (Kd.write (D := D)).w hD
  refine ⟨r.len, r.nd, fun n a ob e1 e2 => (r.ob n a ob e1 e2).keepAt r.mut k (upd_ne fun z => ?_), fun a ha => ?_, tabs_mut r.tb (r.bn D hD).1⟩
  · subst z; exact (r.bn a hD).2 (List.mem_of_getElem? e1)
  · obtain ⟨e, n⟩ := r.bn a ha
    by_cases z : a = D
    · subst z; exact ⟨by rw [upd_same]; trivial, n⟩
    · exact ⟨by rw [upd_ne z]; exact e, n⟩
/-- the list at D so far -/
structure Acc (K : PySem.W.Frag) (D : Addr) (m : Pl) (h : MP.Heap) (H : Hp) (acc : List MP.D) : Prop where
  hr : HR K m h H
  ban : D ∈ m.ban
  at_ : ∃ vs, H D = some (.lst vs) ∧ Rels K m H acc vs
theorem Acc.step {D : Addr} {acc : List MP.D} (a : Acc K D m h H acc) (k : Kp m H m' H') (hr : HR K m' h' H') : Acc K D m' h' H' acc := by
  obtain ⟨vs, e, r⟩ := a.at_
  exact ⟨hr, by rw [k.ban]; exact a.ban, vs, (k.keep _ _ e nt_lst (a.hr.bn D a.ban).2).1, r.keep a.hr.mut k⟩
theorem Acc.push {D : Addr} {acc : List MP.D} {vs : List V} {d : MP.D} {v : V} (a : Acc K D m h H acc) (e : H D = some (.lst vs)) (r : Rel K m H d v) : Acc K D m h (upd H D (.lst (vs ++ [v]))) (acc ++ [d]) := by
  obtain ⟨us, e', q⟩ := a.at_
  rw [e] at e'; cases e'
  have k : Kw m H m (upd H D (.lst (vs ++ [v]))) := (Kd.write (D := D)).w a.ban
  exact ⟨a.hr.banWrite a.ban, a.ban, _, upd_same, (q.keepW a.hr.mut k).append (.cons (r.keepW a.hr.mut k) .nil)⟩
end
/-! ### tests of a clause -/
def PTR (X : Cx) (ifs : List Expr) : TT := fun σ H Q => ∀ pins s, Inv X pins σ H s → wpAny (model X.prog X.w) X.A (forIn ifs true fun c r => if r = true then do let ok ← isTrue c X.env (eval c X.env); pure (ForInStep.yield ok) else pure (ForInStep.yield r)) (TP X pins σ Q) X.xe s
theorem ptsr (X : Cx) (ifs : List Expr) : PTs X ifs (PTR X ifs) := ⟨fun pins s σ H Q I h => h pins s I⟩
theorem PTR.of {X : Cx} {ifs : List Expr} {σ : L2.St} {H : Hp} {t : TT} {Q : Bool → Hp → Prop} (h : PTs X ifs t) (q : t σ H Q) : PTR X ifs σ H Q := fun pins s I => h.run pins s σ H Q I q
def SimC (tb : Tb) (N : List Str) (cs : List Addr) (Φ : Nat → List MP.D → MP.Heap → MP.R MP.D) (G : List MP.D) (k : Nat) (sc : Scope) (fb : Str → Bool) (e : MP.E) (ifs : List Expr) : Prop := ∀ (X : Cx), Cg X N sc fb k → WldX tb cs Φ G k X → ∀ (W : WX), Takes X W → ∀ (env : MP.Env) (h : MP.Heap) (m : Pl) (σ : L2.St) (H : Hp) (Q : Bool → Hp → Prop),
  EnvR X.K m H env σ → HR X.K m h H → Gd X.K relB m H (tE Φ G e env h) Q (Zw cs W σ) → PTR X ifs σ H Q
section
variable {tb : Tb} {N : List Str} {cs : List Addr} {Φ : Nat → List MP.D → MP.Heap → MP.R MP.D} {G : List MP.D} {k : Nat}
variable {sc : Scope} {fb : Str → Bool}
theorem simC {c : MP.E} {ifs : List Expr} (ih : ∀ pe, TrE tb N sc fb c pe → SimT tb N cs Φ G k sc fb c pe) (h : TrC tb N sc fb c ifs) : SimC tb N cs Φ G k sc fb c ifs := by
  cases h with
  | none => exact fun X c w W tk env h m σ H Q er hr g => PTR.of pts_nil (g true m H (.refl _ _) hr rfl)
  | one h => exact fun X c w W tk env hp m σ H Q er hr g => PTR.of (pts_one (ptr X _)) (ih _ h X c w W tk env hp m σ H Q er hr g)
/-- the context of a comprehension's block -/
abbrev BX (X : Cx) (scope : Scope) (s0 : Shared) (H0 : Hp) (C : Addr) (cl : List (Str × Addr)) (fp : List Addr) : Cx := X.blk s0 H0 scope (compEnvC scope cl C X.env) fp
theorem Cg.blk {X : Cx} (c : Cg X N sc fb k) (scope : Scope) (s0 : Shared) (H0 : Hp) (C : Addr) (cl : List (Str × Addr)) (fp : List Addr) : Cg (BX X scope s0 H0 C cl fp) N (relS scope sc) (cfb scope) k :=
  ⟨c.calm, c.room, c.nd, c.nn, by have := c.sc; subst this; rfl, c.wo, fun z => by simp at z, fun z => by simp at z, fun x hx hy => by show (scope.names.lookup x == some .cell) = ((!(x == LAM) && !(x == RPR)) && scope.names.lookup x == some .cell); rw [show (x == LAM) = false from by simpa using hx, show (x == RPR) = false from by simpa using hy]; rfl⟩
def teB (X : Cx) (scope : Scope) (pe : Expr) : TE := fun σ H Q => ∀ s0 H0 C cl fp, ER (BX X scope s0 H0 C cl fp) pe σ H Q
def ttB (X : Cx) (scope : Scope) (ifs : List Expr) : TT := fun σ H Q => ∀ s0 H0 C cl fp, PTR (BX X scope s0 H0 C cl fp) ifs σ H Q
def tiB (X : Cx) (scope : Scope) (tg pi : Expr) : TI := fun σ H Q => ∀ s0 H0 C cl fp, IR (BX X scope s0 H0 C cl fp) tg pi σ H Q
theorem calm_ok {α β : Type} {r : MP.R α} {f : α → MP.Heap → MP.R β} {b : β} {h : MP.Heap} (e : r.calm.bind f = .ok b h) : ∃ a h1, r = .ok a h1 ∧ f a h1 = .ok b h := by
  cases r with
  | ok a h1 => exact ⟨a, h1, rfl, e⟩
  | exc c h1 => cases e
  | bad => cases e
/-- one turn of the last clause -/
theorem elem_step {X : Cx} {tg c el : MP.E} {ifs : List Expr} {pel : Expr} {scope : Scope} {D : Addr} (cg : Cg X N sc fb k) (w : WldX tb cs Φ G k X)
    (sc' : SimC tb N cs Φ G k (relS scope sc) (cfb scope) c ifs) (se : SimE tb N cs Φ G k (relS scope sc) (cfb scope) el pel)
    {env : MP.Env} {m : Pl} {h h' : MP.Heap} {H : Hp} {σ : L2.St} {d : MP.D} {v : V} {acc : List MP.D} {o : Option MP.D} {P : L2.St → Prop} {Nx : Hp → Prop}
    (er : EnvR X.K m H env σ) (ac : Acc X.K D m h H acc) (r : Rel X.K m H d v) (e : MP.turnL Φ G tg c el env d h = .ok o h') (hz : acc.length + o.toList.length ≤ MP.SZ)
    (hP : ∀ σ2, Out (MP.tgI tg) σ σ2 → P σ2) (hN : ∀ m' H', Kd D m H m' H' → Acc X.K D m' h' H' (acc ++ o.toList) → Nx H') :
    gOf X.K tg v σ H fun σ2 H2 => P σ2 ∧ ttB X scope ifs σ2 H2 fun b H3 => if b = true then teB X scope pel σ2 H3 fun y H4 => ∃ acc, H4 D = some (.lst acc) ∧ acc.length < sizeLine ∧ Nx (upd H4 D (.lst (acc ++ [y]))) else Nx H3 := by
  unfold MP.turnL at e
  split at e
  · cases e
  rename_i env' e1
  obtain ⟨b, h1, e2, e⟩ := calm_ok e
  refine bind_ok er r e1 fun σ2 er2 o2 => ⟨hP σ2 o2, fun s0 H0 C cl fp => ?_⟩
  refine sc' _ (cg.blk scope s0 H0 C cl fp) w _ takes0 env' h m σ2 H _ er2 ac.hr ?_
  have e2 : tE Φ G c env' h = .ok b h1 := e2
  rw [e2]
  rintro b' m1 H1 k1 hr1 rfl
  cases b with
  | false =>
    simp only [Bool.false_eq_true, if_false] at e ⊢
    cases e
    exact hN m1 H1 k1.d (by rw [show acc ++ (none : Option MP.D).toList = acc from by simp]; exact ac.step k1 hr1)
  | true =>
    simp only [if_true] at e ⊢
    obtain ⟨y, h2, e3, e⟩ := calm_ok e
    cases e
    intro s0' H0' C' cl' fp'
    refine se _ (cg.blk scope s0' H0' C' cl' fp') w _ takes0 env' h1 m1 σ2 H1 _ (er2.keep ac.hr k1) hr1 ?_
    rw [e3]
    intro u m2 H2 k2 hr2 r2
    have ac2 := (ac.step k1 hr1).step k2 hr2
    obtain ⟨vs, e4, q4⟩ := ac2.at_
    refine ⟨vs, e4, ?_, hN m2 _ ((k1.trans k2).d.trans .write) (ac2.push e4 r2)⟩
    have : acc.length + 1 ≤ MP.SZ := hz
    rw [← q4.length]
    exact this
theorem compL_cons {f : MP.D → MP.Heap → MP.R (Option MP.D)} {g : MP.Gd} {x : MP.D} {xs : List MP.D} {h hE : MP.Heap} {ys : List MP.D} (e : MP.compL f g (x :: xs) h = .ok ys hE) :
    MP.gdOk h g = true ∧ ∃ o h1 ys', f x h = .ok o h1 ∧ MP.compL f g xs h1 = .ok ys' hE ∧ ys = o.toList ++ ys' := by
  unfold MP.compL at e
  split at e
  · rename_i hg
    cases e1 : f x h with
    | ok o h1 =>
      rw [e1] at e
      simp only [MP.R.bind] at e
      cases e2 : MP.compL f g xs h1 with
      | ok ys' h2 =>
        rw [e2] at e
        cases o <;> (cases e; exact ⟨hg, _, h1, ys', rfl, e2, rfl⟩)
      | exc c h2 => rw [e2] at e; cases e
      | bad => rw [e2] at e; cases e
    | exc c h1 => rw [e1] at e; cases e
    | bad => rw [e1] at e; cases e
  · cases e
theorem compL_nil {f : MP.D → MP.Heap → MP.R (Option MP.D)} {g : MP.Gd} {h hE : MP.Heap} {ys : List MP.D} (e : MP.compL f g [] h = .ok ys hE) : MP.gdOk h g = true ∧ ys = [] ∧ hE = h := by
  unfold MP.compL at e
  split at e
  · rename_i hg; cases e; exact ⟨hg, rfl, rfl⟩
  · cases e
theorem compL2_cons {f : MP.D → MP.Heap → MP.R (List MP.D)} {g : MP.Gd} {x : MP.D} {xs : List MP.D} {h hE : MP.Heap} {ys : List MP.D} (e : MP.compL2 f g (x :: xs) h = .ok ys hE) :
    MP.gdOk h g = true ∧ ∃ o h1 ys', f x h = .ok o h1 ∧ MP.compL2 f g xs h1 = .ok ys' hE ∧ ys = o ++ ys' := by
  unfold MP.compL2 at e
  split at e
  · rename_i hg
    cases e1 : f x h with
    | ok o h1 =>
      rw [e1] at e
      simp only [MP.R.bind] at e
      cases e2 : MP.compL2 f g xs h1 with
      | ok ys' h2 =>
        rw [e2] at e
        cases e; exact ⟨hg, _, h1, ys', rfl, e2, rfl⟩
      | exc c h2 => rw [e2] at e; cases e
      | bad => rw [e2] at e; cases e
    | exc c h1 => rw [e1] at e; cases e
    | bad => rw [e1] at e; cases e
  · cases e
theorem compL2_nil {f : MP.D → MP.Heap → MP.R (List MP.D)} {g : MP.Gd} {h hE : MP.Heap} {ys : List MP.D} (e : MP.compL2 f g [] h = .ok ys hE) : MP.gdOk h g = true ∧ ys = [] ∧ hE = h := by
  unfold MP.compL2 at e
  split at e
  · rename_i hg; cases e; exact ⟨hg, rfl, rfl⟩
  · cases e
theorem compL_calm {f : MP.D → MP.Heap → MP.R (Option MP.D)} {g : MP.Gd} (hf : ∀ x h c h', f x h ≠ .exc c h') : ∀ {xs : List MP.D} {h : MP.Heap} {c h'}, MP.compL f g xs h ≠ .exc c h'
  | [], h, c, h' => by unfold MP.compL; split <;> simp
  | x :: xs, h, c, h' => by
    unfold MP.compL
    split
    · cases e1 : f x h with
      | ok o h1 =>
        simp only [MP.R.bind]
        cases e2 : MP.compL f g xs h1 with
        | ok ys h2 => simp
        | exc c h2 => exact absurd e2 (compL_calm hf)
        | bad => simp
      | exc c h1 => exact absurd e1 (hf _ _ _ _)
      | bad => simp [MP.R.bind]
    · simp
theorem compL2_calm {f : MP.D → MP.Heap → MP.R (List MP.D)} {g : MP.Gd} (hf : ∀ x h c h', f x h ≠ .exc c h') : ∀ {xs : List MP.D} {h : MP.Heap} {c h'}, MP.compL2 f g xs h ≠ .exc c h'
  | [], h, c, h' => by unfold MP.compL2; split <;> simp
  | x :: xs, h, c, h' => by
    unfold MP.compL2
    split
    · cases e1 : f x h with
      | ok o h1 =>
        simp only [MP.R.bind]
        cases e2 : MP.compL2 f g xs h1 with
        | ok ys h2 => simp
        | exc c h2 => exact absurd e2 (compL2_calm hf)
        | bad => simp
      | exc c h1 => exact absurd e1 (hf _ _ _ _)
      | bad => simp [MP.R.bind]
    · simp
theorem turnL_calm {tg c el : MP.E} {env : MP.Env} {x : MP.D} {h h' : MP.Heap} {q : Nat} : MP.turnL Φ G tg c el env x h ≠ .exc q h' := by
  unfold MP.turnL
  split
  · simp
  · rename_i env' _
    cases (MP.eE Φ G c env' h).bind MP.tru with
    | ok b h1 =>
      simp only [MP.R.calm, MP.R.bind]
      cases b with
      | true =>
        simp only [if_true]
        cases MP.eE Φ G el env' h1 <;> simp
      | false => simp
    | exc c h1 => simp [MP.R.calm, MP.R.bind]
    | bad => simp [MP.R.calm, MP.R.bind]
theorem turnL2_calm {g : MP.Gd} {tg c tg1 : MP.E} {k1 : MP.ItK} {ia1 c1 el : MP.E} {env : MP.Env} {x : MP.D} {h h' : MP.Heap} {q : Nat} : MP.turnL2 Φ G g tg c tg1 k1 ia1 c1 el env x h ≠ .exc q h' := by
  unfold MP.turnL2
  split
  · simp
  · rename_i env' _
    cases (MP.eE Φ G c env' h).bind MP.tru with
    | ok b h1 =>
      simp only [MP.R.calm, MP.R.bind]
      cases b with
      | true =>
        simp only [if_true]
        cases MP.eE Φ G ia1 env' h1 with
        | ok ds h2 =>
          simp only
          split
          · simp
          · exact compL_calm fun _ _ _ _ => turnL_calm
        | exc c h1 => simp
        | bad => simp
      | false => simp
    | exc c h1 => simp [MP.R.calm, MP.R.bind]
    | bad => simp [MP.R.calm, MP.R.bind]
/-- the list is whole -/
theorem acc_done {K : PySem.W.Frag} {imm : Bool} {m1 mc : Pl} {H1 Hc : Hp} {h1 hc : MP.Heap} {D : Addr} {acc : List MP.D} {Q : VK} {Z : Nat → Hp → Prop} (hr1 : HR K m1 h1 H1) (hD : H1 D = none) (kd : Kd D (m1.hide D) (upd H1 D (.lst [])) mc Hc) (ac : Acc K D mc hc Hc acc)
    (g : Gd K (Rel K) m1 H1 (MP.newL imm acc hc) Q Z) : Q (.ref D) Hc := by
  obtain ⟨vs, e, q⟩ := ac.at_
  have hban : mc.ban = D :: m1.ban := kd.ban
  have hDa : D ∉ mc.at_ := (ac.hr.bn D ac.ban).2
  have hDb : D ∉ m1.ban := hr1.freeB hD
  have kk : ∀ a o, H1 a = some o → NT o → a ∉ m1.at_ → Hc a = some o ∧ a ∉ mc.at_ ∧ a ≠ D := fun a o h nt n => by
    have nd : a ≠ D := ne_of_none h hD
    have := kd.keep a o (by rw [upd_ne nd]; exact h) nt n nd
    exact ⟨this.1, this.2, nd⟩
  obtain ⟨t, hpre⟩ := kd.pre
  have hpre : mc.at_ = m1.at_ ++ t := hpre
  unfold MP.newL at g
  split at g
  · cases imm with
    | true =>
      simp only [if_true] at g
      have kw : Kw mc Hc ⟨mc.at_, m1.ban⟩ Hc := ⟨fun n a h => h, fun a o h _ n nb => ⟨h, n, by rw [hban] at nb; exact fun z => nb (List.mem_cons_of_mem _ z)⟩⟩
      refine g _ ⟨mc.at_, m1.ban⟩ Hc ⟨⟨t, hpre⟩, rfl, fun a o h nt n => ⟨(kk a o h nt n).1, (kk a o h nt n).2.1⟩⟩ ⟨ac.hr.len, ac.hr.nd, fun n a ob e1 e2 => (ac.hr.ob n a ob e1 e2).keepAt ac.hr.mut kw rfl, fun a ha => ac.hr.bn a (by rw [hban]; exact List.mem_cons_of_mem _ ha), ac.hr.tb⟩ (.lst e hDa hDb (q.keepW ac.hr.mut kw))
    | false =>
      simp only [Bool.false_eq_true, if_false] at g
      have kw : Kw mc Hc ⟨mc.at_ ++ [D], m1.ban⟩ Hc := ⟨fun n a h => by
        show (mc.at_ ++ [D])[n]? = _
        rw [List.getElem?_append_left (List.getElem?_eq_some_iff.mp h).1]; exact h, fun a o h _ n nb => ⟨h, by
          rw [hban] at nb
          simp only [List.mem_cons, not_or] at nb
          simp [n, nb.1], by rw [hban] at nb; exact fun z => nb (List.mem_cons_of_mem _ z)⟩⟩
      refine g _ ⟨mc.at_ ++ [D], m1.ban⟩ Hc ⟨⟨t ++ [D], by simp [hpre]⟩, rfl, fun a o h nt n => ⟨(kk a o h nt n).1, by simp [(kk a o h nt n).2.1, (kk a o h nt n).2.2]⟩⟩ ?_ (.ref ?_)
      · refine ⟨by simp [ac.hr.len], ?_, fun n a ob e1 e2 => ?_, fun a ha => ?_, ac.hr.tb⟩
        · show (mc.at_ ++ [D]).Nodup
          rw [List.nodup_append]
          exact ⟨ac.hr.nd, by simp, fun a ha b hb => by simp at hb; subst hb; exact fun z => hDa (z ▸ ha)⟩
        · have e1' : (mc.at_ ++ [D])[n]? = some a := e1
          by_cases hn : n < mc.at_.length
          · rw [List.getElem?_append_left hn] at e1'
            rw [List.getElem?_append_left (by rw [← ac.hr.len]; exact hn)] at e2
            exact (ac.hr.ob n a ob e1' e2).keepAt ac.hr.mut kw rfl
          · have hn' : n = mc.at_.length := by
              have := (List.getElem?_eq_some_iff.mp e1').1
              simp at this; omega
            subst hn'
            simp at e1'
            rw [ac.hr.len] at e2
            simp at e2
            subst e1' e2
            exact ⟨vs, e, q.keepW ac.hr.mut kw⟩
        · obtain ⟨z1, z2⟩ := ac.hr.bn a (by rw [hban]; exact List.mem_cons_of_mem _ ha)
          refine ⟨z1, ?_⟩
          simp only [List.mem_append, List.mem_singleton, not_or]
          exact ⟨z2, fun z => hDb (z ▸ ha)⟩
      · show (mc.at_ ++ [D])[hc.length]? = _
        rw [← ac.hr.len]; simp
  · exact g.elim
end
end MPS
namespace MPS
open PySem PySem.Spec PyProof.Rows L2 PySem.W
variable [Tbs]
section
variable {tb : Tb} {N : List Str} {cs : List Addr} {Φ : Nat → List MP.D → MP.Heap → MP.R MP.D} {G : List MP.D} {k : Nat}
variable {sc : Scope} {fb : Str → Bool}
theorem eE_lc' {imm : Bool} {tg c el : MP.E} {ik : MP.ItK} {ia : MP.E} {env : MP.Env} {h : MP.Heap} : MP.eE Φ G (.lc imm tg ik ia c el) env h = (iE Φ G ik ia env h).bind fun p h1 => (MP.compL (MP.turnL Φ G tg c el (MP.clr env (MP.tgI tg))) p.2 p.1 h1).bind fun ys h2 => MP.newL imm ys h2 := by
  rw [MP.eE_lc]
  unfold iE
  cases MP.eE Φ G ia env h with
  | ok ds h1 =>
    simp only [MP.R.bind]
    cases MP.iterOf ik (MP.args ds) h1 <;> rfl
  | exc c h1 => rfl
  | bad => rfl
theorem eE_lc2' {imm : Bool} {tg c tg1 c1 el : MP.E} {ik ik1 : MP.ItK} {ia ia1 : MP.E} {env : MP.Env} {h : MP.Heap} : MP.eE Φ G (.lc2 imm tg ik ia c tg1 ik1 ia1 c1 el) env h = (iE Φ G ik ia env h).bind fun p h1 => (MP.compL2 (MP.turnL2 Φ G p.2 tg c tg1 ik1 ia1 c1 el (MP.clr env (MP.tgI tg ++ MP.tgI tg1))) p.2 p.1 h1).bind fun ys h2 => MP.newL imm ys h2 := by
  rw [MP.eE_lc2]
  unfold iE
  cases MP.eE Φ G ia env h with
  | ok ds h1 =>
    simp only [MP.R.bind]
    cases MP.iterOf ik (MP.args ds) h1 <;> rfl
  | exc c h1 => rfl
  | bad => rfl
theorem newL_len {imm : Bool} {K : PySem.W.Frag} {m : Pl} {H : Hp} {xs : List MP.D} {h : MP.Heap} {Q : VK} {Z : Nat → Hp → Prop} (g : Gd K (Rel K) m H (MP.newL imm xs h) Q Z) : xs.length ≤ MP.SZ := by
  unfold MP.newL at g
  split at g
  · assumption
  · exact g.elim
theorem tlc_sound {imm : Bool} {tg : MP.E} {ik : MP.ItK} {ia c el : MP.E} {ptg pit : Expr} {ifs : List Expr} {pel : Expr} {scope : Scope} {own : List (Str × Nat)}
    (si : SimI tb N cs Φ G k sc fb ik ia ptg pit) (hb : blkC N sc scope own = true) (ho : own.map (·.2) = MP.tgI tg)
    (ht : TrT N (relS scope sc) (cfb scope) tg ptg) (sc' : SimC tb N cs Φ G k (relS scope sc) (cfb scope) c ifs) (se : SimE tb N cs Φ G k (relS scope sc) (cfb scope) el pel)
    {X : Cx} (cg : Cg X N sc fb k) (w : WldX tb cs Φ G k X) {W : WX} (tk : Takes X W) {env : MP.Env} {hp : MP.Heap} {m : Pl} {σ : L2.St} {H : Hp} {Q : VK} (er : EnvR X.K m H env σ) (hr : HR X.K m hp H) (g : Gd X.K (Rel X.K) m H (MP.eE Φ G (.lc imm tg ik ia c el) env hp) Q (Zw cs W σ)) :
    tLc (IR X ptg pit) (gOf X.K tg) (ttB X scope ifs) (teB X scope pel) (own.map (·.2)) σ H Q := by
    rw [eE_lc'] at g
    rw [ho]
    refine si X cg w W tk env hp m σ H _ er hr (g.bind fun p h1 J m1 H1 _ k1 hr1 wk g1 => ?_)
    obtain ⟨xs, gd⟩ := p
    intro D hD
    dsimp only at g1
    cases e1 : MP.compL (MP.turnL Φ G tg c el (MP.clr env (MP.tgI tg))) gd xs h1 with
    | exc q h2 => exact absurd e1 (compL_calm fun _ _ _ _ => turnL_calm)
    | bad => rw [e1] at g1; exact g1.elim
    | ok ysA hE =>
    rw [e1] at g1
    have g1 : Gd X.K (Rel X.K) m1 H1 (MP.newL imm ysA hE) Q (Zw cs W σ) := g1
    have hz := newL_len g1
    obtain ⟨hr2, kw2⟩ := hr1.hide (vs := []) hD
    refine ⟨fun i n H' => n = xs.length - i ∧ i ≤ xs.length ∧ ∃ mc hc acc ys', Kd D (m1.hide D) (upd H1 D (.lst [])) mc H' ∧ Acc X.K D mc hc H' acc ∧ MP.compL (MP.turnL Φ G tg c el (MP.clr env (MP.tgI tg))) gd (xs.drop i) hc = .ok ys' hE ∧ ysA = acc ++ ys',
      ⟨xs.length, by simp, Nat.zero_le _, m1.hide D, h1, [], ysA, .refl, ⟨hr2, List.mem_cons_self, [], upd_same, .nil⟩, by rw [List.drop_zero]; exact e1, rfl⟩, ?_⟩
    rintro i n H' ⟨rfl, hi, mc, hc, acc, ys', kd, ac, e2, e3⟩
    have kw : Kw m1 H1 mc H' := kw2.trans (kd.w List.mem_cons_self)
    by_cases hlt : i < xs.length
    · right
      rw [List.drop_eq_getElem_cons hlt] at e2
      obtain ⟨hg, o, h2, ys2, e4, e5, rfl⟩ := compL_cons e2
      obtain ⟨wk1, _⟩ := wk mc hc H' kw ac.hr hg
      obtain ⟨go, wy⟩ := wk1 i xs[i] (List.getElem?_eq_getElem hlt)
      refine ⟨go, fun H'' => ∃ mc hc acc ys', Kd D (m1.hide D) (upd H1 D (.lst [])) mc H'' ∧ Acc X.K D mc hc H'' acc ∧ MP.compL (MP.turnL Φ G tg c el (MP.clr env (MP.tgI tg))) gd (xs.drop (i + 1)) hc = .ok ys' hE ∧ ysA = acc ++ ys',
        fun H'' hN => ⟨xs.length - (i + 1), by omega, rfl, hlt, hN⟩, fun x H2 hy => ?_⟩
      obtain ⟨k2, hr2', rx⟩ := wy x H2 hy
      have ac2 := ac.step k2 hr2'
      refine elem_step cg w sc' se ((((er.keep hr k1).keepW hr1 kw).keep ac.hr k2).clr (MP.tgI tg)) ac2 rx e4 ?_ (fun σ2 o2 => wipe_ext _ ((Out.wipe _ σ).trans o2)) fun m' H'' kd' ac' => ⟨m', h2, _, ys2, kd.trans (k2.d.trans kd'), ac', e5, by rw [e3, List.append_assoc]⟩
      rw [e3] at hz
      simp only [List.length_append] at hz
      omega
    · left
      have hi' : i = xs.length := by omega
      subst hi'
      rw [List.drop_length] at e2
      obtain ⟨hg, rfl, rfl⟩ := compL_nil e2
      obtain ⟨_, st⟩ := wk mc hE H' kw ac.hr hg
      rw [List.append_nil] at e3
      rw [e3] at g1
      exact ⟨st, acc_done hr1 hD kd ac g1⟩
theorem simE_lc {imm : Bool} {tg : MP.E} {ik : MP.ItK} {ia c el : MP.E} {ptg pit : Expr} {ifs : List Expr} {pel : Expr} {scope : Scope} {own : List (Str × Nat)} {pos : Pos} (hf : ∀ (env : Env) x, foldedSetIterable pit env x = pure x)
    (si : SimI tb N cs Φ G k sc fb ik ia ptg pit) (hb : blkC N sc scope own = true) (ho : own.map (·.2) = MP.tgI tg)
    (ht : TrT N (relS scope sc) (cfb scope) tg ptg) (sc' : SimC tb N cs Φ G k (relS scope sc) (cfb scope) c ifs) (se : SimE tb N cs Φ G k (relS scope sc) (cfb scope) el pel) :
    SimE tb N cs Φ G k sc fb (.lc imm tg ik ia c el) (.ListComp pel [⟨ptg, pit, ifs, 0⟩] scope pos) :=
  fun X cg w W tk env hp m σ H Q er hr g => by
    refine ER.of (pe_lc (g := gOf X.K tg) (tt := ttB X scope ifs) (te := teB X scope pel) (own := own) cg.calm (by rw [cg.nn]; exact cg.nd) (pir X ptg pit) (by rw [cg.nn, cg.sc]; exact blkOk_by hb)
      (fun s H C cl fp => pgOf (cg.blk scope s H C cl fp) ht) (fun s H C cl fp => ⟨fun pins s' σ H' Q I h => h s H C cl fp pins s' I⟩) (fun s H C cl fp => ⟨fun pins s' σ H' Q I h => h s H C cl fp pins s' I⟩) (hf _)) ?_
    exact tlc_sound si hb ho ht sc' se cg w tk er hr g
end
end MPS
namespace MPS
open PySem PySem.Spec PyProof.Rows L2 PySem.W
variable [Tbs]
section
variable {tb : Tb} {N : List Str} {cs : List Addr} {Φ : Nat → List MP.D → MP.Heap → MP.R MP.D} {G : List MP.D} {k : Nat}
variable {sc : Scope} {fb : Str → Bool}
theorem tlc2_sound {imm : Bool} {tg tg1 : MP.E} {ik ik1 : MP.ItK} {ia ia1 c c1 el : MP.E} {ptg ptg1 pit pit1 : Expr} {ifs ifs1 : List Expr} {pel : Expr} {scope : Scope} {own : List (Str × Nat)}
    (si : SimI tb N cs Φ G k sc fb ik ia ptg pit) (hb : blkC N sc scope own = true) (ho : own.map (·.2) = MP.tgI tg ++ MP.tgI tg1)
    (ht : TrT N (relS scope sc) (cfb scope) tg ptg) (sc' : SimC tb N cs Φ G k (relS scope sc) (cfb scope) c ifs) (si1 : SimI tb N cs Φ G k (relS scope sc) (cfb scope) ik1 ia1 ptg1 pit1)
    (ht1 : TrT N (relS scope sc) (cfb scope) tg1 ptg1) (sc1 : SimC tb N cs Φ G k (relS scope sc) (cfb scope) c1 ifs1) (se : SimE tb N cs Φ G k (relS scope sc) (cfb scope) el pel)
    {X : Cx} (cg : Cg X N sc fb k) (w : WldX tb cs Φ G k X) {W : WX} (tk : Takes X W) {env : MP.Env} {hp : MP.Heap} {m : Pl} {σ : L2.St} {H : Hp} {Q : VK} (er : EnvR X.K m H env σ) (hr : HR X.K m hp H) (g : Gd X.K (Rel X.K) m H (MP.eE Φ G (.lc2 imm tg ik ia c tg1 ik1 ia1 c1 el) env hp) Q (Zw cs W σ)) :
    tLc2 (IR X ptg pit) (gOf X.K tg) (ttB X scope ifs) (tiB X scope ptg1 pit1) (gOf X.K tg1) (ttB X scope ifs1) (teB X scope pel) (own.map (·.2)) (MP.tgI tg1) σ H Q := by
    rw [eE_lc2'] at g
    rw [ho]
    generalize hS : MP.tgI tg ++ MP.tgI tg1 = S at g ⊢
    have S1 : ∀ i ∈ MP.tgI tg, i ∈ S := by subst hS; intro i hi; exact List.mem_append_left _ hi
    refine si X cg w W tk env hp m σ H _ er hr (g.bind fun p h1 J m1 H1 _ k1 hr1 wk g1 => ?_)
    obtain ⟨xs, gd⟩ := p
    intro D hD
    dsimp only at g1
    cases e1 : MP.compL2 (MP.turnL2 Φ G gd tg c tg1 ik1 ia1 c1 el (MP.clr env S)) gd xs h1 with
    | exc q h2 => exact absurd e1 (compL2_calm fun _ _ _ _ => turnL2_calm)
    | bad => rw [e1] at g1; exact g1.elim
    | ok ysA hE =>
    rw [e1] at g1
    have g1 : Gd X.K (Rel X.K) m1 H1 (MP.newL imm ysA hE) Q (Zw cs W σ) := g1
    have hz := newL_len g1
    obtain ⟨hr2, kw2⟩ := hr1.hide (vs := []) hD
    refine ⟨fun i n H' => n = xs.length - i ∧ i ≤ xs.length ∧ ∃ mc hc acc ys', Kd D (m1.hide D) (upd H1 D (.lst [])) mc H' ∧ Acc X.K D mc hc H' acc ∧ MP.compL2 (MP.turnL2 Φ G gd tg c tg1 ik1 ia1 c1 el (MP.clr env S)) gd (xs.drop i) hc = .ok ys' hE ∧ ysA = acc ++ ys',
      ⟨xs.length, by simp, Nat.zero_le _, m1.hide D, h1, [], ysA, .refl, ⟨hr2, List.mem_cons_self, [], upd_same, .nil⟩, by rw [List.drop_zero]; exact e1, rfl⟩, ?_⟩
    rintro i n H' ⟨rfl, hi, mc, hc, acc, ys', kd, ac, e2, e3⟩
    have kw : Kw m1 H1 mc H' := kw2.trans (kd.w List.mem_cons_self)
    by_cases hlt : i < xs.length
    · right
      rw [List.drop_eq_getElem_cons hlt] at e2
      obtain ⟨hg, ob, h2, ys2, e4, e5, rfl⟩ := compL2_cons e2
      obtain ⟨wk1, _⟩ := wk mc hc H' kw ac.hr hg
      obtain ⟨go, wy⟩ := wk1 i xs[i] (List.getElem?_eq_getElem hlt)
      refine ⟨go, fun H'' => ∃ mc hc acc ys', Kd D (m1.hide D) (upd H1 D (.lst [])) mc H'' ∧ Acc X.K D mc hc H'' acc ∧ MP.compL2 (MP.turnL2 Φ G gd tg c tg1 ik1 ia1 c1 el (MP.clr env S)) gd (xs.drop (i + 1)) hc = .ok ys' hE ∧ ysA = acc ++ ys',
        fun H'' hN => ⟨xs.length - (i + 1), by omega, rfl, hlt, hN⟩, fun x H2 hy => ?_⟩
      obtain ⟨k2, hr2', rx⟩ := wy x H2 hy
      have ac2 := ac.step k2 hr2'
      have er2 := (((er.keep hr k1).keepW hr1 kw).keep ac.hr k2).clr S
      unfold MP.turnL2 at e4
      split at e4
      · cases e4
      rename_i env' e6
      obtain ⟨b, h3, e7, e4⟩ := calm_ok e4
      refine bind_ok er2 rx e6 fun σ2 er3 o2 => ⟨wipe_ext _ ((Out.wipe _ σ).trans (o2.mono S1)), fun s0 H0 C cl fp => ?_⟩
      refine sc' _ (cg.blk scope s0 H0 C cl fp) w _ takes0 env' hc mc σ2 H2 _ er3 ac2.hr ?_
      have e7 : tE Φ G c env' hc = .ok b h3 := e7
      rw [e7]
      rintro b' m3 H3 k3 hr3 rfl
      have ac3 := ac2.step k3 hr3
      have er4 := er3.keep ac2.hr k3
      cases b with
      | false =>
        simp only [Bool.false_eq_true, if_false] at e4 ⊢
        cases e4
        exact ⟨m3, _, acc, ys2, kd.trans (k2.d.trans k3.d), ac3, e5, by simpa using e3⟩
      | true =>
        simp only [if_true] at e4 ⊢
        obtain ⟨ds, h4, e8, e4⟩ := calm_ok e4
        split at e4
        · cases e4
        rename_i xs1 gd1 e9
        intro s0' H0' C' cl' fp'
        refine si1 _ (cg.blk scope s0' H0' C' cl' fp') w _ takes0 env' h3 m3 σ2 H3 _ er4 hr3 ?_
        have e10 : iE Φ G ik1 ia1 env' h3 = .ok (xs1, gd1) h4 := by
          unfold iE
          rw [e8]
          show MP.R.opt h4 (MP.iterOf ik1 (MP.args ds) h4) = _
          rw [e9]; rfl
        rw [e10]
        intro J1 m4 H4 k4 hr4 wk4
        have ac4 := ac3.step k4 hr4
        have er5 := (er4.keep hr3 k4)
        refine ⟨fun j n H' => n = xs1.length - j ∧ j ≤ xs1.length ∧ ∃ mi hi acci ysi, Kd D m4 H4 mi H' ∧ Acc X.K D mi hi H' acci ∧ MP.compL (MP.turnL Φ G tg1 c1 el (MP.clr env' (MP.tgI tg1))) (gd ++ gd1) (xs1.drop j) hi = .ok ysi h2 ∧ acc ++ ob = acci ++ ysi,
          ⟨xs1.length, by simp, Nat.zero_le _, m4, h4, acc, ob, .refl, ac4, by rw [List.drop_zero]; exact e4, rfl⟩, ?_⟩
        rintro j n H5 ⟨rfl, hj, mi, hi5, acci, ysi, kdi, aci, f2, f3⟩
        have kwi : Kw m4 H4 mi H5 := kdi.w ac4.ban
        by_cases hlj : j < xs1.length
        · right
          rw [List.drop_eq_getElem_cons hlj] at f2
          obtain ⟨hg5, o, h6, ys6, f4, f5, rfl⟩ := compL_cons f2
          rw [gdOk_append, Bool.and_eq_true] at hg5
          obtain ⟨wk5, _⟩ := wk4 mi hi5 H5 kwi aci.hr hg5.2
          obtain ⟨go5, wy5⟩ := wk5 j xs1[j] (List.getElem?_eq_getElem hlj)
          refine ⟨go5, fun H'' => ∃ mi hi acci ysi, Kd D m4 H4 mi H'' ∧ Acc X.K D mi hi H'' acci ∧ MP.compL (MP.turnL Φ G tg1 c1 el (MP.clr env' (MP.tgI tg1))) (gd ++ gd1) (xs1.drop (j + 1)) hi = .ok ysi h2 ∧ acc ++ ob = acci ++ ysi,
            fun H'' hN => ⟨xs1.length - (j + 1), by omega, rfl, hlj, hN⟩, fun x5 H6 hy5 => ?_⟩
          obtain ⟨k6, hr6, rx6⟩ := wy5 x5 H6 hy5
          have ac6 := aci.step k6 hr6
          refine elem_step cg w sc1 se (((er5.keepW hr4 kwi).keep aci.hr k6).clr (MP.tgI tg1)) ac6 rx6 f4 ?_ (fun σ3 o3 => wipe_ext _ ((Out.wipe _ σ2).trans o3)) fun m' H'' kd' ac' => ⟨m', h6, _, ys6, kdi.trans (k6.d.trans kd'), ac', f5, by rw [f3, List.append_assoc]⟩
          rw [e3, ← List.append_assoc, f3] at hz
          simp only [List.length_append] at hz
          omega
        · left
          have hj' : j = xs1.length := by omega
          subst hj'
          rw [List.drop_length] at f2
          obtain ⟨hg5, rfl, rfl⟩ := compL_nil f2
          rw [gdOk_append, Bool.and_eq_true] at hg5
          obtain ⟨_, st⟩ := wk4 mi h2 H5 kwi aci.hr hg5.2
          rw [List.append_nil] at f3
          refine ⟨st, mi, h2, acci, ys2, ?_, aci, e5, by rw [e3, ← List.append_assoc, f3]⟩
          exact kd.trans (k2.d.trans (k3.d.trans (k4.d.trans kdi)))
    · left
      have hi' : i = xs.length := by omega
      subst hi'
      rw [List.drop_length] at e2
      obtain ⟨hg, rfl, rfl⟩ := compL2_nil e2
      obtain ⟨_, st⟩ := wk mc hE H' kw ac.hr hg
      rw [List.append_nil] at e3
      rw [e3] at g1
      exact ⟨st, acc_done hr1 hD kd ac g1⟩
theorem simE_lc2 {imm : Bool} {tg tg1 : MP.E} {ik ik1 : MP.ItK} {ia ia1 c c1 el : MP.E} {ptg ptg1 pit pit1 : Expr} {ifs ifs1 : List Expr} {pel : Expr} {scope : Scope} {own : List (Str × Nat)} {pos : Pos} (hf : ∀ (env : Env) x, foldedSetIterable pit env x = pure x) (hf1 : ∀ (env : Env) x, foldedSetIterable pit1 env x = pure x)
    (si : SimI tb N cs Φ G k sc fb ik ia ptg pit) (hb : blkC N sc scope own = true) (ho : own.map (·.2) = MP.tgI tg ++ MP.tgI tg1)
    (ht : TrT N (relS scope sc) (cfb scope) tg ptg) (sc' : SimC tb N cs Φ G k (relS scope sc) (cfb scope) c ifs) (si1 : SimI tb N cs Φ G k (relS scope sc) (cfb scope) ik1 ia1 ptg1 pit1)
    (ht1 : TrT N (relS scope sc) (cfb scope) tg1 ptg1) (sc1 : SimC tb N cs Φ G k (relS scope sc) (cfb scope) c1 ifs1) (se : SimE tb N cs Φ G k (relS scope sc) (cfb scope) el pel) :
    SimE tb N cs Φ G k sc fb (.lc2 imm tg ik ia c tg1 ik1 ia1 c1 el) (.ListComp pel [⟨ptg, pit, ifs, 0⟩, ⟨ptg1, pit1, ifs1, 0⟩] scope pos) :=
  fun X cg w W tk env hp m σ H Q er hr g => by
    refine ER.of (pe_lc2 (g := gOf X.K tg) (g1 := gOf X.K tg1) (tt := ttB X scope ifs) (tt1 := ttB X scope ifs1) (wi1 := tiB X scope ptg1 pit1) (te := teB X scope pel) (own := own) (vs1 := MP.tgI tg1) cg.calm (by rw [cg.nn]; exact cg.nd) (pir X ptg pit) (by rw [cg.nn, cg.sc]; exact blkOk_by hb) (by rw [ho]; intro i hi; exact List.mem_append_right _ hi)
      (fun s H C cl fp => pgOf (cg.blk scope s H C cl fp) ht) (fun s H C cl fp => ⟨fun pins s' σ H' Q I h => h s H C cl fp pins s' I⟩) (fun s H C cl fp => ⟨fun pins s' σ H' Q I h => h s H C cl fp pins s' I⟩)
      (fun s H C cl fp => pgOf (cg.blk scope s H C cl fp) ht1) (fun s H C cl fp => ⟨fun pins s' σ H' Q I h => h s H C cl fp pins s' I⟩) (fun s H C cl fp => ⟨fun pins s' σ H' Q I h => h s H C cl fp pins s' I⟩) (hf _) hf1) ?_
    exact tlc2_sound si hb ho ht sc' si1 ht1 sc1 se cg w tk er hr g
end
end MPS
namespace MPS
open PySem PySem.Spec PyProof.Rows L2 PySem.W
variable [Tbs]
section
variable {tb : Tb} {N : List Str} {cs : List Addr} {Φ : Nat → List MP.D → MP.Heap → MP.R MP.D} {G : List MP.D} {k : Nat} {sc : Scope} {fb : Str → Bool}
theorem con_one {d : MP.D} {pc : Expr} (hc : conB d pc = true) : ∃ v : V, (∀ (Y : Cx) (p : Pos), PS Y (.Return (some pc) p) (fun D σ H => D.rt v H)) ∧ ∀ K m H, Rel K m H d v := by
  unfold conB at hc
  split at hc
  · exact ⟨.non, fun _ _ => ps_ret pe_non, fun _ _ _ => .non⟩
  · simp only [beq_iff_eq] at hc
    subst hc
    exact ⟨.bl _, fun _ _ => ps_ret pe_bl, fun _ _ _ => .bl _⟩
  · simp only [decide_eq_true_eq] at hc
    subst hc
    exact ⟨.str _, fun _ _ => ps_ret pe_str, fun _ _ _ => .str _⟩
  · simp only [decide_eq_true_eq] at hc
    subst hc
    exact ⟨.int _, fun _ _ => ps_ret pe_int, fun _ _ _ => .int _⟩
  · cases hc
/-- behind the making of a lambda -/
theorem HR.extN {K : PySem.W.Frag} {m : Pl} {h : MP.Heap} {H H1 : Hp} (r : HR K m h H) (e : LamX.ExtN H H1) (t : LamX.Tabs Tbs.l H1) : Kp m H m H1 ∧ HR K m h H1 := by
  have kp : Kp m H m H1 := ⟨⟨[], by simp⟩, rfl, fun a o x nt n => ⟨e a o x nt, n⟩⟩
  have same : ∀ a, mutO (H a) → H1 a = H a := fun a x => by
    cases q : H a with
    | none => rw [q] at x; exact x.elim
    | some o => exact e a o q (nt_mut x q)
  refine ⟨kp, r.len, r.nd, fun n a o e1 e2 => (r.ob n a o e1 e2).keepAt r.mut kp.w (same a (r.ob n a o e1 e2).mut), fun a ha => ?_, t⟩
  obtain ⟨q1, q2⟩ := r.bn a ha
  exact ⟨by rw [same a q1]; exact q1, q2⟩
theorem handE_two (hs : List (Nat × List Nat × MP.D)) (c : Nat) (h : MP.Heap) : (∃ d, MP.handE hs c h = .ok d h) ∨ MP.handE hs c h = .bad := by
  induction hs with
  | nil => exact .inr rfl
  | cons a r ih =>
    obtain ⟨a1, l, d⟩ := a
    unfold MP.handE
    split
    · exact .inl ⟨d, rfl⟩
    · exact ih
/-- the def's handlers -/
theorem hdsE_ok {Y : Cx} (hsc : Y.env.scope = sc) (cl : ClsT Y.K Y.mg tb cs) {D : Ends} :
    ∀ {hs : List (Nat × List Nat × MP.D)} {hds : List ExceptHandler}, TrH tb sc hs hds → ∃ l, HdsOk Y hds l ∧ ∀ (σ : L2.St) (c : Nat) (h : MP.Heap) (m : Pl) (H : Hp), HR Y.K m h H → Gd Y.K (Rel Y.K) m H (MP.handE hs c h) D.rt (fun _ _ => False) → Zw cs (wMany Y.K (fun _ _ _ _ => False) D l) σ c H
  | _, _, .nil => ⟨[], .nil, fun σ c h m H hr g C e => g.elim⟩
  | _, _, .cons (c := c0) (l := l0) (d := d0) h g n hl hc q => by
    obtain ⟨l, h1, h2⟩ := hdsE_ok (D := D) hsc cl q
    obtain ⟨C0, e1, e2, e3⟩ := cl.cls _ _ h
    obtain ⟨v, rv⟩ := con_one hc
    refine ⟨_, .cons ⟨by unfold Gl Env.kindOf; rw [hsc]; exact of_decide_eq_true g, (nm1 n).1, .inl e2⟩ (fun a oe cls d pn _ _ => pss_one (rv.1 _ _)) h1, fun σ c h m H hr gg C e => ?_⟩
    have hlt : c < tb.cn.length := by rw [← cl.len]; exact (List.getElem?_eq_some_iff.mp e).1
    refine ⟨_, cl.sub c c0 C C0 e e1, fun hb a _ => ?_, fun hb => ?_⟩
    · unfold MP.handE at gg
      rw [if_pos (by rw [hl c hlt]; exact hb)] at gg
      exact gg v m H (.refl _ _) hr (rv.2 _ _ _)
    · unfold MP.handE at gg
      rw [if_neg (by rw [hl c hlt, hb]; exact Bool.false_ne_true)] at gg
      exact h2 σ c h m H hr gg C e
/-- what the def makes of the lambda's reading -/
def TTg (K : PySem.W.Frag) (cs : List Addr) (hs : List (Nat × List Nat × MP.D)) (v0 : V) : (XK → Hp → VK → Prop) → Hp → VK → Prop := fun tl H Q =>
  tl (fun cls d H' => ∃ c C m h, cls = .ref C ∧ d = none ∧ cs[c]? = some C ∧ HR K m h H' ∧ Gd K (Rel K) m H' (MP.handE hs c h) Q (fun _ _ => False)) H (fun _ H' => Q v0 H')
theorem lam_gives {X : Cx} {x a q : Str} {sg : Scope} {g : Addr} {cdg : Value} {bg : List Stmt} {Ng : List Str} {hs : List (Nat × List Nat × MP.D)} {d0 : MP.D} (cl : ClsT X.K X.mg tb cs) (hb : HBody tb sg a hs d0 bg) (h0 : ∀ f : Addr, (L2.start Ng [V.ref f])[0]? = some (some (V.ref f))) :
    ∃ v0, (∀ K m H, Rel K m H d0 v0) ∧ LamX.GivesTo X Ng x sg g cdg bg a q (TTg X.K cs hs v0) := by
  obtain ⟨pc, hd, hds, p1, p2, p3, p4, p5, e1, e2, e3⟩ := hb.ex
  obtain ⟨v0, rv⟩ := con_one e1
  refine ⟨v0, rv.2, ?_⟩
  intro f c' s H Q tl act hc h
  rcases e3 with rfl | rfl
  · obtain ⟨l, h1, h2⟩ := hdsE_ok (Y := (cxOf C8.CX0 X.prog X.w X.K X.mg X.base Ng x sg g cdg X.A X.stack s H C8.E0).nox) (sc := sg) (tb := tb) (cs := cs) (D := { nx := fun σ H' => Q v0 H', rt := Q }) rfl cl e2
    refine ⟨_, pss_cons (ps_try_many (X := (cxOf C8.CX0 X.prog X.w X.K X.mg X.base Ng x sg g cdg X.A X.stack s H C8.E0).nox) (Wout := fun _ _ _ _ => False)
      (tb := fun W D σ H => ∃ Ech : XK, (∀ cls d σ' H', Ech cls d H' → W cls d σ' H') ∧ σ[0]? = some (some (.ref f)) ∧ H c' = some (LamX.CodeO c' q) ∧ tl Ech H (fun _ H' => D.nx σ H'))
      rfl rfl LamX.takes0 (fun W pn xe tk _ => ?_) h1) (pss_one (rv.1 _ _)), ?_⟩
    · refine ⟨fun pins s' σ H' D I h' => ?_⟩
      obtain ⟨Ech, hW, k1, k2, k3⟩ := h'
      exact (pss_one (ps_expr (act W pn xe Ech p1 p2 tk hW))).run pins s' σ H' D I ⟨k1, k2, k3⟩
    · refine ⟨_, fun cls d σ' H' x => ?_, h0 f, hc, h⟩
      obtain ⟨c, C, m, hp, rfl, rfl, e, hr, gg⟩ := x
      exact h2 σ' c hp m H' hr gg C e
  · obtain ⟨l, h1, h2⟩ := hdsE_ok (Y := (cxOf C8.CX0 X.prog X.w X.K X.mg X.base Ng x sg g cdg X.A X.stack s H C8.E0).nox) (sc := sg) (tb := tb) (cs := cs) (D := { nx := fun _ H' => Q .non H', rt := Q }) rfl cl e2
    refine ⟨_, pss_one (ps_try_many (X := (cxOf C8.CX0 X.prog X.w X.K X.mg X.base Ng x sg g cdg X.A X.stack s H C8.E0).nox) (Wout := fun _ _ _ _ => False)
      (tb := fun W D σ H => ∃ Ech : XK, (∀ cls d σ' H', Ech cls d H' → W cls d σ' H') ∧ σ[0]? = some (some (.ref f)) ∧ H c' = some (LamX.CodeO c' q) ∧ tl Ech H (fun _ H' => D.rt v0 H'))
      rfl rfl LamX.takes0 (fun W pn xe tk _ => ?_) h1), ?_⟩
    · refine ⟨fun pins s' σ H' D I h' => ?_⟩
      obtain ⟨Ech, hW, k1, k2, k3⟩ := h'
      exact (pss_cons (ps_expr (act W pn xe Ech p1 p2 tk hW)) (pss_one (rv.1 _ _))).run pins s' σ H' D I ⟨k1, k2, k3⟩
    · refine ⟨_, fun cls d σ' H' x => ?_, h0 f, hc, h⟩
      obtain ⟨c, C, m, hp, rfl, rfl, e, hr, gg⟩ := x
      exact h2 σ' c hp m H' hr gg C e
theorem defs0 (env : Env) : defaultsOf ⟨[], [], none, [], [], none, []⟩ env = ([], []) := rfl
theorem bind0 (body : Expr) (scope : Scope) (q : Str) (cl : List (Str × Addr)) (pm cv ctv : Value) : bindArgs (PySem.W.kla_fn "<lambda>" q ⟨[], [], none, [], [], none, []⟩ body scope cl pm cv ctv) ⟨[], []⟩ = pure [] := rfl
theorem simE_lamc {hs : List (Nat × List Nat × MP.D)} {d0 : MP.D} {e : MP.E} {x : Str} {body : Expr} {scope : Scope} {p lpos pos : Pos} (hm : (x, hs, d0) ∈ tb.lm) (gl : glB sc x = true) (n : nmB x = true) (l : fb LAM = true) (ls : LamX.lamSB sc scope = true)
    (sb : SimE tb N cs Φ G k scope (fun _ => false) e body) : SimE tb N cs Φ G k sc fb (.lamc hs d0 e) (.Call (.Name x p) [.Lambda ⟨[], [], none, [], [], none, []⟩ body scope lpos] [] pos) :=
  fun X c w W tk env hp m σ H Q er hr g => by
    obtain ⟨room, cc, P, hcode, TB, hmT, hu⟩ := c.lam l
    obtain ⟨gg, oc, od, an, pg, bg, sg, dV, kV, doc, pm, cdv, ct, osl, Ng, a, e1, e2, e3, e4, e5, e6, e7, e8, e9, e10, e11⟩ := (w.lam x hs d0 hm).ex
    have h0 : ∀ f : Addr, (L2.start Ng [V.ref f])[0]? = some (some (V.ref f)) := fun f => by
      unfold L2.start
      rfl
    obtain ⟨v0, rv, hG⟩ := lam_gives (x := x) (q := X.env.qual ++ "<lambda>") (g := gg) (cdg := cdv) (Ng := Ng) w.cl e11 h0
    have L : LamX.LamS X.env.scope scope := by rw [c.sc]; exact LamX.lamS_by ls
    refine ER.of (LamX.pe_lamcall (T := Tbs.l) (k := 3 * k) (t := fun E σ H' Q' => ∀ A outer s H0 f c', Room (3 * k) (A.deeper (LamX.lamEnv X scope s.heap.objs.size f c')) → ER (LamX.lamCx X A outer s H0 E scope f c') body σ H' Q')
      (c.gl gl) e1 e2 e3 e4 e5 e6 e7 e8 hG TB hcode hmT hu room L (defs0 _) (bind0 body scope) (fun A outer s H E f c' hr => ⟨fun pins s σ H Q I h => h A outer _ _ f c' hr pins s I⟩) (nm1 n).1 e9 e10) ?_
    refine ⟨hr.tb, fun H1 eN hT1 => ?_⟩
    obtain ⟨kp, hr1⟩ := hr.extN eN hT1
    intro A outer s H0 f c' hrm
    refine sb (LamX.lamCx X A outer s H0 _ scope f c') ⟨rfl, hrm, c.nd, c.nn, rfl, c.wo, fun z => by simp at z, fun z => by simp at z, fun y _ _ => rfl⟩ w _ (takes_of rfl rfl rfl rfl) env hp m σ H1 _ (er.keep hr kp) hr1 ?_
    rw [MP.eE_lamc] at g
    cases q : MP.eE Φ G e env hp with
    | ok d h1 =>
      rw [q] at g
      exact fun v m1 H2 k1 hr2 r1 => g v0 m1 H2 (kp.trans k1) hr2 (rv _ _ _)
    | exc cc' h1 =>
      rw [q] at g
      intro m1 H2 k1 hr2 C eC
      refine ⟨cc', C, m1, h1, rfl, rfl, eC, hr2, ?_⟩
      have g' : Gd X.K (Rel X.K) m H (MP.handE hs cc' h1) Q (Zw cs W σ) := g
      have g2 := g'.shift (kp.trans k1)
      rcases handE_two hs cc' h1 with ⟨d, z⟩ | z
      · rw [z] at g2 ⊢
        exact g2
      · rw [z] at g2
        exact g2.elim
    | bad => rw [q] at g; exact g.elim
end
end MPS
namespace MPS
open PySem PySem.Spec PyProof.Rows L2 PySem.W
variable [Tbs]
section
variable {K : PySem.W.Frag} {m m1 : Pl} {h h1 : MP.Heap} {H H1 : Hp}
/-- an object that is being made: hidden -/
theorem HR.hideO (r : HR K m h H) {D : Addr} {o : HO} (hD : H D = none) (ho : mutO (some o)) : HR K (m.hide D) h (upd H D o) ∧ Kw m H (m.hide D) (upd H D o) := by
  have k : Kw m H (m.hide D) (upd H D o) := ⟨fun n a e => e, fun a u e _ n nb => ⟨by rw [upd_ne (ne_of_none e hD)]; exact e, n, by simp [nb, ne_of_none e hD]⟩⟩
  refine ⟨⟨r.len, r.nd, fun n a ob e1 e2 => (r.ob n a ob e1 e2).keepAt r.mut k (upd_ne fun z => ?_), fun a ha => ?_, tabs_new r.tb hD⟩, k⟩
  · subst z; exact r.free hD (List.mem_of_getElem? e1)
  · rcases List.mem_cons.mp ha with z | ha
    · subst z; exact ⟨by rw [upd_same]; exact ho, r.free hD⟩
    · obtain ⟨e, n⟩ := r.bn a ha
      exact ⟨by rw [upd_ne (mutO_ne e hD)]; exact e, n⟩
/-- made: it has a place -/
theorem HR.placeO (r : HR K m1 h1 H1) {D : Addr} {o : HO} {ob : MP.Ob} {bn : List Addr} (hb : m1.ban = D :: bn) (nb : D ∉ bn) (hx : Kw m1 H1 ⟨m1.at_ ++ [D], bn⟩ (upd H1 D o) → ObR K ⟨m1.at_ ++ [D], bn⟩ (upd H1 D o) D ob) :
    Kw m1 H1 ⟨m1.at_ ++ [D], bn⟩ (upd H1 D o) ∧ HR K ⟨m1.at_ ++ [D], bn⟩ (h1 ++ [ob]) (upd H1 D o) := by
  have hD : D ∈ m1.ban := by rw [hb]; exact List.mem_cons_self
  have hDa : D ∉ m1.at_ := (r.bn D hD).2
  have k : Kw m1 H1 ⟨m1.at_ ++ [D], bn⟩ (upd H1 D o) := ⟨fun n a e => by
    show (m1.at_ ++ [D])[n]? = _
    rw [List.getElem?_append_left (List.getElem?_eq_some_iff.mp e).1]; exact e, fun a u e _ n n2 => by
      rw [hb] at n2
      simp only [List.mem_cons, not_or] at n2
      exact ⟨by rw [upd_ne n2.1]; exact e, by simp [n, n2.1], n2.2⟩⟩
  refine ⟨k, by simp [r.len], ?_, fun n a ob' e1 e2 => ?_, fun a ha => ?_, tabs_mut r.tb (r.bn D hD).1⟩
  · show (m1.at_ ++ [D]).Nodup
    rw [List.nodup_append]
    exact ⟨r.nd, by simp, fun a ha b hb' => by simp at hb'; subst hb'; exact fun z => hDa (z ▸ ha)⟩
  · have e1' : (m1.at_ ++ [D])[n]? = some a := e1
    by_cases hn : n < m1.at_.length
    · rw [List.getElem?_append_left hn] at e1'
      rw [List.getElem?_append_left (by rw [← r.len]; exact hn)] at e2
      exact (r.ob n a ob' e1' e2).keepAt r.mut k (upd_ne fun z => hDa (z ▸ List.mem_of_getElem? e1'))
    · have hn' : n = m1.at_.length := by
        have := (List.getElem?_eq_some_iff.mp e1').1
        simp at this; omega
      subst hn'
      simp at e1'
      rw [r.len] at e2
      simp at e2
      subst e1' e2
      exact hx k
  · obtain ⟨e, n⟩ := r.bn a (by rw [hb]; exact List.mem_cons_of_mem _ ha)
    have na : a ≠ D := fun z => nb (z ▸ ha)
    exact ⟨by rw [upd_ne na]; exact e, by simp [n, na]⟩
end
section
variable {tb : Tb} {N : List Str} {cs : List Addr} {Φ : Nat → List MP.D → MP.Heap → MP.R MP.D} {G : List MP.D} {k : Nat} {sc : Scope} {fb : Str → Bool}
theorem storeAll_one {prog : Program} {w : World} {A : Around} {E : Value → Shared → Prop} {s : Shared} {d : Addr} {u v : Value} {Q : PUnit → Shared → Prop} (h : wpAny (model prog w) A (dictSet d u v) (fun _ s' => Q PUnit.unit s') E s) :
    wpAny (model prog w) A (storeAll d [(u, v)]) Q E s := by
  unfold storeAll
  rw [List.forIn_cons]
  refine wpAny_bind (wpAny_bind (wpAny_mono h (fun _ s' q => wpAny_pure ?_) fun _ _ e => e))
  show wpAny _ _ (forIn [] PUnit.unit _) _ _ _
  rw [List.forIn_nil]
  exact wpAny_pure q
theorem simE_dct1 {ek ev : MP.E} {pk pv : Expr} {pos : Pos} (sk : SimE tb N cs Φ G k sc fb ek pk) (sv : SimE tb N cs Φ G k sc fb ev pv) : SimE tb N cs Φ G k sc fb (.dct1 ek ev) (.Dict [some pk] [pv] pos) :=
  fun X c w W tk env hp m σ H Q er hr g => by
    rw [MP.eE_dct1] at g
    cases qk : MP.eE Φ G ek env hp with
    | exc _ _ => rw [qk] at g; exact g.elim
    | bad => rw [qk] at g; exact g.elim
    | ok x h1 =>
    rw [qk] at g
    have g : Gd X.K (Rel X.K) m H ((MP.eE Φ G ev env h1).calm.bind fun y h2 => MP.newD x y h2) Q (Zw cs W σ) := g
    cases qv : MP.eE Φ G ev env h1 with
    | exc _ _ => rw [qv] at g; exact g.elim
    | bad => rw [qv] at g; exact g.elim
    | ok y h2 =>
    rw [qv] at g
    have g : Gd X.K (Rel X.K) m H (MP.newD x y h2) Q (Zw cs W σ) := g
    intro pins s I
    have hD : H s.heap.objs.size = none := I.hok.fresh (Nat.le_refl s.heap.objs.size)
    have I1 := I.laid (a := s.heap.objs.size) (o := .dK []) (h' := s.heap.push { cls := .type "dict", data := .dict #[] }) (t' := s.toks) (fun _ _ q => Heap.get?_push_of_some _ q) (Nat.le_refl _) (dk_empty s.heap I.big)
    refine wpAny_Dict_any rfl rfl (by simp) (show 1 ≤ 15 by decide) ?_
    generalize s.heap.objs.size = D at hD I1 ⊢
    obtain ⟨hr1, kw1⟩ := hr.hideO (o := .dK []) hD trivial
    refine pairTrees_cons_walk (thn ((sk X c w W tk env hp (m.hide D) σ (upd H D (.dK [])) (fun vx H2 => ∃ m2, Kp (m.hide D) (upd H D (.dK [])) m2 H2 ∧ HR X.K m2 h1 H2 ∧ Rel X.K m2 H2 x vx) (er.keepW hr kw1) hr1
      (by rw [qk]; exact fun vx m2 H2 k2 hr2 r2 => ⟨m2, k2, hr2, r2⟩)) pins _ I1) fun u1 s1 ⟨vx, H2, I2, rx, m2, k2, hr2, rkx⟩ => ?_)
    refine thn ((sv X c w W tk env h1 m2 σ H2 (fun vy H3 => ∃ m3, Kp m2 H2 m3 H3 ∧ HR X.K m3 h2 H3 ∧ Rel X.K m3 H3 y vy) ((er.keepW hr kw1).keep hr1 k2) hr2
      (by rw [qv]; exact fun vy m3 H3 k3 hr3 r3 => ⟨m3, k3, hr3, r3⟩)) pins _ I2) fun u2 s2 ⟨vy, H3, I3, ry, m3, k3, hr3, rvy⟩ => ?_
    refine pairTrees_nil_walk ?_
    have rkx3 := rkx.keep hr2.mut k3
    have kall := k2.trans k3
    have hDb : D ∉ m.ban := hr.freeB hD
    have hban : m3.ban = D :: m.ban := kall.ban
    have hDm : D ∉ (m.hide D).at_ := hr.free hD
    have e3 : H3 D = some (.dK []) := (kall.keep D _ upd_same nt_dK hDm).1
    obtain ⟨t, hpre⟩ := kall.pre
    have hpre : m3.at_ = m.at_ ++ t := hpre
    have kp : ∀ o, Kp m H ⟨m3.at_ ++ [D], m.ban⟩ (upd H3 D o) := fun o => ⟨⟨t ++ [D], by show m3.at_ ++ [D] = _; rw [hpre]; simp⟩, rfl, fun a u e nt n => by
      have na : a ≠ D := ne_of_none e hD
      obtain ⟨z1, z2⟩ := kall.keep a u (by rw [upd_ne na]; exact e) nt n
      exact ⟨by rw [upd_ne na]; exact z1, by simp [z2, na]⟩⟩
    have last : ∀ o : HO, (⟨m3.at_ ++ [D], m.ban⟩ : Pl).at_[h2.length]? = some D := fun o => by
      show (m3.at_ ++ [D])[h2.length]? = some D
      rw [← hr3.len]; simp
    refine storeAll_one ?_
    cases x with
    | int i =>
      cases rkx3
      obtain ⟨_, hs, vs0, r0, dd⟩ := dk_of I3.hok e3
      cases r0
      refine wpAny_dictSet_pairs (knd := mixKind X.prog X.w) (k := .inl i) (kV_is rx) dd (fun h' dd' sb => ?_) (Nat.zero_le _)
      have he : ∃ q, h'.get? D = some q := let ⟨q, _, _, hq, _⟩ := dd'; ⟨q, hq⟩
      obtain ⟨kw, hr4⟩ := hr3.placeO (o := .dK [(.inl i, vy)]) (ob := .dic [(.int i, y)]) hban hDb (fun kw => ⟨_, upd_same, .cons (rvy.keepW hr3.mut kw) .nil⟩)
      refine ⟨.ref D, _, d_write I3 (by rw [e3]; exact True.intro) sb he (dk_new (kvs := [(.inl i, vy)]) (by show 1 ≤ sizeLine; rw [sizeLine_eq]; omega) hs (.cons ⟨rfl, ry⟩ .nil) dd'), rfl, ?_⟩
      exact g (.ref D) _ _ (kp _) hr4 (.ref (last (.dK [])))
    | tup xs =>
      have rkx4 := rkx3
      cases rkx3 with
      | @tup b _ _ _ _ =>
      obtain rfl : u1 = Value.ref b := rx
      by_cases hk : MP.hkey (.tup xs) = true
      · have g : Gd X.K (Rel X.K) m H (.ok (.ref h2.length) (h2 ++ [.dct [(.tup xs, y)]])) Q (Zw cs W σ) := by
          have e : MP.newD (.tup xs) y h2 = .ok (.ref h2.length) (h2 ++ [.dct [(.tup xs, y)]]) := by unfold MP.newD; simp only [hk, if_true]
          rw [e] at g
          exact g
        obtain ⟨hs, dd⟩ := dct_empty I3 e3
        have hu := c.hu
        refine wpAny_dictSet_heap (hsz := Nat.zero_le _) (knd := nestedKind X.prog X.w) (by show X.A.units + 8 < cLine; omega) (key_is I3 rkx4 hk) dd fun h' dd' sb => ?_
        have he : ∃ q, h'.get? D = some q := let ⟨q, _, _, hq, _⟩ := dd'; ⟨q, hq⟩
        obtain ⟨kw, hr4⟩ := hr3.placeO (o := dctO D [(nk (.tup xs), b, u2)]) (ob := .dct [(.tup xs, y)]) hban hDb (fun kw => ⟨_, upd_same, .cons (rkx4.keepW hr3.mut kw) hk (rvy.keepW hr3.mut kw) ry .nil⟩)
        refine ⟨.ref D, _, d_write I3 (by rw [e3]; exact True.intro) sb he (dct_new c.wo hs (by show 1 ≤ sizeLine; rw [sizeLine_eq]; omega) dd'), rfl, ?_⟩
        exact g (.ref D) _ _ (kp _) hr4 (.ref (last (.dK [])))
      · exfalso
        have e : MP.newD (.tup xs) y h2 = .bad := by
          unfold MP.newD
          simp only [hk, Bool.false_eq_true, if_false]
        rw [e] at g
        exact g
    | _ => exact g.elim
end
end MPS
namespace MPS
open PySem PySem.Spec PyProof.Rows L2 PySem.W
variable [Tbs]
section
variable {tb : Tb} {N : List Str} {cs : List Addr} {Φ : Nat → List MP.D → MP.Heap → MP.R MP.D} {G : List MP.D} {k : Nat}
theorem simE_con {sc : Scope} {fb : Str → Bool} {d : MP.D} {pe : Expr} (h : ∀ X : Cx, ∃ v, PE X pe (tC v) ∧ ∀ m H, Rel X.K m H d v) : SimE tb N cs Φ G k sc fb (.con d) pe :=
  fun X c w W tk env hp m σ H Q er hr g => by
    obtain ⟨v, h1, h2⟩ := h X
    rw [MP.eE_con] at g
    exact ER.of h1 (g.here hr (h2 m H))
theorem main_IH : ∀ n : Nat, IH tb N cs Φ G k n := fun n => by
  induction n with
  | zero => exact fun a ha => absurd ha (Nat.not_lt_zero _)
  | succ n ihn =>
    intro e hn0 sc fb pe h
    have ih : ∀ a : MP.E, sizeOf a < sizeOf e → ∀ {sc fb pe}, TrE tb N sc fb a pe → SimE tb N cs Φ G k sc fb a pe ∧ SimT tb N cs Φ G k sc fb a pe ∧ (∀ op ps pos, pe = .BoolOp op ps pos → SimW tb N cs Φ G k sc fb a pe) := fun a ha _ _ _ ht => ihn a (by omega) _ _ _ ht
    have ihA : ∀ {sc fb es pes}, sizeOf es < sizeOf e → TrA tb N sc fb es pes → SimA tb N cs Φ G k sc fb es pes := fun hs ht => simA (fun a ha pe q => (ih a (by omega) q).1) ht
    have ihO : ∀ {sc fb es pes}, sizeOf es < sizeOf e → TrO tb N sc fb es pes → SimO tb N cs Φ G k sc fb es pes := fun hs ht => by
      cases ht with
      | none => exact simO_none
      | some h => exact simO_some (ih _ hs h).1
    have ihI : ∀ {sc fb ik ia tg pi}, sizeOf ia < sizeOf e → TrI tb N sc fb ik ia tg pi → SimI tb N cs Φ G k sc fb ik ia tg pi := fun hs ht => simI (fun a ha pe q => (ih a (by omega) q).1) ht
    have ihC : ∀ {sc fb c ifs}, sizeOf c < sizeOf e → TrC tb N sc fb c ifs → SimC tb N cs Φ G k sc fb c ifs := fun hs ht => simC (fun pe q => (ih _ hs q).2.1) ht
    have pl : SimE tb N cs Φ G k sc fb e pe → (∀ env whole, isTrue pe env whole = (do let v ← whole; standAt pe.pos; holding [v] (truthy v))) → (∀ op ps pos, pe ≠ .BoolOp op ps pos) → SimE tb N cs Φ G k sc fb e pe ∧ SimT tb N cs Φ G k sc fb e pe ∧ (∀ op ps pos, pe = .BoolOp op ps pos → SimW tb N cs Φ G k sc fb e pe) :=
      fun h1 h2 h3 => ⟨h1, simT_plain h1 h2, fun op ps pos z => absurd z (h3 op ps pos)⟩
    cases h with
    | var h v n => exact pl (simE_var h v n) (fun _ _ => rfl) (by intros; simp)
    | lamc h g n l ls hp hb =>
      subst hp
      exact pl (simE_lamc h g n l ls (ih _ (by simp; omega) hb).1) (fun _ _ => rfl) (by intros; simp)
    | dct1 ha hb => exact pl (simE_dct1 (ih _ (by simp; omega) ha).1 (ih _ (by simp; omega) hb).1) (fun _ _ => rfl) (by intros; simp)
    | dct0 => exact pl simE_dct0 (fun _ _ => rfl) (by intros; simp)
    | non => exact pl (simE_con fun X => ⟨.non, pe_non, fun _ _ => .non⟩) (fun _ _ => rfl) (by intros; simp)
    | bl => exact pl (simE_con fun X => ⟨_, pe_bl, fun _ _ => .bl _⟩) (fun _ _ => rfl) (by intros; simp)
    | int => exact pl (simE_con fun X => ⟨_, pe_int, fun _ _ => .int _⟩) (fun _ _ => rfl) (by intros; simp)
    | str => exact pl (simE_con fun X => ⟨_, pe_str, fun _ _ => .str _⟩) (fun _ _ => rfl) (by intros; simp)
    | glo h g n => exact pl (simE_glo h g n) (fun _ _ => rfl) (by intros; simp)
    | tup h hz => exact pl (simE_tup h (ihA (by simp) h) hz) (fun _ _ => rfl) (by intros; simp)
    | lst h => exact pl (simE_lst (ihA (by simp) h)) (fun _ _ => rfl) (by intros; simp)
    | bin ha hb => exact pl (simE_bin (ih _ (by simp; omega) ha).1 (ih _ (by simp; omega) hb).1) (fun _ _ => rfl) (by intros; simp)
    | neg ha => exact pl (simE_neg (ih _ (by simp) ha).1) (fun _ _ => rfl) (by intros; simp)
    | cmp ha hb =>
      have a := (ih _ (by simp; omega) ha).1
      have b := (ih _ (by simp; omega) hb).1
      exact ⟨simE_cmp (hb.noset _) a b, simT_cmp (hb.noset _) a b, fun op ps pos z => by cases z⟩
    | chn ha hb hc =>
      have a := (ih _ (by simp; omega) ha).1
      have b := (ih _ (by simp; omega) hb).1
      have d := (ih _ (by simp; omega) hc).1
      exact ⟨simE_chn (hc.noset _) a b d, simT_chn (hc.noset _) a b d, fun op ps pos z => by cases z⟩
    | and2 ha hr =>
      have a := ih _ (by simp; omega) ha
      have r := ih _ (by simp; omega) hr
      have w := simW_and a.2.1 (r.2.2 _ _ _ rfl)
      exact ⟨simE_and a.1 r.1, fun X c w' W tk env hp m σ H Q er hr g => (w X c w' W tk env hp m σ H Q er hr g).tr, fun _ _ _ _ => w⟩
    | or2 ha hr =>
      have a := ih _ (by simp; omega) ha
      have r := ih _ (by simp; omega) hr
      have w := simW_or a.2.1 (r.2.2 _ _ _ rfl)
      exact ⟨simE_or a.1 r.1, fun X c w' W tk env hp m σ H Q er hr g => (w X c w' W tk env hp m σ H Q er hr g).tr, fun _ _ _ _ => w⟩
    | @one _ _ _ op _ pos ha =>
      have a := ih _ (by simp) ha
      have w := simW_one (op := op) (pos := pos) a.2.1
      exact ⟨simE_one a.1, fun X c w' W tk env hp m σ H Q er hr g => (w X c w' W tk env hp m σ H Q er hr g).tr, fun _ _ _ _ => w⟩
    | nt ha =>
      have a := ih _ (by simp) ha
      exact ⟨simE_nt a.1, simT_nt a.2.1, fun op ps pos z => by cases z⟩
    | ite hc ha hb =>
      have c := ih _ (by simp; omega) hc
      have a := ih _ (by simp; omega) ha
      have b := ih _ (by simp; omega) hb
      exact ⟨simE_ite c.2.1 a.1 b.1, simT_ite c.2.1 a.2.1 b.2.1, fun op ps pos z => by cases z⟩
    | idx ha hb => exact pl (simE_idx hb.plain (ih _ (by simp; omega) ha).1 (ih _ (by simp; omega) hb).1) (fun _ _ => rfl) (by intros; simp)
    | slc ha hl hh => exact pl (simE_slc (ih _ (by simp; omega) ha).1 (ihO (by simp; omega) hl) (ihO (by simp; omega) hh)) (fun _ _ => rfl) (by intros; simp)
    | rev ha => exact pl (simE_rev (ih _ (by simp) ha).1) (fun _ _ => rfl) (by intros; simp)
    | call h g n ha => exact pl (simE_call h g n ha (ihA (by simp; omega) ha)) (fun _ _ => rfl) (by intros; simp)
    | blt h mm g ha => exact pl (simE_blt h mm g ha (ihA (by simp; omega) ha)) (fun _ _ => rfl) (by intros; simp)
    | isi mm g m2 g2 ha => exact pl (simE_isi mm g m2 g2 ha.nostar (ih _ (by simp; omega) ha).1) (fun _ _ => rfl) (by intros; simp)
    | rpr mm g l ha => exact pl (simE_rpr mm g l ha.nostar (ih _ (by simp; omega) ha).1) (fun _ _ => rfl) (by intros; simp)
    | sst mm g m2 g2 ha => exact pl (simE_sst mm g m2 g2 ha.nostar (ih _ (by simp; omega) ha).1) (fun _ _ => rfl) (by intros; simp)
    | lns mm g m2 g2 ha => exact pl (simE_lns mm g m2 g2 ha.nostar (ih _ (by simp; omega) ha).1) (fun _ _ => rfl) (by intros; simp)
    | lrg mm g m2 g2 ha hl =>
      cases ha with
      | nil => simp at hl
      | cons h q =>
      cases q with
      | nil => exact pl (simE_lrg1 mm g m2 g2 h.nostar (ih _ (by simp; omega) h).1) (fun _ _ => rfl) (by intros; simp)
      | cons h2 q =>
      cases q with
      | nil => exact pl (simE_lrg2 mm g m2 g2 h.nostar h2.nostar (ih _ (by simp; omega) h).1 (ih _ (by simp; omega) h2).1) (fun _ _ => rfl) (by intros; simp)
      | cons h3 q => simp at hl
    | mth ho ha hl hn => exact pl (simE_mth ho.base hl hn ha (ih _ (by simp; omega) ho).1 (ihA (by simp; omega) ha)) (fun _ _ => rfl) (by intros; simp)
    | mth0 ho hl => exact pl (simE_mth0 ho.base hl (ih _ (by simp; omega) ho).1) (fun _ _ => rfl) (by intros; simp)
    | lc hi hb ho ht hc he => exact pl (simE_lc (fun env => hi.fold env) (ihI (by simp; omega) hi) hb ho ht (ihC (by simp; omega) hc) (ih _ (by simp; omega) he).1) (fun _ _ => rfl) (by intros; simp)
    | lc2 hi hb ho ht hc hi1 ht1 hc1 he => exact pl (simE_lc2 (fun env => hi.fold env) (fun env => hi1.fold env) (ihI (by simp; omega) hi) hb ho ht (ihC (by simp; omega) hc) (ihI (by simp; omega) hi1) ht1 (ihC (by simp; omega) hc1) (ih _ (by simp; omega) he).1) (fun _ _ => rfl) (by intros; simp)
variable {sc : Scope} {fb : Str → Bool}
theorem simE {e : MP.E} {pe : Expr} (h : TrE tb N sc fb e pe) : SimE tb N cs Φ G k sc fb e pe := (main_IH _ e (Nat.lt_succ_self _) sc fb pe h).1
theorem simT {e : MP.E} {pe : Expr} (h : TrE tb N sc fb e pe) : SimT tb N cs Φ G k sc fb e pe := (main_IH _ e (Nat.lt_succ_self _) sc fb pe h).2.1
theorem simAs {e : MP.E} {pes : List Expr} (h : TrA tb N sc fb e pes) : SimA tb N cs Φ G k sc fb e pes := simA (fun a _ pe q => simE q) h
theorem simIt {ik : MP.ItK} {ia : MP.E} {tg pi : Expr} (h : TrI tb N sc fb ik ia tg pi) : SimI tb N cs Φ G k sc fb ik ia tg pi := simI (fun a _ pe q => simE q) h
end
end MPS
namespace MPS
open PySem PySem.Spec PyProof.Rows L2 PySem.W
variable [Tbs]
/-! ### stores that change their order -/
/-- name = comprehension, in place -/
def swB (sc : Scope) (x : Str) (p : Pos) (e : Expr) : Bool := match (match e with
    | .ListComp _ _ s _ | .SetComp _ _ s _ | .DictComp _ _ _ s _ => some s
    | _ => none) with
  | none => false
  | some s => decide (sc.names.lookup x = some .local) && p.line == e.pos.line && !(s.names.any fun (n, k) => n == x && (k == .local || k == .cell))
theorem blockKind_fn {env : Env} (hk : env.scope.kind = .function) : env.blockKind = .function := by unfold Env.blockKind; rw [hk]; rfl
theorem swB_eq {sc : Scope} {x : Str} {p : Pos} {e : Expr} {l : Nat} {env : Env} (he : env.scope = sc) (hk : env.scope.kind = .function) : swapsWith e (some (.Name x p)) l env = pure (swB sc x p e) := by
  subst he
  have hb := blockKind_fn hk
  have key : ∀ (s : Scope) (q : Pos), (env.blockKind == .function && env.kindOf x == some .local && p.line == q.line && !(s.names.any fun (n, k) => n == x && (k == .local || k == .cell))) =
      (decide (env.scope.names.lookup x = some .local) && p.line == q.line && !(s.names.any fun (n, k) => n == x && (k == .local || k == .cell))) := fun s q => by
    rw [hb]
    have : (env.kindOf x == some .local) = decide (env.scope.names.lookup x = some .local) := by
      unfold Env.kindOf
      by_cases h : env.scope.names.lookup x = some .local
      · rw [h]; rfl
      · rw [decide_eq_false h]
        cases q : env.scope.names.lookup x with
        | none => rfl
        | some v =>
          cases v <;> first | rfl | exact absurd q h
    rw [this]; rfl
  unfold swapsWith swB
  cases e <;> first
    | rfl
    | (show (pure _ : Sem Bool) = pure _; exact congrArg pure (key _ _))
def swStar (vs : List Expr) : Bool := vs.any fun | .Starred .. => true | _ => false
def swN (sc : Scope) (ts : List Expr) : List Str := ts.filterMap fun
  | .Name id pos => if sc.names.lookup id == some .local && pos.line == (ts.head?.map (·.pos.line)).getD 0 then some id else none
  | _ => none
/-- a, b = x, y -/
def swP (sc : Scope) (ts vs : List Expr) : Option (Option (List Str)) :=
  if (!(ts.length == 2 || ts.length == 3) || vs.length != ts.length) = true then some none
  else if swStar vs = true then some none
  else if ((swN sc ts).length != ts.length || (swN sc ts).eraseDups.length != (swN sc ts).length) = true then some none
  else if vs.all (foldedForSure 8) = true then some none
  else if vs.all (constantsAlone 8) = true then none
  else some (some (swN sc ts))
theorem swP_eq {sc : Scope} {ts vs : List Expr} {k k2 : Nat} {p p2 : Pos} {env : Env} {r : Option (List Str)} (he : env.scope = sc) (hk : env.scope.kind = .function) (h : swP sc ts vs = some r) : swappedStores [.Tuple ts k p] (.Tuple vs k2 p2) env = pure r := by
  subst he
  have hb := blockKind_fn hk
  unfold swappedStores
  simp only [hb]
  have hk' : ∀ id, env.kindOf id = env.scope.names.lookup id := fun id => rfl
  simp only [hk']
  unfold swP at h
  by_cases h1 : (!(ts.length == 2 || ts.length == 3) || vs.length != ts.length) = true
  · rw [if_pos h1] at h; cases h
    exact if_pos (by rw [Bool.or_eq_true]; exact .inl h1)
  rw [if_neg h1] at h
  refine (if_neg (by rw [Bool.or_eq_true]; intro z; rcases z with z | z <;> first | exact h1 z | cases z)).trans ?_
  by_cases h2 : swStar vs = true
  · rw [if_pos h2] at h; cases h
    exact if_pos h2
  rw [if_neg h2] at h
  refine (if_neg h2).trans ?_
  by_cases h3 : ((swN env.scope ts).length != ts.length || (swN env.scope ts).eraseDups.length != (swN env.scope ts).length) = true
  · rw [if_pos h3] at h; cases h
    exact if_pos h3
  rw [if_neg h3] at h
  refine (if_neg h3).trans ?_
  by_cases h4 : vs.all (foldedForSure 8) = true
  · rw [if_pos h4] at h; cases h
    exact if_pos h4
  rw [if_neg h4] at h
  refine (if_neg h4).trans ?_
  by_cases h5 : vs.all (constantsAlone 8) = true
  · rw [if_pos h5] at h; cases h
  rw [if_neg h5] at h; cases h
  exact if_neg h5
/-- a tuple as target: nothing is swapped -/
def swG (sc : Scope) (t e : Expr) : Bool := match t, e with
  | .Tuple ts _ _, .Tuple vs _ _ => decide (swP sc ts vs = some none)
  | .Tuple _ _ _, _ => true
  | .Subscript _ _ _, _ => true
  | _, _ => false
theorem swG_eq {sc : Scope} {t e : Expr} {env : Env} {l : Nat} (he : env.scope = sc) (hk : env.scope.kind = .function) (h : swG sc t e = true) : swapsWithSole [t] e l env = pure false ∧ swappedStores [t] e env = pure none := by
  unfold swG at h
  split at h
  · exact ⟨rfl, swP_eq he hk (of_decide_eq_true h)⟩
  · rename_i h1
    refine ⟨by cases e <;> rfl, ?_⟩
    cases e <;> first | rfl | exact absurd rfl (h1 _ _ _)
  · refine ⟨by cases e <;> rfl, by cases e <;> rfl⟩
  · cases h
def nolc : Expr → Bool
  | .ListComp .. => false
  | .SetComp .. => false
  | .DictComp .. => false
  | _ => true
theorem nolc_eq {e : Expr} {l : Nat} {env : Env} (h : nolc e = true) : swapsWith e none l env = pure false := by
  cases e <;> first | rfl | cases h
/-! ### which statement a term stands for -/
section
variable (tb : Tb) (N : List Str) (sc : Scope) (fb : Str → Bool)
mutual
inductive TrG : MP.E → Expr → Prop
  | var {i x pos} (h : N[i]? = some x) (l : locB sc x = true) (f : fb x = true ∨ sc.names.lookup x = some .local) : TrG (.var i) (.Name x pos)
  | tup {es pes k pos} (h : TrGs es pes) : TrG (.tup es) (.Tuple pes k pos)
  | idx {a b pa pb pos} (ha : TrE tb N sc fb a pa) (hb : TrE tb N sc fb b pb) : TrG (.idx a b) (.Subscript pa pb pos)
inductive TrGs : MP.E → List Expr → Prop
  | nil : TrGs .nil []
  | cons {a r pa pr} (h : TrG a pa) (q : TrGs r pr) : TrGs (.cons a r) (pa :: pr)
end
mutual
inductive TrS : MP.S → Stmt → Prop
  | pass {pos} : TrS .pass (.Pass pos)
  | asgV {i x e pe p pos} (h : N[i]? = some x) (l : locB sc x = true) (f : fb x = true ∨ sc.names.lookup x = some .local) (he : TrE tb N sc fb e pe) (hs : swB sc x p pe = false) : TrS (.asg (.var i) e) (.Assign [.Name x p] pe pos)
  | asgL {i x e pe p pos} (h : N[i]? = some x) (l : sc.names.lookup x = some .local) (he : TrE tb N sc fb e pe) (hs : swB sc x p pe = true) : TrS (.asg (.var i) e) (.Assign [.Name x p] pe pos)
  | asgG {t e pt pe pos} (ht : TrG tb N sc fb t pt) (he : TrE tb N sc fb e pe) (hs : swG sc pt pe = true) : TrS (.asg t e) (.Assign [pt] pe pos)
  | par {i j es x y px py kt pt a b k2 pt2 pos} (hi : N[i]? = some x) (hj : N[j]? = some y) (hij : i ≠ j) (hx : sc.names.lookup x = some .local) (hy : sc.names.lookup y = some .local) (ha : TrA tb N sc fb es [a, b])
      (hw : swP sc [.Name x px, .Name y py] [a, b] = some (some [x, y])) : TrS (.par [i, j] es) (.Assign [.Tuple [.Name x px, .Name y py] kt pt] (.Tuple [a, b] k2 pt2) pos)
  | par3 {i j l es x y z px py pz kt pt a b c k2 pt2 pos} (hi : N[i]? = some x) (hj : N[j]? = some y) (hl : N[l]? = some z) (hij : i ≠ j) (hil : i ≠ l) (hjl : j ≠ l) (hx : sc.names.lookup x = some .local) (hy : sc.names.lookup y = some .local) (hz : sc.names.lookup z = some .local) (ha : TrA tb N sc fb es [a, b, c])
      (hw : swP sc [.Name x px, .Name y py, .Name z pz] [a, b, c] = some (some [x, y, z])) : TrS (.par [i, j, l] es) (.Assign [.Tuple [.Name x px, .Name y py, .Name z pz] kt pt] (.Tuple [a, b, c] k2 pt2) pos)
  | augV {o i x e pe p pos} (h : N[i]? = some x) (l : locB sc x = true) (f : fb x = true ∨ sc.names.lookup x = some .local) (n : nmB x = true) (he : TrE tb N sc fb e pe) : TrS (.aug o (.var i) e) (.AugAssign (.Name x p) (bop o) pe pos)
  | augI {o a b e pa pb pe p pos} (ha : TrE tb N sc fb a pa) (hb : TrE tb N sc fb b pb) (he : TrE tb N sc fb e pe) (hsl : (match pb with | .Slice .. => false | _ => true) = true) : TrS (.aug o (.idx a b) e) (.AugAssign (.Subscript pa pb p) (bop o) pe pos)
  | exp {e pe pos} (he : TrE tb N sc fb e pe) (hn : nolc pe = true) : TrS (.exp e) (.Expr pe pos)
  | ite {c a b pc pa pb pos} (hc : TrE tb N sc fb c pc) (ha : TrB a pa) (hb : TrB b pb) : TrS (.ite c a b) (.If pc pa pb pos)
  | whl {c b pc pb pos} (hc : TrE tb N sc fb c pc) (hb : TrB b pb) : TrS (.whl c b) (.While pc pb [] pos)
  | for {t k ia b pt pi pb pos} (ht : TrT N sc fb t pt) (hi : TrI tb N sc fb k ia pt pi) (hb : TrB b pb) : TrS (.for t k ia b) (.For pt pi pb [] pos)
  | ret {e pe pos} (he : TrE tb N sc fb e pe) : TrS (.ret e) (.Return (some pe) pos)
  | retN {pos} : TrS .retN (.Return none pos)
  | brk {pos} : TrS .brk (.Break pos)
  | cnt {pos} : TrS .cnt (.Continue pos)
  | bad {st} : TrS .bad st
  | rai {c x p p2 pos} (h : tb.cn[c]? = some x) (g : glB sc x = true) (n : nmB x = true) : TrS (.rai c) (.Raise (some (.Call (.Name x p) [] [] p2)) none pos)
  | tri {hs e pe hd hds p pos} (he : TrE tb N sc fb e pe) (hh : TrH tb sc hs (hd :: hds)) : TrS (.tri hs e) (.Try [.Return (some pe) p] (hd :: hds) [] [] pos)
inductive TrB : MP.S → List Stmt → Prop
  | nil : TrB .nil []
  | cons {a r pa pr} (h : TrS a pa) (q : TrB r pr) : TrB (.cons a r) (pa :: pr)
end
end
end MPS
namespace MPS
open PySem PySem.Spec PyProof.Rows L2 PySem.W
variable [Tbs]
/-! ### readings of statements -/
inductive FlV where
  | nxt (σ : L2.St) | ret (v : V) | brk (σ : L2.St) | cnt (σ : L2.St)
def relF (K : PySem.W.Frag) : Pl → Hp → MP.Fl → FlV → Prop := fun m H f g => match f, g with
  | .nxt env, .nxt σ => EnvR K m H env σ
  | .ret d, .ret v => Rel K m H d v
  | .brk env, .brk σ => EnvR K m H env σ
  | .cnt env, .cnt σ => EnvR K m H env σ
  | _, _ => False
def atE (D : Ends) : FlV → Hp → Prop
  | .nxt σ, H => D.nx σ H
  | .ret v, H => D.rt v H
  | .brk σ, H => D.bk σ H
  | .cnt σ, H => D.ct σ H
def SR (X : Cx) (st : Stmt) : TS := fun D σ H => ∀ pins s, Inv X pins σ H s → wpAny (model X.prog X.w) X.A (exec st X.env) (SP X pins D) X.xe s
def SRs (X : Cx) (st : List Stmt) : TS := fun D σ H => ∀ pins s, Inv X pins σ H s → wpAny (model X.prog X.w) X.A (execs st X.env) (SP X pins D) X.xe s
theorem psr (X : Cx) (st : Stmt) : PS X st (SR X st) := ⟨fun pins s σ H D I h => h pins s I⟩
theorem pssr (X : Cx) (st : List Stmt) : PSs X st (SRs X st) := ⟨fun pins s σ H D I h => h pins s I⟩
theorem SR.of {X : Cx} {st : Stmt} {D : Ends} {σ : L2.St} {H : Hp} {t : TS} (h : X.env.scope.kind = .function → PS X st t) (q : t D σ H) : SR X st D σ H := fun pins s I => (h I.ok.kind).run pins s σ H D I q
theorem SRs.of {X : Cx} {st : List Stmt} {D : Ends} {σ : L2.St} {H : Hp} {t : TS} (h : PSs X st t) (q : t D σ H) : SRs X st D σ H := fun pins s I => h.run pins s σ H D I q
theorem SR.len {X : Cx} {st : Stmt} {D : Ends} {σ : L2.St} {H : Hp} (h : σ.length = X.N.length → SR X st D σ H) : SR X st D σ H := fun pins s I => h I.len pins s I
theorem SRs.len {X : Cx} {st : List Stmt} {D : Ends} {σ : L2.St} {H : Hp} (h : σ.length = X.N.length → SRs X st D σ H) : SRs X st D σ H := fun pins s I => h I.len pins s I
theorem ER.len {X : Cx} {e : Expr} {σ : L2.St} {H : Hp} {Q : VK} (h : σ.length = X.N.length → ER X e σ H Q) : ER X e σ H Q := fun pins s I => h I.len pins s I
theorem TR.len {X : Cx} {e : Expr} {σ : L2.St} {H : Hp} {Q : Bool → Hp → Prop} (h : σ.length = X.N.length → TR X e σ H Q) : TR X e σ H Q := fun pins s I => h I.len pins s I
theorem AR.len {X : Cx} {e : List Expr} {σ : L2.St} {H : Hp} {Q : List V → Hp → Prop} (h : σ.length = X.N.length → AR X e σ H Q) : AR X e σ H Q := fun pos pins s I => h I.len pos pins s I
theorem IR.len {X : Cx} {tg e : Expr} {σ : L2.St} {H : Hp} {R : It → Hp → Prop} (h : σ.length = X.N.length → IR X tg e σ H R) : IR X tg e σ H R := fun pins s I => h I.len pins s I
/-- a def's own block -/
structure Po (X : Cx) : Prop where
  pass : PassesOwn (model X.prog X.w) X.A X.env X.xe
  st : X.stack = X.env :: X.outer
  fr : X.env.frame = some X.env.locals
/-- the exceptions' wish, at any slots -/
def ZW (X : Cx) (cs : List Addr) (W : WX) (Z : Nat → Hp → Prop) : Prop := ∀ σ, σ.length = X.N.length → ∀ c H', Z c H' → Zw cs W σ c H'
theorem Gd.z {K : PySem.W.Frag} {α β : Type} {rl : Pl → Hp → α → β → Prop} {m : Pl} {H : Hp} {r : MP.R α} {Q : β → Hp → Prop} {Z Z' : Nat → Hp → Prop} (g : Gd K rl m H r Q Z) (h : ∀ c H', Z c H' → Z' c H') : Gd K rl m H r Q Z' := by
  cases r with
  | ok d h1 => exact g
  | exc c h1 => exact fun m2 H2 k2 hr => h _ _ (g m2 H2 k2 hr)
  | bad => exact g
section
variable (tb : Tb) (N : List Str) (cs : List Addr) (Φ : Nat → List MP.D → MP.Heap → MP.R MP.D) (G : List MP.D) (k : Nat) (sc : Scope) (fb : Str → Bool) (Wf : Nat)
def SimS (e : MP.S) (st : Stmt) : Prop := ∀ (X : Cx), Cg X N sc fb k → WldX tb cs Φ G k X → ∀ (W : WX), Takes X W → Po X → ∀ (Z : Nat → Hp → Prop), ZW X cs W Z → ∀ (env : MP.Env) (h : MP.Heap) (m : Pl) (σ : L2.St) (H : Hp) (D : Ends),
  EnvR X.K m H env σ → HR X.K m h H → Gd X.K (relF X.K) m H (MP.eS Φ G Wf e env h) (atE D) Z → SR X st D σ H
def SimB (e : MP.S) (st : List Stmt) : Prop := ∀ (X : Cx), Cg X N sc fb k → WldX tb cs Φ G k X → ∀ (W : WX), Takes X W → Po X → ∀ (Z : Nat → Hp → Prop), ZW X cs W Z → ∀ (env : MP.Env) (h : MP.Heap) (m : Pl) (σ : L2.St) (H : Hp) (D : Ends),
  EnvR X.K m H env σ → HR X.K m h H → Gd X.K (relF X.K) m H (MP.eS Φ G Wf e env h) (atE D) Z → SRs X st D σ H
end
/-! ### targets of any form -/
def GR (X : Cx) (tg : Expr) : TG := fun v σ H Q => ∀ pins s u, Inv X pins σ H s → RelV v u → wpAny (model X.prog X.w) X.A (assign tg X.env u) (fun _ s' => ∃ σ' H', Inv X pins σ' H' s' ∧ Q σ' H') X.xe s
theorem pgr (X : Cx) (tg : Expr) : PG X tg (GR X tg) := ⟨fun pins s σ H v u Q I r h => h pins s u I r⟩
theorem GR.of {X : Cx} {tg : Expr} {v : V} {σ : L2.St} {H : Hp} {t : TG} {Q : L2.St → Hp → Prop} (h : PG X tg t) (q : t v σ H Q) : GR X tg v σ H Q := fun pins s u I r => h.run pins s σ H v u Q I r q
theorem GR.len {X : Cx} {tg : Expr} {v : V} {σ : L2.St} {H : Hp} {Q : L2.St → Hp → Prop} (h : σ.length = X.N.length → GR X tg v σ H Q) : GR X tg v σ H Q := fun pins s u I r => h I.len pins s u I r
def GRs (X : Cx) (ts : List Expr) : TGs := fun vs σ H Q => ∀ pins s us, Inv X pins σ H s → Vals vs us → wpAny (model X.prog X.w) X.A (assignInOrder ((assignEach ts X.env).map (·.2)) us) (fun _ s' => ∃ σ' H', Inv X pins σ' H' s' ∧ Q σ' H') X.xe s
theorem pgsr (X : Cx) (ts : List Expr) : PGs X ts (GRs X ts) := ⟨fun pins s σ H vs us Q I r h => h pins s us I r⟩
theorem GRs.of {X : Cx} {ts : List Expr} {vs : List V} {σ : L2.St} {H : Hp} {t : TGs} {Q : L2.St → Hp → Prop} (h : PGs X ts t) (q : t vs σ H Q) : GRs X ts vs σ H Q := fun pins s us I r => h.run pins s σ H vs us Q I r q
def relEn (K : PySem.W.Frag) : Pl → Hp → MP.Env → L2.St → Prop := fun m H env σ => EnvR K m H env σ
section
variable {tb : Tb} {N : List Str} {cs : List Addr} {Φ : Nat → List MP.D → MP.Heap → MP.R MP.D} {G : List MP.D} {k : Nat} {sc : Scope} {fb : Str → Bool}
theorem TrG.each {e : MP.E} {pe : Expr} (h : TrG tb N sc fb e pe) (es : List Expr) (env : Env) : assignEach (pe :: es) env = (false, assign pe env) :: assignEach es env := by cases h <;> rfl
theorem TrGs.len : ∀ {e : MP.E} {pes : List Expr}, TrGs tb N sc fb e pes → ∀ env, (assignEach pes env).length = MP.elen e ∧ (assignEach pes env).findIdx? (·.1) = none
  | _, _, .nil, _ => ⟨rfl, rfl⟩
  | _, _, .cons h q, env => by
    rw [h.each]
    obtain ⟨h1, h2⟩ := TrGs.len q env
    exact ⟨by simp [h1, MP.elen], by rw [List.findIdx?_cons]; simp [h2]⟩
theorem assign_idx {o i : Expr} {pos : Pos} {env : Env} (h : (match i with | .Slice .. => false | _ => true) = true) (v : Value) : assign (.Subscript o i pos) env v = (do
      let ov ← holding [v] (eval o env)
      let iv ← holding [v, ov] (eval i env)
      standAt pos
      holding [v, ov, iv] (setItem ov iv v)
      release [v, ov, iv] []) := by
  cases i <;> first | rfl | cases h
end
end MPS
namespace MPS
open PySem PySem.Spec PyProof.Rows L2 PySem.W
variable [Tbs]
section
variable {tb : Tb} {N : List Str} {cs : List Addr} {Φ : Nat → List MP.D → MP.Heap → MP.R MP.D} {G : List MP.D} {k : Nat} {sc : Scope} {fb : Str → Bool}
mutual
theorem simG {X : Cx} (c : Cg X N sc fb k) (w : WldX tb cs Φ G k X) {W : WX} (tk : Takes X W) {Z : Nat → Hp → Prop} (zw : ZW X cs W Z) : ∀ {tg : MP.E} {ptg : Expr} {d : MP.D} {v : V} {env : MP.Env} {h : MP.Heap} {m : Pl} {σ : L2.St} {H : Hp} {Q : L2.St → Hp → Prop},
    TrG tb N sc fb tg ptg → EnvR X.K m H env σ → HR X.K m h H → Rel X.K m H d v → Gd X.K (relEn X.K) m H (MP.setT Φ G tg d env h) Q Z → GR X ptg v σ H Q
  | _, _, d, v, env, h, m, σ, H, Q, .var hN l f, er, hr, r, g => by
    refine GR.of (pg_name (by rw [c.nn]; exact c.nd) (by rw [c.nn]; exact hN) (by rw [c.sc]; exact loc_of l) (by rw [c.fbx l, c.sc]; exact f)) ?_
    unfold MP.setT at g
    split at g
    · rename_i hi
      exact g _ m H (.refl _ _) hr (er.set r hi)
    · exact g.elim
  | .tup es, _, d, v, env, h, m, σ, H, Q, .tup ht, er, hr, r, g => by
    cases d with
    | tup ds =>
      unfold MP.setT at g
      split at g
      · rename_i hl
        cases r with
        | tup h1 rs =>
        refine GR.of (pg_tup c.calm (pgsr X _) (ht.len _).1 (ht.len _).2) ⟨_, _, rfl, h1, by rw [← rs.length]; exact hl, ?_⟩
        exact simGs c w tk zw ht er hr rs g
      · exact g.elim
    | _ => unfold MP.setT at g; exact g.elim
  | .idx a b, _, d, v, env, h, m, σ, H, Q, .idx ha hb, er, hr, r, g => GR.len fun hl => by
    have g : Gd X.K (relEn X.K) m H ((MP.eE Φ G a env h).bind fun x h1 => (MP.eE Φ G b env h1).bind fun y h2 => (MP.setJ x y d h2).bind fun _ h3 => .ok env h3) Q Z := by
      unfold MP.setT at g; exact g
    refine GR.of (pg_sub (per X _) (per X _) (setV X) (assign_idx (by cases hb <;> rfl))) ?_
    refine simE ha X c w W tk env h m σ H _ er hr ((g.bind fun d1 h1 v1 m1 H1 _ k1 hr1 r1 g1 => ?_).z (zw σ hl))
    refine simE hb X c w W tk env h1 m1 σ H1 _ (er.keep hr k1) hr1 ((g1.bind fun d2 h2 v2 m2 H2 _ k2 hr2 r2 g2 => ?_).z (zw σ hl))
    refine setJ_sound (Q := fun _ H3 => Q σ H3) (Z := Z) c.wo c.hu hr2 (r1.keep hr1.mut k2) r2 ((r.keep hr.mut k1).keep hr1.mut k2) (g2.bind fun _ h3 _ m3 H3 _ k3 hr3 _ g3 => ?_)
    exact g3 σ m3 H3 (.refl _ _) hr3 (((er.keep hr k1).keep hr1 k2).keep hr2 k3)
theorem simGs {X : Cx} (c : Cg X N sc fb k) (w : WldX tb cs Φ G k X) {W : WX} (tk : Takes X W) {Z : Nat → Hp → Prop} (zw : ZW X cs W Z) : ∀ {tg : MP.E} {pts : List Expr} {ds : List MP.D} {vs : List V} {env : MP.Env} {h : MP.Heap} {m : Pl} {σ : L2.St} {H : Hp} {Q : L2.St → Hp → Prop},
    TrGs tb N sc fb tg pts → EnvR X.K m H env σ → HR X.K m h H → Rels X.K m H ds vs → Gd X.K (relEn X.K) m H (MP.setTs Φ G tg ds env h) Q Z → GRs X pts vs σ H Q
  | _, _, ds, vs, env, h, m, σ, H, Q, .nil, er, hr, rs, g => by
    cases rs with
    | nil =>
      refine GRs.of pgs_nil ⟨rfl, ?_⟩
      unfold MP.setTs at g
      exact g σ m H (.refl _ _) hr er
    | cons r1 r2 => unfold MP.setTs at g; exact g.elim
  | .cons a r, _, ds, vs, env, h, m, σ, H, Q, .cons ha hq, er, hr, rs, g => by
    cases rs with
    | nil => unfold MP.setTs at g; exact g.elim
    | cons r1 r2 =>
      refine GRs.of (pgs_cons (pgr X _) (pgsr X _) (by rw [ha.each]; rfl)) ⟨_, _, rfl, ?_⟩
      unfold MP.setTs at g
      refine simG c w tk zw ha er hr r1 (g.bind fun env1 h1 σ1 m1 H1 _ k1 hr1 er1 g1 => ?_)
      exact simGs c w tk zw hq er1 hr1 (r2.keep hr.mut k1) g1
end
/-! ### item of a list, by values -/
def GetV (X : Cx) : V → V → Hp → VK → Prop := fun o i H Q => ∀ (pins : List (Addr × Obj)) (s : Shared) (σ : L2.St) (ov iv : Value), Inv X pins σ H s → RelV o ov → RelV i iv → wpAny (model X.prog X.w) X.A (getItem ov iv) (EP X pins σ Q) X.xe s
theorem getV (X : Cx) : PGet X (GetV X) := fun pins s σ H o i ov iv Q I ro ri h => h pins s σ ov iv I ro ri
theorem get_list {X : Cx} : PGet X (rIxL X.K) := by
  intro pins s σ H x y v u Q I rx ry h
  obtain ⟨p, xs, i, z, rfl, rfl, hq, he, q⟩ := h
  cases rx
  obtain ⟨t, rfl⟩ := ry
  obtain ⟨its, r, pl, hz⟩ := I.list hq
  obtain ⟨j, h1, h2, h3, h4, h5⟩ := atI_get he
  obtain ⟨w, ew, rw'⟩ := r.get h2
  have hl := r.length
  have hn := line63
  have fin : EP X pins σ Q w s := ⟨z, H, I, rw', q⟩
  by_cases h0 : 0 ≤ i
  · have hj : i.toNat = j := by
      rw [seqIndex_of h0 h5] at h1
      exact Option.some.inj h1
    exact wpAny_getItem_list pl.isList h0 (by omega) (by rw [hj]; simpa using ew) fin
  · have hj : (i + (its.toArray.size : Int)).toNat = j := by
      rw [seqIndex_neg (by omega) h4] at h1
      rw [List.size_toArray, ← hl]
      exact Option.some.inj h1
    exact wpAny_getItem_list_neg pl.isList (by omega) (by rw [List.size_toArray] <;> omega) (by omega) (by rw [hj]; simpa using ew) fin
theorem getL_sound {X : Cx} {d1 d2 d : MP.D} {v1 v2 : V} {m : Pl} {H : Hp} {h : MP.Heap} {Q : VK} (hr : HR X.K m h H) (r1 : Rel X.K m H d1 v1) (r2 : Rel X.K m H d2 v2) (e : MP.opI d1 d2 h = some d) (hL : ∃ n, d1 = .ref n) (q : ∀ v, Rel X.K m H d v → Q v H) : GetV X v1 v2 H Q := by
  obtain ⟨n, rfl⟩ := hL
  cases r1 with
  | ref h1 =>
  unfold MP.opI at e
  cases d2 with
  | int i =>
    cases r2
    simp only at e
    split at e
    · rename_i xs e1
      obtain ⟨a, vs, e2, e3, r⟩ := hr.lst e1
      rw [h1] at e2; cases e2
      obtain ⟨v, e4, rv⟩ := r.at e
      exact fun pins s σ ov iv I ro ri => get_list pins s σ H _ _ ov iv Q I ro ri ⟨_, _, _, v, rfl, rfl, .of e3, e4, q v rv⟩
    · cases e
  | _ => simp at e
/-! ### op= -/
def IpV (X : Cx) (op : Operator) : TIp := fun x y H Q => ∀ (pins : List (Addr × Obj)) (s : Shared) (σ : L2.St) (v u : Value), Inv X pins σ H s → RelV x v → RelV y u → wpAny (model X.prog X.w) X.A (inplaceOp op v u) (EP X pins σ Q) X.xe s
theorem ipV (X : Cx) (op : Operator) : PIp X op (IpV X op) := fun pins s σ H x y v u Q I rx ry h => h pins s σ v u I rx ry
theorem augI_sound {X : Cx} {o : MP.BOp} {d1 d2 d : MP.D} {v1 v2 : V} {m : Pl} {H : Hp} {Q : VK} (r1 : Rel X.K m H d1 v1) (r2 : Rel X.K m H d2 v2) (e : MP.augI o d1 d2 = some d) (q : ∀ v, Rel X.K m H d v → Q v H) : IpV X (bop o) v1 v2 H Q := by
  unfold MP.augI at e
  split at e
  · cases e; cases r1; cases r2
    exact fun pins s σ v u I rx ry => ip_add pins s σ H _ _ v u Q I rx ry ⟨_, _, rfl, rfl, q _ (.int _)⟩
  · cases e; cases r1; cases r2
    exact fun pins s σ v u I rx ry => ip_sub pins s σ H _ _ v u Q I rx ry ⟨_, _, rfl, rfl, q _ (.int _)⟩
  · split at e
    · rename_i hm
      cases e; cases r1; cases r2
      intro pins s σ v u I rx ry
      obtain ⟨t, rfl⟩ := rx
      obtain ⟨t', rfl⟩ := ry
      refine imul_int ⟨.int _, H, I.tok _, ⟨_, rfl⟩, q _ (.int _)⟩ ?_
      simp only [MP.mulOk, Bool.or_eq_true, Bool.and_eq_true] at hm
      rcases hm with (hm | hm) | ⟨h1, h2⟩
      · exact CMul.ok (.inl (smallI_spec hm))
      · exact CMul.ok (.inr (smallI_spec hm))
      · simp only [MP.wideI, decide_eq_true_eq] at h1 h2
        exact CMulW.ok (wide_mul h1 h2 (by decide) (by decide) (by decide))
    · cases e
  · cases e
end
end MPS
namespace MPS
open PySem PySem.Spec PyProof.Rows L2 PySem.W
variable [Tbs]
section
variable {tb : Tb} {N : List Str} {cs : List Addr} {Φ : Nat → List MP.D → MP.Heap → MP.R MP.D} {G : List MP.D} {k : Nat} {sc : Scope} {fb : Str → Bool} {Wf : Nat}
theorem gd_next {K : PySem.W.Frag} {m : Pl} {H : Hp} {h : MP.Heap} {env : MP.Env} {σ : L2.St} {D : Ends} {Z : Nat → Hp → Prop} (g : Gd K (relF K) m H (.ok (.nxt env) h) (atE D) Z) (hr : HR K m h H) (er : EnvR K m H env σ) : D.nx σ H := g (.nxt σ) m H (.refl _ _) hr er
/-- the body's ends, in a block -/
theorem simSs {a r : MP.S} {pa : Stmt} {pr : List Stmt} (sa : SimS tb N cs Φ G k sc fb Wf a pa) (sr : SimB tb N cs Φ G k sc fb Wf r pr) : SimB tb N cs Φ G k sc fb Wf (.cons a r) (pa :: pr) :=
  fun X c w W tk po Z zw env h m σ H D er hr g => by
    refine SRs.of (pss_cons (psr X _) (pssr X _)) ?_
    rw [MP.eS_cons] at g
    refine sa X c w W tk po Z zw env h m σ H _ er hr (g.bind fun f h1 f' m1 H1 _ k1 hr1 r1 g1 => ?_)
    cases f <;> cases f' <;> first | exact r1.elim | skip
    · exact sr X c w W tk po Z zw _ h1 m1 _ H1 D r1 hr1 g1
    · exact g1 (.ret _) m1 H1 (.refl _ _) hr1 r1
    · exact g1 (.brk _) m1 H1 (.refl _ _) hr1 r1
    · exact g1 (.cnt _) m1 H1 (.refl _ _) hr1 r1
theorem simS_asgV {i : Nat} {x : Str} {e : MP.E} {pe : Expr} {p pos : Pos} (h : N[i]? = some x) (l : locB sc x = true) (f : fb x = true ∨ sc.names.lookup x = some .local) (he : TrE tb N sc fb e pe) (hs : swB sc x p pe = false) : SimS tb N cs Φ G k sc fb Wf (.asg (.var i) e) (.Assign [.Name x p] pe pos) :=
  fun X c w W tk po Z zw env hp m σ H D er hr g => SR.len fun hl => by
    refine SR.of (fun hk => ps_set (by rw [c.nn]; exact c.nd) (by rw [c.nn]; exact h) (by rw [c.sc]; exact loc_of l) (per X pe) (by rw [swB_eq c.sc hk, hs]) (by rw [c.fbx l, c.sc]; exact f)) ?_
    rw [MP.eS_asg] at g
    refine simE he X c w W tk env hp m σ H _ er hr ((g.bind fun d h1 v m1 H1 _ k1 hr1 r1 g1 => ?_).z (zw σ hl))
    unfold MP.setT at g1
    split at g1
    · rename_i hi
      exact gd_next g1 hr1 ((er.keep hr k1).set r1 hi)
    · exact g1.elim
theorem simS_asgL {i : Nat} {x : Str} {e : MP.E} {pe : Expr} {p pos : Pos} (h : N[i]? = some x) (l : sc.names.lookup x = some .local) (he : TrE tb N sc fb e pe) (hs : swB sc x p pe = true) : SimS tb N cs Φ G k sc fb Wf (.asg (.var i) e) (.Assign [.Name x p] pe pos) :=
  fun X c w W tk po Z zw env hp m σ H D er hr g => SR.len fun hl => by
    rw [MP.eS_asg] at g
    have fin : ∀ d h1 v m1 H1, MP.eE Φ G e env hp = .ok d h1 → Kp m H m1 H1 → HR X.K m1 h1 H1 → Rel X.K m1 H1 d v → Gd X.K (relF X.K) m1 H1 ((MP.setT Φ G (.var i) d env h1).bind fun env h2 => .ok (.nxt env) h2) (atE D) Z → gName i v σ H1 D.nx := fun d h1 v m1 H1 _ k1 hr1 r1 g1 => by
      unfold MP.setT at g1
      split at g1
      · rename_i hi
        exact gd_next g1 hr1 ((er.keep hr k1).set r1 hi)
      · exact g1.elim
    have hsw : ∀ hk : X.env.scope.kind = .function, swapsWith pe (some (.Name x p)) pos.line X.env = pure true := fun hk => by rw [swB_eq c.sc hk, hs]
    have hN : X.N.Nodup := by rw [c.nn]; exact c.nd
    have hy : X.N[i]? = some x := by rw [c.nn]; exact h
    have hyl : X.env.scope.names.lookup x = some .local := by rw [c.sc]; exact l
    cases he with
    | @lc _ _ imm tg ik ia cc el ptg pit ifs pel scope own cpos hi hb ho ht hc he =>
      refine SR.of (fun hk => ps_setLc (g := gOf X.K tg) (tt := ttB X scope ifs) (te := teB X scope pel) (own := own) c.calm hN hy hyl (hsw hk) (pir X ptg pit) (by rw [c.nn, c.sc]; exact blkOk_by hb)
        (fun s H C cl fp => pgOf (c.blk scope s H C cl fp) ht) (fun s H C cl fp => ⟨fun pins s' σ H' Q I h => h s H C cl fp pins s' I⟩) (fun s H C cl fp => ⟨fun pins s' σ H' Q I h => h s H C cl fp pins s' I⟩) (hi.fold _)) ?_
      exact tlc_sound (simIt hi) hb ho ht (simC (fun pe q => simT q) hc) (simE he) c w tk er hr ((g.bind fin).z (zw σ hl))
    | @lc2 _ _ imm tg ik ia cc tg1 ik1 ia1 c1 el ptg pit ifs ptg1 pit1 ifs1 pel scope own cpos hi hb ho ht hc hi1 ht1 hc1 he =>
      refine SR.of (fun hk => ps_setLc2 (g := gOf X.K tg) (g1 := gOf X.K tg1) (tt := ttB X scope ifs) (tt1 := ttB X scope ifs1) (wi1 := tiB X scope ptg1 pit1) (te := teB X scope pel) (own := own) (vs1 := MP.tgI tg1) c.calm hN hy hyl (hsw hk) (pir X ptg pit) (by rw [c.nn, c.sc]; exact blkOk_by hb) (by rw [ho]; intro i hi; exact List.mem_append_right _ hi)
        (fun s H C cl fp => pgOf (c.blk scope s H C cl fp) ht) (fun s H C cl fp => ⟨fun pins s' σ H' Q I h => h s H C cl fp pins s' I⟩) (fun s H C cl fp => ⟨fun pins s' σ H' Q I h => h s H C cl fp pins s' I⟩)
        (fun s H C cl fp => pgOf (c.blk scope s H C cl fp) ht1) (fun s H C cl fp => ⟨fun pins s' σ H' Q I h => h s H C cl fp pins s' I⟩) (fun s H C cl fp => ⟨fun pins s' σ H' Q I h => h s H C cl fp pins s' I⟩) (hi.fold _) (fun env => hi1.fold env)) ?_
      exact tlc2_sound (simIt hi) hb ho ht (simC (fun pe q => simT q) hc) (simIt hi1) ht1 (simC (fun pe q => simT q) hc1) (simE he) c w tk er hr ((g.bind fin).z (zw σ hl))
    | _ => simp [swB] at hs
theorem simS_asgG {t : MP.E} {pt : Expr} {e : MP.E} {pe : Expr} {pos : Pos} (ht : TrG tb N sc fb t pt) (he : TrE tb N sc fb e pe) (hs : swG sc pt pe = true) : SimS tb N cs Φ G k sc fb Wf (.asg t e) (.Assign [pt] pe pos) :=
  fun X c w W tk po Z zw env hp m σ H D er hr g => SR.len fun hl => by
    refine SR.of (fun hk => ps_asg (per X pe) (pgr X pt) (swG_eq c.sc hk hs).1 (swG_eq (l := 0) c.sc hk hs).2 (by rw [ht.each]; rfl)) ?_
    rw [MP.eS_asg] at g
    refine simE he X c w W tk env hp m σ H _ er hr ((g.bind fun d h1 v m1 H1 _ k1 hr1 r1 g1 => ?_).z (zw σ hl))
    refine simG c w tk zw ht (er.keep hr k1) hr1 r1 (g1.bind fun env2 h2 σ2 m2 H2 _ k2 hr2 er2 g2 => ?_)
    exact gd_next g2 hr2 er2
theorem rels2 {K : PySem.W.Frag} {m : Pl} {H : Hp} {a b : MP.D} {vs : List V} (r : Rels K m H [a, b] vs) : ∃ u v, vs = [u, v] ∧ Rel K m H a u ∧ Rel K m H b v := by
  cases r with
  | cons ru r =>
  cases r with
  | cons rv r =>
  cases r
  exact ⟨_, _, rfl, ru, rv⟩
theorem rels3 {K : PySem.W.Frag} {m : Pl} {H : Hp} {a b c : MP.D} {vs : List V} (r : Rels K m H [a, b, c] vs) : ∃ u v w, vs = [u, v, w] ∧ Rel K m H a u ∧ Rel K m H b v ∧ Rel K m H c w := by
  cases r with
  | cons ru r =>
  obtain ⟨v, w, rfl, rv, rw'⟩ := rels2 r
  exact ⟨_, _, _, rfl, ru, rv, rw'⟩
theorem setN2 {i j : Nat} {ds : List MP.D} {env env' : MP.Env} (e : MP.setN [i, j] ds env = some env') : ∃ a b, ds = [a, b] ∧ i < env.length ∧ j < env.length ∧ env' = (env.set i a).set j b := by
  cases ds with
  | nil => simp [MP.setN] at e
  | cons a ds =>
  cases ds with
  | nil => simp [MP.setN] at e
  | cons b ds =>
  cases ds with
  | cons d ds => simp [MP.setN] at e
  | nil =>
    unfold MP.setN at e
    split at e
    · rename_i h1
      unfold MP.setN at e
      split at e
      · rename_i h2
        unfold MP.setN at e
        cases e
        exact ⟨a, b, rfl, h1, by simpa using h2, rfl⟩
      · cases e
    · cases e
theorem setN3 {i j l : Nat} {ds : List MP.D} {env env' : MP.Env} (e : MP.setN [i, j, l] ds env = some env') : ∃ a b d, ds = [a, b, d] ∧ i < env.length ∧ j < env.length ∧ l < env.length ∧ env' = ((env.set i a).set j b).set l d := by
  cases ds with
  | nil => simp [MP.setN] at e
  | cons a ds =>
    unfold MP.setN at e
    split at e
    · rename_i h1
      obtain ⟨b, d, rfl, h2, h3, rfl⟩ := setN2 e
      exact ⟨a, b, d, rfl, h1, by simpa using h2, by simpa using h3, rfl⟩
    · cases e
theorem simS_par {i j : Nat} {es : MP.E} {x y : Str} {px py pt pt2 pos : Pos} {kt k2 : Nat} {a b : Expr} (hi : N[i]? = some x) (hj : N[j]? = some y) (hij : i ≠ j) (hx : sc.names.lookup x = some .local) (hy : sc.names.lookup y = some .local) (ha : TrA tb N sc fb es [a, b])
    (hw : swP sc [.Name x px, .Name y py] [a, b] = some (some [x, y])) : SimS tb N cs Φ G k sc fb Wf (.par [i, j] es) (.Assign [.Tuple [.Name x px, .Name y py] kt pt] (.Tuple [a, b] k2 pt2) pos) :=
  fun X c w W tk po Z zw env hp m σ H D er hr g => SR.len fun hl => by
    refine SR.of (fun hk => ps_par c.calm (by rw [c.nn]; exact c.nd) (by rw [c.nn]; exact hi) (by rw [c.nn]; exact hj) hij (by rw [c.sc]; exact hx) (by rw [c.sc]; exact hy) (par X _) (swP_eq c.sc hk hw)) ?_
    rw [MP.eS_par] at g
    refine simAs ha X c w W tk env hp m σ H _ er hr ((gd_args g fun ds h1 vs m1 H1 _ k1 hr1 r1 g1 => ?_).z (zw σ hl))
    obtain ⟨env', e, g2⟩ := g1.optBind
    obtain ⟨u, v, e1, h2, h3, rfl⟩ := setN2 e
    have e1 : ds = [u, v] := e1
    subst e1
    obtain ⟨u1, v1, rfl, ru, rv⟩ := rels2 r1
    exact ⟨_, _, rfl, gd_next g2 hr1 (((er.keep hr k1).set ru h2).set rv (by simpa using h3))⟩
theorem simS_par3 {i j l : Nat} {es : MP.E} {x y z : Str} {px py pz pt pt2 pos : Pos} {kt k2 : Nat} {a b d : Expr} (hi : N[i]? = some x) (hj : N[j]? = some y) (hl' : N[l]? = some z) (hij : i ≠ j) (hil : i ≠ l) (hjl : j ≠ l) (hx : sc.names.lookup x = some .local) (hy : sc.names.lookup y = some .local) (hz : sc.names.lookup z = some .local) (ha : TrA tb N sc fb es [a, b, d])
    (hw : swP sc [.Name x px, .Name y py, .Name z pz] [a, b, d] = some (some [x, y, z])) : SimS tb N cs Φ G k sc fb Wf (.par [i, j, l] es) (.Assign [.Tuple [.Name x px, .Name y py, .Name z pz] kt pt] (.Tuple [a, b, d] k2 pt2) pos) :=
  fun X c w W tk po Z zw env hp m σ H D er hr g => SR.len fun hl => by
    refine SR.of (fun hk => ps_par3 c.calm (by rw [c.nn]; exact c.nd) (by rw [c.nn]; exact hi) (by rw [c.nn]; exact hj) (by rw [c.nn]; exact hl') hij hil hjl (by rw [c.sc]; exact hx) (by rw [c.sc]; exact hy) (by rw [c.sc]; exact hz) (par X _) (swP_eq c.sc hk hw)) ?_
    rw [MP.eS_par] at g
    refine simAs ha X c w W tk env hp m σ H _ er hr ((gd_args g fun ds h1 vs m1 H1 _ k1 hr1 r1 g1 => ?_).z (zw σ hl))
    obtain ⟨env', e, g2⟩ := g1.optBind
    obtain ⟨u, v, t, e1, h2, h3, h4, rfl⟩ := setN3 e
    have e1 : ds = [u, v, t] := e1
    subst e1
    obtain ⟨u1, v1, t1, rfl, ru, rv, rt⟩ := rels3 r1
    exact ⟨_, _, _, rfl, gd_next g2 hr1 ((((er.keep hr k1).set ru h2).set rv (by simpa using h3)).set rt (by simpa using h4))⟩
theorem simS_augV {o : MP.BOp} {i : Nat} {x : Str} {e : MP.E} {pe : Expr} {p pos : Pos} (h : N[i]? = some x) (l : locB sc x = true) (f : fb x = true ∨ sc.names.lookup x = some .local) (he : TrE tb N sc fb e pe) : SimS tb N cs Φ G k sc fb Wf (.aug o (.var i) e) (.AugAssign (.Name x p) (bop o) pe pos) :=
  fun X c w W tk po Z zw env hp m σ H D er hr g => SR.len fun hl => by
    refine SR.of (fun hk => ps_aug (by rw [c.nn]; exact c.nd) (by rw [c.nn]; exact h) (by rw [c.sc]; exact loc_of l) (per X pe) (ipV X _) (by rw [c.fbx l, c.sc]; exact f)) ?_
    rw [MP.eS_augV, MP.eE_var] at g
    split at g
    · exact g.elim
    · rename_i d hd e
      obtain ⟨v, e1, r⟩ := er.2 i _ e hd
      refine ⟨v, e1, ?_⟩
      have g : Gd X.K (relF X.K) m H ((MP.eE Φ G _ env hp).bind fun y h2 => (MP.R.opt h2 (MP.augI o d y)).bind fun z h3 => if i < env.length then .ok (.nxt (env.set i z)) h3 else .bad) (atE D) Z := g
      refine simE he X c w W tk env hp m σ H _ er hr ((g.bind fun y h1 v1 m1 H1 _ k1 hr1 r1 g1 => ?_).z (zw σ hl))
      obtain ⟨z, e2, g2⟩ := g1.optBind
      refine augI_sound (r.keep hr.mut k1) r1 e2 fun u ru => ?_
      split at g2
      · rename_i hi
        exact gd_next g2 hr1 ((er.keep hr k1).set ru hi)
      · exact g2.elim
    · exact g.elim
theorem simS_augI {o : MP.BOp} {a b e : MP.E} {pa pb pe : Expr} {p pos : Pos} (ha : TrE tb N sc fb a pa) (hb : TrE tb N sc fb b pb) (he : TrE tb N sc fb e pe) : SimS tb N cs Φ G k sc fb Wf (.aug o (.idx a b) e) (.AugAssign (.Subscript pa pb p) (bop o) pe pos) :=
  fun X c w W tk po Z zw env hp m σ H D er hr g => SR.len fun hl => by
    refine SR.of (fun hk => ps_augS (per X _) (per X _) (getV X) (per X _) (ipV X _) (setV X) (fun ov iv new => by cases hb <;> rfl)) ?_
    rw [MP.eS_augI] at g
    refine simE ha X c w W tk env hp m σ H _ er hr ((g.bind fun d1 h1 v1 m1 H1 _ k1 hr1 r1 g1 => ?_).z (zw σ hl))
    have er1 := er.keep hr k1
    refine simE hb X c w W tk env h1 m1 σ H1 _ er1 hr1 ((g1.bind fun d2 h2 v2 m2 H2 _ k2 hr2 r2 g2 => ?_).z (zw σ hl))
    have er2 := er1.keep hr1 k2
    obtain ⟨y, e3, g3⟩ := g2.optBind
    have r1' := r1.keep hr1.mut k2
    have hL : ∃ n, d1 = .ref n := by
      rw [Option.bind_eq_some_iff] at e3
      obtain ⟨_, q, _⟩ := e3
      unfold MP.isL at q
      split at q
      · exact ⟨_, rfl⟩
      · cases q
    have e3 : MP.opI d1 d2 h2 = some y := by
      rw [Option.bind_eq_some_iff] at e3
      exact e3.choose_spec.2
    refine getL_sound hr2 r1' r2 e3 hL fun v3 r3 => ?_
    refine simE he X c w W tk env h2 m2 σ H2 _ er2 hr2 ((g3.bind fun d4 h4 v4 m4 H4 _ k4 hr4 r4 g4 => ?_).z (zw σ hl))
    obtain ⟨u, e5, g5⟩ := g4.optBind
    refine augI_sound (r3.keep hr2.mut k4) r4 e5 fun v5 r5 => ?_
    refine setL_sound (Q := fun _ H6 => D.nx σ H6) (Z := Z) hr4 (r1'.keep hr2.mut k4) (r2.keep hr2.mut k4) r5 (g5.bind fun _ h6 _ m6 H6 _ k6 hr6 _ g6 => ?_)
    exact gd_next g6 hr6 ((er2.keep hr2 k4).keep hr4 k6)
end
end MPS
namespace MPS
open PySem PySem.Spec PyProof.Rows L2 PySem.W
variable [Tbs]
section
variable {tb : Tb} {N : List Str} {cs : List Addr} {Φ : Nat → List MP.D → MP.Heap → MP.R MP.D} {G : List MP.D} {k : Nat} {sc : Scope} {fb : Str → Bool} {Wf : Nat}
theorem simS_exp {e : MP.E} {pe : Expr} {pos : Pos} (he : TrE tb N sc fb e pe) (hn : nolc pe = true) : SimS tb N cs Φ G k sc fb Wf (.exp e) (.Expr pe pos) :=
  fun X c w W tk po Z zw env hp m σ H D er hr g => SR.len fun hl => by
    refine SR.of (fun hk => ps_expr (per X pe) (nolc_eq hn)) ?_
    rw [MP.eS_exp] at g
    refine simE he X c w W tk env hp m σ H _ er hr ((g.bind fun d h1 v m1 H1 _ k1 hr1 r1 g1 => ?_).z (zw σ hl))
    exact gd_next g1 hr1 (er.keep hr k1)
theorem tru_bind {α : Type} {e : MP.E} {env : MP.Env} {h : MP.Heap} {f : Bool → MP.Heap → MP.R α} : ((MP.eE Φ G e env h).bind fun x h1 => (MP.tru x h1).bind f) = (tE Φ G e env h).bind f := by
  unfold tE
  cases MP.eE Φ G e env h <;> rfl
theorem simS_ite {e : MP.E} {a b : MP.S} {pe : Expr} {pa pb : List Stmt} {pos : Pos} (he : TrE tb N sc fb e pe) (sa : SimB tb N cs Φ G k sc fb Wf a pa) (sb : SimB tb N cs Φ G k sc fb Wf b pb) : SimS tb N cs Φ G k sc fb Wf (.ite e a b) (.If pe pa pb pos) :=
  fun X c w W tk po Z zw env hp m σ H D er hr g => SR.len fun hl => by
    refine SR.of (fun hk => ps_if (ptr X pe) (pssr X _) (pssr X _)) ?_
    rw [MP.eS_ite, tru_bind] at g
    refine simT he X c w W tk env hp m σ H _ er hr ((g.bind fun q h1 q' m1 H1 _ k1 hr1 r1 g1 => ?_).z (zw σ hl))
    cases r1
    cases q with
    | true =>
      simp only [if_true] at g1 ⊢
      exact sa X c w W tk po Z zw env h1 m1 σ H1 D (er.keep hr k1) hr1 g1
    | false =>
      simp only [Bool.false_eq_true, if_false] at g1 ⊢
      exact sb X c w W tk po Z zw env h1 m1 σ H1 D (er.keep hr k1) hr1 g1
theorem simS_ret {e : MP.E} {pe : Expr} {pos : Pos} (he : TrE tb N sc fb e pe) : SimS tb N cs Φ G k sc fb Wf (.ret e) (.Return (some pe) pos) :=
  fun X c w W tk po Z zw env hp m σ H D er hr g => SR.len fun hl => by
    refine SR.of (fun hk => ps_ret (per X pe)) ?_
    rw [MP.eS_ret] at g
    refine simE he X c w W tk env hp m σ H _ er hr ((g.bind fun d h1 v m1 H1 _ k1 hr1 r1 g1 => ?_).z (zw σ hl))
    exact g1 (.ret v) m1 H1 (.refl _ _) hr1 r1
theorem simS_whl {e : MP.E} {b : MP.S} {pe : Expr} {pb : List Stmt} {pos : Pos} (he : TrE tb N sc fb e pe) (sb : SimB tb N cs Φ G k sc fb Wf b pb) : SimS tb N cs Φ G k sc fb Wf (.whl e b) (.While pe pb [] pos) :=
  fun X c w W tk po Z zw env hp m σ H D er hr g pins s I => by
    refine (SR.of (fun hk => ps_while po.pass (ptr X pe) (pssr X _)) ?_ : SR X (.While pe pb [] pos) D σ H) pins s I
    rw [MP.eS_whl] at g
    refine ⟨fun n σ' H' => ∃ m' h' env', EnvR X.K m' H' env' σ' ∧ HR X.K m' h' H' ∧ Gd X.K (relF X.K) m' H' (MP.loop (fun env h => (MP.eE Φ G e env h).bind fun x h1 => MP.tru x h1) (fun env h => MP.eS Φ G Wf b env h) n env' h') (atE D) Z, ⟨Wf, m, hp, env, er, hr, g⟩, ?_⟩
    rintro n σ1 H1 ⟨m1, h1, env1, er1, hr1, g1⟩
    refine TR.len fun hl => ?_
    cases n with
    | zero => unfold MP.loop at g1; exact g1.elim
    | succ n =>
      unfold MP.loop at g1
      refine simT he X c w W tk env1 h1 m1 σ1 H1 _ er1 hr1 (((show Gd X.K (relF X.K) m1 H1 ((tE Φ G e env1 h1).bind _) _ Z from g1).bind fun q h2 q' m2 H2 _ k2 hr2 r2 g2 => ?_).z (zw σ1 hl))
      cases r2
      have er2 := er1.keep hr1 k2
      cases q with
      | false =>
        simp only [Bool.false_eq_true, if_false] at g2 ⊢
        exact gd_next g2 hr2 er2
      | true =>
        simp only [if_true] at g2 ⊢
        refine ⟨fun σ' H' => ∃ m' h' env', EnvR X.K m' H' env' σ' ∧ HR X.K m' h' H' ∧ Gd X.K (relF X.K) m' H' (MP.loop (fun env h => (MP.eE Φ G e env h).bind fun x h1 => MP.tru x h1) (fun env h => MP.eS Φ G Wf b env h) n env' h') (atE D) Z, fun σ' H' z => ⟨n, Nat.lt_succ_self n, z⟩, ?_⟩
        refine sb X c w W tk po Z zw env1 h2 m2 σ1 H2 _ er2 hr2 (g2.bind fun f h3 f' m3 H3 _ k3 hr3 r3 g3 => ?_)
        cases f <;> cases f' <;> first | exact r3.elim | skip
        · exact ⟨m3, h3, _, r3, hr3, g3⟩
        · exact g3 (.ret _) m3 H3 (.refl _ _) hr3 r3
        · exact gd_next g3 hr3 r3
        · exact ⟨m3, h3, _, r3, hr3, g3⟩
theorem simS_for {t : MP.E} {ik : MP.ItK} {ia : MP.E} {b : MP.S} {pt pi : Expr} {pb : List Stmt} {pos : Pos} (ht : TrT N sc fb t pt) (hi : TrI tb N sc fb ik ia pt pi) (sb : SimB tb N cs Φ G k sc fb Wf b pb) : SimS tb N cs Φ G k sc fb Wf (.for t ik ia b) (.For pt pi pb [] pos) :=
  fun X c w W tk po Z zw env hp m σ H D er hr g => SR.len fun hl => by
    refine SR.of (fun hk => ps_for po.pass c.calm (pir X pt pi) (pgOf c ht) (pssr X _) (hi.fold _)) ?_
    have e0 : MP.eS Φ G Wf (.for t ik ia b) env hp = (iE Φ G ik ia env hp).bind fun p h1 => MP.forL (fun x env h => MP.R.opt h (MP.bindT t x env)) (fun env h => MP.eS Φ G Wf b env h) p.2 p.1 env h1 := by
      rw [MP.eS_for]
      unfold iE
      cases MP.eE Φ G ia env hp with
      | ok ds h1 =>
        simp only [MP.R.bind]
        cases MP.iterOf ik (MP.args ds) h1 <;> rfl
      | exc cc h1 => rfl
      | bad => rfl
    rw [e0] at g
    refine simIt hi X c w W tk env hp m σ H _ er hr ((g.bind fun p h1 J m1 H1 _ k1 hr1 wk g1 => ?_).z (zw σ hl))
    obtain ⟨xs, gd⟩ := p
    refine ⟨fun i n σ' H' => n = xs.length - i ∧ i ≤ xs.length ∧ ∃ m' h' env', EnvR X.K m' H' env' σ' ∧ HR X.K m' h' H' ∧ Kp m1 H1 m' H' ∧ Gd X.K (relF X.K) m' H' (MP.forL (fun x env h => MP.R.opt h (MP.bindT t x env)) (fun env h => MP.eS Φ G Wf b env h) gd (xs.drop i) env' h') (atE D) Z,
      ⟨xs.length, by simp, Nat.zero_le _, m1, h1, env, er.keep hr k1, hr1, .refl _ _, by rw [List.drop_zero]; exact g1⟩, ?_⟩
    rintro i n σ' H' ⟨rfl, hi', mc, hc, envc, erc, hrc, kc, gc⟩
    by_cases hlt : i < xs.length
    · right
      rw [List.drop_eq_getElem_cons hlt] at gc
      unfold MP.forL at gc
      split at gc
      · rename_i hg
        obtain ⟨wk1, _⟩ := wk mc hc H' kc.w hrc hg
        obtain ⟨go, wy⟩ := wk1 i xs[i] (List.getElem?_eq_getElem hlt)
        refine ⟨go, fun σ'' H'' => ∃ m' h' env', EnvR X.K m' H'' env' σ'' ∧ HR X.K m' h' H'' ∧ Kp m1 H1 m' H'' ∧ Gd X.K (relF X.K) m' H'' (MP.forL (fun x env h => MP.R.opt h (MP.bindT t x env)) (fun env h => MP.eS Φ G Wf b env h) gd (xs.drop (i + 1)) env' h') (atE D) Z,
          fun σ'' H'' hN => ⟨xs.length - (i + 1), by omega, rfl, hlt, hN⟩, fun x H2 hy => ?_⟩
        obtain ⟨k2, hr2, rx⟩ := wy x H2 hy
        obtain ⟨env2, e2, g2⟩ := gc.optBind
        refine bind_ok (erc.keep hrc k2) rx e2 fun σ2 er2 _ => ?_
        refine sb X c w W tk po Z zw env2 hc mc σ2 H2 _ er2 hr2 ((Gd.shift (r := (MP.eS Φ G Wf b env2 hc).bind _) k2 g2).bind fun f h3 f' m3 H3 _ k3 hr3 r3 g3 => ?_)
        cases f <;> cases f' <;> first | exact r3.elim | skip
        · exact ⟨m3, h3, _, r3, hr3, kc.trans (k2.trans k3), g3⟩
        · exact g3 (.ret _) m3 H3 (.refl _ _) hr3 r3
        · exact gd_next g3 hr3 r3
        · exact ⟨m3, h3, _, r3, hr3, kc.trans (k2.trans k3), g3⟩
      · exact gc.elim
    · left
      have hi'' : i = xs.length := by omega
      subst hi''
      rw [List.drop_length] at gc
      unfold MP.forL at gc
      split at gc
      · rename_i hg
        exact ⟨(wk mc hc H' kc.w hrc hg).2, gd_next gc hrc erc⟩
      · exact gc.elim
theorem pmk_own0 {X : Cx} {C : Addr} {x : Str} {p pos : Pos} (k : ClsOk X.K C) (gC : X.mg x = some (.ref C)) (hg : Gl X x)
    (hdb : (x == ("__debug__" : Str)) = false) : PMk X (.Call (.Name x p) [] [] pos) (fun _ H Q => Q (.ref C) none H) := by
  intro pins s σ H Q I h
  refine wpAny_Call_Name_kw (ld_glob I hg gC ?_ hdb)
  refine PySem.W.callWith_K0 I.kIn k.keep ?_
  show wpAny _ _ (call (.ref C) []) _ _ _
  obtain ⟨bm, N, nm, qn, bs, hdct, sn, sub, ab, col, dd, k0, k1, k2, k3, k5, mN, hC, hN, hni, T⟩ := exc_obj I.kIn k.exc
  refine wpAny_call_exc_subT PySem.F.excBase_ValueError T hC hN hni (fun h' e hm => ?_) (by show 0 ≤ sizeLine; exact Nat.zero_le _)
  exact mk_of I hm (raises_own k.sub k.ty) h (I.hok.gone hm.new)
theorem simS_rai {c : Nat} {x : Str} {p p2 pos : Pos} (h : tb.cn[c]? = some x) (gl : glB sc x = true) (n : nmB x = true) : SimS tb N cs Φ G k sc fb Wf (.rai c) (.Raise (some (.Call (.Name x p) [] [] p2)) none pos) :=
  fun X c' w W tk po Z zw env hp m σ H D er hr g => SR.len fun hl => by
    obtain ⟨C, e1, e2, e3⟩ := w.cl.cls c x h
    refine SR.of (fun hk => ps_raise c'.calm tk (pmk_own0 e3 e2 (c'.gl gl) (nm1 n).1)) ?_
    rw [MP.eS_rai] at g
    exact zw σ hl _ _ (g m H (.refl _ _) hr) C e1
theorem hds_ok {X : Cx} (c' : Cg X N sc fb k) (cl : ClsT X.K X.mg tb cs) {Z : Nat → Hp → Prop} {Wout : WX} {D : Ends} {σ : L2.St} (zw : ∀ c H', Z c H' → Zw cs Wout σ c H') :
    ∀ {hs : List (Nat × List Nat × MP.D)} {hds : List ExceptHandler}, TrH tb sc hs hds → ∃ l, HdsOk X hds l ∧ ∀ (c : Nat) (h : MP.Heap) (m : Pl) (H : Hp), HR X.K m h H → Gd X.K (relF X.K) m H (MP.hand hs c h) (atE D) Z → Zw cs (wMany X.K Wout D l) σ c H
  | _, _, .nil => ⟨[], .nil, fun c h m H hr g C e => zw c H (g m H (.refl _ _) hr) C e⟩
  | _, _, .cons (c := c0) (l := l0) (d := d0) h g n hl hc q => by
    obtain ⟨l, h1, h2⟩ := hds_ok (D := D) c' cl zw q
    obtain ⟨C0, e1, e2, e3⟩ := cl.cls _ _ h
    obtain ⟨v, rv⟩ := con_one hc
    refine ⟨_, .cons ⟨c'.gl g, (nm1 n).1, .inl e2⟩ (fun a oe cls d pn _ _ => pss_one (rv.1 _ _)) h1, fun c h m H hr gg C e => ?_⟩
    have hlt : c < tb.cn.length := by rw [← cl.len]; exact (List.getElem?_eq_some_iff.mp e).1
    refine ⟨_, cl.sub c c0 C C0 e e1, fun hb a _ => ?_, fun hb => ?_⟩
    · unfold MP.hand at gg
      rw [if_pos (by rw [hl c hlt]; exact hb)] at gg
      exact gg (.ret v) m H (.refl _ _) hr (rv.2 _ _ _)
    · unfold MP.hand at gg
      rw [if_neg (by rw [hl c hlt, hb]; exact Bool.false_ne_true)] at gg
      exact h2 c h m H hr gg C e
theorem simS_tri {hs : List (Nat × List Nat × MP.D)} {e : MP.E} {pe : Expr} {hd : ExceptHandler} {hds : List ExceptHandler} {p pos : Pos} (he : TrE tb N sc fb e pe) (hh : TrH tb sc hs (hd :: hds)) : SimS tb N cs Φ G k sc fb Wf (.tri hs e) (.Try [.Return (some pe) p] (hd :: hds) [] [] pos) :=
  fun X c w W tk po Z zw env hp m σ H D er hr g => SR.len fun hl => by
    obtain ⟨l, h1, h2⟩ := hds_ok (D := D) (σ := σ) c w.cl (zw σ hl) hh
    refine SR.of (fun hk => ps_try_many (tb := fun W' D σ H => ∀ pn xe, Takes (X.tr pn xe) W' → ER (X.tr pn xe) pe σ H D.rt) po.st po.fr tk (fun W' pn xe tk' _ => ⟨fun pins s σ H D I h => (pss_one (ps_ret (per _ _))).run pins s σ H D I (h pn xe tk')⟩) h1) ?_
    intro pn xe tk'
    rw [MP.eS_tri] at g
    refine simE he (X.tr pn xe) ⟨c.calm, c.room, c.nd, c.nn, c.sc, c.wo, c.lam, c.gd, c.fb⟩ w _ tk' env hp m σ H _ er hr ?_
    cases q : MP.eE Φ G e env hp with
    | ok d h3 =>
      rw [q] at g
      intro v m1 H1 k1 hr1 r1
      exact g (.ret v) m1 H1 k1 hr1 r1
    | exc cc h3 =>
      rw [q] at g
      intro m1 H1 k1 hr1
      exact h2 cc h3 m1 H1 hr1 (Gd.shift k1 g)
    | bad => rw [q] at g; exact g.elim
theorem mainS : ∀ (n : Nat) (e : MP.S), sizeOf e < n → (∀ st, TrS tb N sc fb e st → SimS tb N cs Φ G k sc fb Wf e st) ∧ (∀ sts, TrB tb N sc fb e sts → SimB tb N cs Φ G k sc fb Wf e sts) := fun n => by
  induction n with
  | zero => exact fun e h => absurd h (Nat.not_lt_zero _)
  | succ n ih =>
    intro e hn
    refine ⟨fun st h => ?_, fun sts h => ?_⟩
    · cases h with
      | pass => exact fun X c w W tk po Z zw env hp m σ H D er hr g => SR.of (fun _ => ps_pass) (gd_next (by rw [MP.eS_pass] at g; exact g) hr er)
      | asgV h l f he hs => exact simS_asgV h l f he hs
      | asgL h l he hs => exact simS_asgL h l he hs
      | asgG ht he hs => exact simS_asgG ht he hs
      | par hi hj hij hx hy ha hw => exact simS_par hi hj hij hx hy ha hw
      | par3 hi hj hl hij hil hjl hx hy hz ha hw => exact simS_par3 hi hj hl hij hil hjl hx hy hz ha hw
      | augV h l f n he => exact simS_augV h l f he
      | augI ha hb he hsl => exact simS_augI ha hb he
      | exp he hn2 => exact simS_exp he hn2
      | ite hc ha hb => exact simS_ite hc ((ih _ (by simp at hn; omega)).2 _ ha) ((ih _ (by simp at hn; omega)).2 _ hb)
      | whl hc hb => exact simS_whl hc ((ih _ (by simp at hn; omega)).2 _ hb)
      | «for» ht hi hb => exact simS_for ht hi ((ih _ (by simp at hn; omega)).2 _ hb)
      | ret he => exact simS_ret he
      | retN => exact fun X c w W tk po Z zw env hp m σ H D er hr g => SR.of (fun _ => ps_retN) (by rw [MP.eS_retN] at g; exact g (.ret .non) m H (.refl _ _) hr .non)
      | brk => exact fun X c w W tk po Z zw env hp m σ H D er hr g => SR.of (fun _ => ps_break) (by rw [MP.eS_brk] at g; exact g (.brk σ) m H (.refl _ _) hr er)
      | cnt => exact fun X c w W tk po Z zw env hp m σ H D er hr g => SR.of (fun _ => ps_continue) (by rw [MP.eS_cnt] at g; exact g (.cnt σ) m H (.refl _ _) hr er)
      | bad => exact fun X c w W tk po Z zw env hp m σ H D er hr g => by rw [MP.eS_bad] at g; exact g.elim
      | rai h g n => exact simS_rai h g n
      | tri he hh => exact simS_tri he hh
    · cases h with
      | nil => exact fun X c w W tk po Z zw env hp m σ H D er hr g => SRs.of pss_nil (gd_next (by rw [MP.eS_nil] at g; exact g) hr er)
      | cons ha hr => exact simSs ((ih _ (by simp at hn; omega)).1 _ ha) ((ih _ (by simp at hn; omega)).2 _ hr)
theorem simB {e : MP.S} {sts : List Stmt} (h : TrB tb N sc fb e sts) : SimB tb N cs Φ G k sc fb Wf e sts := (mainS _ e (Nat.lt_succ_self _)).2 sts h
end
end MPS
namespace MPS
open PySem PySem.Spec PyProof.Rows L2 PySem.W
variable [Tbs]
section
variable {K : PySem.W.Frag} {m m' : Pl} {H H' : Hp} {h h' : MP.Heap}
/-! ### places that are behind a call's end forgotten -/
theorem Fz.less (t : List Addr) (e : m'.at_ = m.at_ ++ t) (eb : m'.ban = m.ban) {a : Addr} {vs : List V} (x : Fz K m' H a vs) : Fz K m H a vs := by
  rcases x with ⟨x, n, nb⟩ | x
  · exact .inl ⟨x, fun z => n (by rw [e]; exact List.mem_append_left _ z), by rw [← eb]; exact nb⟩
  · exact .inr x
mutual
theorem Rel.less (t : List Addr) (e : m'.at_ = m.at_ ++ t) (eb : m'.ban = m.ban) : ∀ {d : MP.D} {v : V}, d.low m.at_.length = true → Rel K m' H d v → Rel K m H d v
  | _, _, _, .non => .non
  | _, _, _, .bl b => .bl b
  | _, _, _, .int i => .int i
  | _, _, _, .str x => .str x
  | _, _, l, .tup h r => .tup h (Rels.less t e eb (by simpa [MP.D.low] using l) r)
  | _, _, l, .lst h n nb r => .lst h (fun z => n (by rw [e]; exact List.mem_append_left _ z)) (by rw [← eb]; exact nb) (Rels.less t e eb (by simpa [MP.D.low] using l) r)
  | _, _, l, .frz h r => .frz (h.less t e eb) (Rels.less t e eb (by simpa [MP.D.low] using l) r)
  | .ref n, _, l, .ref h => .ref (by
      have l : n < m.at_.length := by simpa [MP.D.low] using l
      rw [e, List.getElem?_append_left l] at h
      exact h)
theorem Rels.less (t : List Addr) (e : m'.at_ = m.at_ ++ t) (eb : m'.ban = m.ban) : ∀ {ds : List MP.D} {vs : List V}, MP.D.lows m.at_.length ds = true → Rels K m' H ds vs → Rels K m H ds vs
  | _, _, _, .nil => .nil
  | d :: ds, _, l, .cons h r => by
    have l : MP.D.low m.at_.length d = true ∧ MP.D.lows m.at_.length ds = true := by simpa [MP.D.lows] using l
    exact .cons (Rel.less t e eb l.1 h) (Rels.less t e eb l.2 r)
end
theorem KR.less (t : List Addr) (e : m'.at_ = m.at_ ++ t) (eb : m'.ban = m.ban) : ∀ {kvs : List (MP.D × MP.D)} {ks : List (Key × V)}, (kvs.all fun p => MP.D.low m.at_.length p.1 && MP.D.low m.at_.length p.2) = true → KR K m' H kvs ks → KR K m H kvs ks
  | _, _, _, .nil => .nil
  | _, _, l, .cons h r => by
    rw [List.all_cons, Bool.and_eq_true, Bool.and_eq_true] at l
    exact .cons (Rel.less t e eb l.1.2 h) (r.less t e eb l.2)
theorem NR.less (t : List Addr) (e : m'.at_ = m.at_ ++ t) (eb : m'.ban = m.ban) : ∀ {kvs : List (MP.D × MP.D)} {xs : List (NestedKey × Addr × Value)}, (kvs.all fun p => MP.D.low m.at_.length p.1 && MP.D.low m.at_.length p.2) = true → NR K m' H kvs xs → NR K m H kvs xs
  | _, _, _, .nil => .nil
  | _, _, l, .cons hk hh hv ru r => by
    rw [List.all_cons, Bool.and_eq_true, Bool.and_eq_true] at l
    exact .cons (Rel.less t e eb l.1.1 hk) hh (Rel.less t e eb l.1.2 hv) ru (r.less t e eb l.2)
theorem gc (hr0 : HR K m h H) (k : Kp m H m' H') (hr : HR K m' h' H') (l : (h'.take h.length).all (MP.Ob.low h.length) = true) : Kp m H m H' ∧ HR K m (h'.take h.length) H' := by
  obtain ⟨t, e⟩ := k.pre
  have hn : m.at_.length = h.length := hr0.len
  have hl : h.length ≤ h'.length := by rw [← hr.len, e, List.length_append, hn]; omega
  refine ⟨⟨⟨[], by simp⟩, rfl, fun a o x nt n => ⟨(k.keep a o x nt n).1, n⟩⟩, ⟨by rw [List.length_take, hn]; omega, hr0.nd, fun i a o e1 e2 => ?_, fun a ha => ?_, hr.tb⟩⟩
  · have hi : i < m.at_.length := (List.getElem?_eq_some_iff.mp e1).1
    rw [List.getElem?_take_of_lt (by omega)] at e2
    have low : MP.Ob.low h.length o = true := by
      rw [List.all_eq_true] at l
      apply l
      rw [List.mem_iff_getElem?]
      exact ⟨i, by rw [List.getElem?_take_of_lt (by omega)]; exact e2⟩
    have x := hr.ob i a o (by rw [e, List.getElem?_append_left hi]; exact e1) e2
    cases o with
    | lst xs =>
      obtain ⟨vs, q1, q2⟩ := x
      exact ⟨vs, q1, q2.less t e k.ban (by rw [hn]; exact low)⟩
    | dic kvs =>
      obtain ⟨ks, q1, q2⟩ := x
      exact ⟨ks, q1, q2.less t e k.ban (by rw [hn]; exact low)⟩
    | dct kvs =>
      obtain ⟨ks, q1, q2⟩ := x
      exact ⟨ks, q1, q2.less t e k.ban (by rw [hn]; exact low)⟩
    | set _ => exact x.elim
    | hid => exact x.elim
  · obtain ⟨q1, q2⟩ := hr.bn a (by rw [k.ban]; exact ha)
    exact ⟨q1, fun z => q2 (by rw [e]; exact List.mem_append_left _ z)⟩
theorem gcT (hr0 : HR K m h H) (k : Kp m H m' H') (hr : HR K m' h' H') : ∃ m2, Kp m H m2 H' ∧ HR K m2 (MP.trim h.length h') H' := by
  unfold MP.trim
  split
  · rename_i l
    exact ⟨m, gc hr0 k hr l⟩
  · exact ⟨m', k, hr⟩
theorem start_rel {N : List Str} {ds : List MP.D} {vs : List V} (r : Rels K m H ds vs) {ns : Nat} (hns : ns = N.length) : EnvR K m H (ds ++ List.replicate (ns - ds.length) .und) (L2.start N vs) := by
  subst hns
  refine ⟨by simp [L2.start, r.length], fun i d e1 e2 => ?_⟩
  by_cases hi : i < ds.length
  · rw [List.getElem?_append_left hi] at e1
    obtain ⟨v, e3, rv⟩ := r.get e1
    refine ⟨v, ?_, rv⟩
    unfold L2.start
    rw [List.getElem?_append_left (by rw [List.length_map, ← r.length]; exact hi), List.getElem?_map, e3]
    rfl
  · rw [List.getElem?_append_right (by omega)] at e1
    have := List.mem_of_getElem? e1
    rw [List.mem_replicate] at this
    exact absurd this.2 e2
end
/-! ### defs -/
/-- which names may be kept in cells; whether lambdas are made -/
abbrev fbD (lm : Bool) : Str → Bool := fun x => (lm || !(x == LAM)) && !(x == RPR)
/-- .. of a def that nobody calls but the outside -/
abbrev fbR : Str → Bool := fun x => !(x == LAM)
/-- where a def that makes lambdas keeps their codes -/
def LamD (fd : FuncData) (y : Str) : Prop := ∃ c P, fd.code = .ref c ∧ (c, P) ∈ Tbs.c ∧ (P, y ++ ".<locals>." ++ "<lambda>") ∈ Tbs.l ∧ ∀ p ∈ Tbs.l, p.1 = P → p.2 = y ++ ".<locals>." ++ "<lambda>"
/-- the tables in the ground -/
def TabsB (base : Heap) (mg : Str → Option Value) : Prop := ∀ p ∈ Tbs.c, LamX.TabB base mg p.1 p.2
theorem lamAt_mk {X : Cx} {k : Nat} {c P : Addr} {y : Str} (hy : X.env.qual = y ++ ".<locals>.") (hr : Room (3 * k + 2) X.A) (q1 : X.env.code = .ref c) (q2 : LamX.TabB X.base X.mg c P) (q3 : (P, y ++ ".<locals>." ++ "<lambda>") ∈ Tbs.l) (q4 : ∀ p ∈ Tbs.l, p.1 = P → p.2 = y ++ ".<locals>." ++ "<lambda>") : LamAt X k := by
  rw [← hy] at q3 q4
  exact ⟨hr, c, P, q1, q2, q3, q4⟩
structure DefOk (K : PySem.W.Frag) (mg : Str → Option Value) (tb : Tb) (x : Str) (fn : MP.Fn) (a : Addr) (fd : FuncData) (st : Stmt) (N ps : List Str) : Prop where
  mg : mg x = some (.ref a)
  bind : Binds K fd ps []
  bindS : ∀ (s : Shared) (us : List Value), us.length = ps.length → BindsTo s fd ⟨us, []⟩ (ps.zip us)
  fun_ : ∃ y, Fun K y y st a fd ∧ ∃ lm, TrB tb N (defScope st) (fbD lm) fn.body (defBody st) ∧ (lm = true → LamD fd y)
  sco : FnScope N ps (defScope st)
  np : fn.np = ps.length
  ns : fn.ns = N.length
section
variable {P : Program} {w : World} {K : PySem.W.Frag} {mg : Str → Option Value} {base : Heap} {tb : Tb} {cs : List Addr} {fns : List MP.Fn} {G : List MP.D} {Wf : Nat}
theorem def_step {k : Nat} {f : Nat} {x : Str} {fn : MP.Fn} {a : Addr} {fd : FuncData} {st : Stmt} {N ps : List Str} (hf : fns[f]? = some fn) (d : DefOk K mg tb x fn a fd st N ps) (w' : Wld P w K mg base tb cs (MP.callF fns G Wf k) G k) (hB : TabsB base mg) (hwo : w = Tbs.w) :
    FnOk P w K mg base (L2.CX P w) (3 * (k + 1)) a fd ps (spF K cs (MP.callF fns G Wf (k + 1) f) ps.length) := by
  obtain ⟨y, fu, lm, hbody, hlam⟩ := d.fun_
  obtain ⟨oc, od, kV, doc, pm, an, cdv, ct, osl, rfl, lk, hcd⟩ := fu.ex
  rw [show 3 * (k + 1) = (3 * k + 2) + 1 from by omega]
  refine fn_of (k := 3 * k + 2) lk hcd d.sco (fun vs H Q E h => h.1) (fun A outer s H vs Q E hr h => ?_)
  obtain ⟨hl, m, h0, ds, hr0, rs, g⟩ := h
  refine ⟨_, pssr _ _, ?_⟩
  have hds : ds.length = fn.np := by rw [d.np, ← hl]; exact rs.length
  have g : Gd K (Rel K) m H (MP.back h0.length (MP.eS (MP.callF fns G Wf k) G Wf fn.body (ds ++ List.replicate (fn.ns - fn.np) .und) h0)) Q (fun c H' => ∀ C, cs[c]? = some C → E (.ref C) none H') := by
    have e : MP.callF fns G Wf (k + 1) f ds h0 = MP.back h0.length (MP.eS (MP.callF fns G Wf k) G Wf fn.body (ds ++ List.replicate (fn.ns - fn.np) .und) h0) := by
      show (match fns[f]? with | none => _ | some fn => _) = _
      rw [hf]
      show (if ds.length = fn.np then _ else _) = _
      rw [if_pos hds]
    rw [← e]; exact g
  have er : EnvR K m H (ds ++ List.replicate (fn.ns - fn.np) .und) (L2.start N vs) := by rw [← hds]; exact start_rel rs d.ns
  refine simB (Wf := Wf) hbody (cxOf (L2.CX P w) P w K mg base N y (defScope st) a cdv A outer s H E) ⟨rfl, hr.mono (by omega), d.sco.nd, rfl, rfl, hwo, fun z => (by
    have z' : lm = true := by
      cases lm with
      | true => rfl
      | false => simp [fbD] at z
    obtain ⟨c, P, q1, q2, q3, q4⟩ := hlam z'
    have q1' : cdv = .ref c := q1
    exact lamAt_mk (c := c) (P := P) (y := y) rfl (by exact hr) (by exact q1') (by exact hB (c, P) q2) q3 q4), fun z => (by
        have z2 : ((lm || !(RPR == LAM)) && !(RPR == RPR)) = true := z
        rw [beq_self_eq_true] at z2
        simp at z2), fun x hx hy => (show true = ((lm || !(x == LAM)) && !(x == RPR)) from by rw [show (x == LAM) = false from by simpa using hx, show (x == RPR) = false from by simpa using hy]; simp)⟩ w' (fun cls d _ H' => E cls d H') (takes_of rfl rfl rfl rfl) ⟨passes_of rfl, rfl, rfl⟩ (fun c H' => ∀ C, cs[c]? = some C → E (.ref C) none H') (fun _ _ _ _ z => z) _ h0 m (L2.start N vs) H _ er hr0 ?_
  cases q : MP.eS (MP.callF fns G Wf k) G Wf fn.body (ds ++ List.replicate (fn.ns - fn.np) .und) h0 with
  | ok fl h1 =>
    rw [q] at g
    intro v m1 H1 k1 hr1 r1
    cases fl <;> cases v <;> first | exact r1.elim | skip
    · obtain ⟨m2, k2, hr2⟩ := gcT hr0 k1 hr1
      exact g .non m2 H1 k2 hr2 .non
    · rename_i dd vv
      have r1 : Rel K m1 H1 dd vv := r1
      unfold MP.back at g
      simp only at g
      split at g
      · rename_i l
        rw [Bool.and_eq_true] at l
        obtain ⟨k2, hr2⟩ := gc hr0 k1 hr1 l.2
        obtain ⟨t, e⟩ := k1.pre
        exact g vv m H1 k2 hr2 (r1.less t e k1.ban (by rw [hr0.len]; exact l.1))
      · exact g vv m1 H1 k1 hr1 r1
    · exact g.elim
    · exact g.elim
  | exc c h1 =>
    rw [q] at g
    intro m1 H1 k1 hr1
    obtain ⟨m2, k2, hr2⟩ := gcT hr0 k1 hr1
    exact g m2 H1 k2 hr2
  | bad => rw [q] at g; exact g.elim
structure Txt (K : PySem.W.Frag) (mg : Str → Option Value) (tb : Tb) (fns : List MP.Fn) (G : List MP.D) (pss : List (List Str)) (cs : List Addr) : Prop where
  fns : ∀ (f : Nat) (x : Str), tb.fn[f]? = some x → ∃ fn a fd st N ps, fns[f]? = some fn ∧ pss[f]? = some ps ∧ DefOk K mg tb x fn a fd st N ps
  glo : ∀ (j : Nat) (x : Str), tb.gn[j]? = some x → ∃ (d : MP.D) (u : Value) (v : V), G[j]? = some d ∧ mg x = some u ∧ RelV v u ∧ ∀ m H, Rel K m H d v
  blt : ∀ x ∈ tb.bl, mg x = none
  cl : ClsT K mg tb cs
  lam : ∀ x hs d0, (x, hs, d0) ∈ tb.lm → LamDef K mg tb x hs d0
theorem callF_len {k f : Nat} {fn : MP.Fn} (hf : fns[f]? = some fn) {ds : List MP.D} {h : MP.Heap} (e : MP.callF fns G Wf k f ds h ≠ .bad) : ds.length = fn.np := by
  cases k with
  | zero => exact absurd rfl e
  | succ k =>
    by_cases hd : ds.length = fn.np
    · exact hd
    · refine absurd ?_ e
      show (match fns[f]? with | none => _ | some fn => _) = _
      rw [hf]
      show (if ds.length = fn.np then _ else _) = _
      rw [if_neg hd]
theorem wld {pss : List (List Str)} (T : Txt K mg tb fns G pss cs) (hB : TabsB base mg) (hwo : w = Tbs.w) : ∀ k, Wld P w K mg base tb cs (MP.callF fns G Wf k) G k := fun k => by
  induction k with
  | zero =>
    refine ⟨fun f x e => ?_, T.glo, T.blt, T.cl, T.lam⟩
    obtain ⟨fn, a, fd, st, N, ps, hf, _, d⟩ := T.fns f x e
    refine ⟨a, fd, ps, d.mg, (let ⟨_, fu, _⟩ := d.fun_; fu.kp), d.bind, ⟨fun vs H Q E h => h.1, fun A outer s H args us vs Q E hr he hb hv hs => ?_⟩, fun ds h e => by rw [← d.np]; exact callF_len hf e⟩
    obtain ⟨_, m, h, ds, _, _, g⟩ := hs
    exact g.elim
  | succ k ih =>
    refine ⟨fun f x e => ?_, T.glo, T.blt, T.cl, T.lam⟩
    obtain ⟨fn, a, fd, st, N, ps, hf, _, d⟩ := T.fns f x e
    exact ⟨a, fd, ps, d.mg, (let ⟨_, fu, _⟩ := d.fun_; fu.kp), d.bind, def_step hf d ih hB hwo, fun ds h e => by rw [← d.np]; exact callF_len hf e⟩
/-- what a def promises that nothing leaves -/
def spL (K : PySem.W.Frag) (φ : List MP.D → MP.Heap → MP.R MP.D) (np : Nat) : Sp := fun vs H Q E => vs.length = np ∧ ∃ m h ds, HR K m h H ∧ Rels K m H ds vs ∧
  Gd K (Rel K) m H (φ ds h) Q (fun _ _ => False)
theorem spL_F {φ : List MP.D → MP.Heap → MP.R MP.D} {np : Nat} {vs : List V} {H : Hp} {Q : VK} {E : XK} (x : spL K φ np vs H Q E) : spF K cs φ np vs H Q E := by
  obtain ⟨h1, m, h, ds, h2, h3, g⟩ := x
  exact ⟨h1, m, h, ds, h2, h3, g.z fun _ _ z => z.elim⟩
theorem fn_imp {k : Nat} {a : Addr} {fd : FuncData} {ps : List Str} {s1 s2 : Sp} {CX : CXT} (F : FnOk P w K mg base CX k a fd ps s1) (i : ∀ vs H Q E, s2 vs H Q E → s1 vs H Q E) : FnOk P w K mg base CX k a fd ps s2 :=
  ⟨fun vs H Q E h => F.len vs H Q E (i _ _ _ _ h), fun A outer s H args us vs Q E hr he hb hv hs => F.run A outer s H args us vs Q E hr he hb hv (i _ _ _ _ hs)⟩
/-- the law's promise: the list of intsOf that is handed in, True -/
theorem law_sp {fL Kk : Nat} (L : ∀ ns : List Int, ns.length ≤ 63 → ∃ h', MP.callF fns G Wf Kk fL [.frz (ns.map .int)] [] = .ok (.bl true) h') (H : Hp) (a : Addr) (ns : List Int) (hl : ns.length ≤ 63) (hT : LamX.Tabs Tbs.l H) (hS : SqL K H a (ns.map V.int)) :
    spL K (MP.callF fns G Wf Kk fL) 1 [.ref a] H (fun v _ => v = .bl true) fun _ _ _ => False := by
  obtain ⟨h', e⟩ := L ns hl
  refine ⟨rfl, ⟨[], []⟩, [], [.frz (ns.map .int)], ⟨rfl, List.nodup_nil, fun n a o e => by simp at e, fun a ha => by simp at ha, hT⟩, .cons (.frz ?_ (rels_ints ns)) .nil, ?_⟩
  · rcases hS with x | x
    · exact .inl ⟨x, by simp, by simp⟩
    · exact .inr x
  · rw [e]
    intro v m' H' _ _ r
    cases r; rfl
end
end MPS
namespace MPS
open PySem PySem.Spec PyProof.Rows L2 PySem.W
variable [Tbs]
/-! ### the translation, checked -/
section
variable (tb : Tb) (N : List Str)
def chkA (f : MP.E → Expr → Bool) : MP.E → List Expr → Bool
  | .nil, [] => true
  | .cons a r, pa :: pr => f a pa && chkA f r pr
  | _, _ => false
def chkO (f : MP.E → Expr → Bool) (e : MP.E) : Option Expr → Bool
  | none => (match e with | .con .und => true | _ => false)
  | some pe => f e pe
def chkT : Nat → Scope → (Str → Bool) → MP.E → Expr → Bool
  | 0, _, _, _, _ => false
  | n + 1, sc, fb, e, pe => match e with
    | .var i => (match pe with | .Name x _ => decide (N[i]? = some x) && locB sc x && (fb x || decide (sc.names.lookup x = some .local)) | _ => false)
    | .tup es => (match pe with | .Tuple pes _ _ => chkA (chkT n sc fb) es pes | _ => false)
    | _ => false
def chkC (f : MP.E → Expr → Bool) (e : MP.E) : List Expr → Bool
  | [] => (match e with | .con (.bl true) => true | _ => false)
  | [pe] => f e pe
  | _ => false
def chkI (f : MP.E → Expr → Bool) (sc : Scope) (k : MP.ItK) (ia : MP.E) (tg pi : Expr) : Bool := match k with
  | .gen => (match ia with | .cons a .nil => f a pi | _ => false)
  | .rng => (match pi with | .Call (.Name x _) pes [] _ => decide (x = "range") && decide (("range" : Str) ∈ tb.bl) && glB sc "range" && chkA f ia pes && (pes.length == 1 || pes.length == 2) | _ => false)
  | .enum => (match ia with | .cons a .nil => (match tg with | .Tuple _ _ _ => (match pi with | .Call (.Name x _) [pa] [] _ => decide (x = "enumerate") && decide (("enumerate" : Str) ∈ tb.bl) && glB sc "enumerate" && f a pa | _ => false) | _ => false) | _ => false)
  | .zip => (match ia with | .cons a (.cons b .nil) => (match tg with | .Tuple _ _ _ => (match pi with | .Call (.Name x _) [pa, pb] [] _ => decide (x = "zip") && decide (("zip" : Str) ∈ tb.bl) && glB sc "zip" && f a pa && f b pb | _ => false) | _ => false) | _ => false)
def hsB : List (Nat × List Nat × MP.D) → List (Nat × List Nat × MP.D) → Bool
  | [], [] => true
  | (c, l, d) :: r, (c', l', d') :: r' => decide (c = c') && decide (l = l') && MP.D.beq d d' && hsB r r'
  | _, _ => false
def lmB (x : Str) (hs : List (Nat × List Nat × MP.D)) (d0 : MP.D) : Bool := tb.lm.any fun p => decide (p.1 = x) && hsB p.2.1 hs && MP.D.beq p.2.2 d0
/-- the block's names -/
def ownOf : List Nat → List (Str × Nat)
  | [] => []
  | i :: is => match N[i]? with
    | some x => (x, i) :: ownOf is
    | none => ownOf is
def chkE : Nat → Scope → (Str → Bool) → MP.E → Expr → Bool
  | 0, _, _, _, _ => false
  | n + 1, sc, fb, e, pe => match e with
    | .var i => (match pe with | .Name x _ => decide (N[i]? = some x) && visB sc x && nmB x | _ => false)
    | .con .non => (match pe with | .Constant .none _ _ => true | _ => false)
    | .dct0 => (match pe with | .Dict [] [] _ => true | _ => false)
    | .dct1 k v => (match pe with | .Dict [some pk] [pv] _ => chkE n sc fb k pk && chkE n sc fb v pv | _ => false)
    | .lamc hs d0 e => (match pe with | .Call (.Name x _) [.Lambda ⟨[], [], none, [], [], none, []⟩ body scope _] [] _ => lmB tb x hs d0 && glB sc x && nmB x && fb LAM && LamX.lamSB sc scope && chkE n scope (fun _ => false) e body | _ => false)
    | .con (.bl b) => (match pe with | .Constant (.bool c) _ _ => b == c | _ => false)
    | .con (.int i) => (match pe with | .Constant (.int j) _ _ => decide (i = j) | _ => false)
    | .con (.str l) => (match pe with | .Constant (.str x) _ _ => decide (l = x.cps.toList) | _ => false)
    | .glo j => (match pe with | .Name x _ => decide (tb.gn[j]? = some x) && glB sc x && nmB x | _ => false)
    | .tup es => (match pe with | .Tuple pes _ _ => chkA (chkE n sc fb) es pes && decide (pes.length ≤ 1000) | _ => false)
    | .lst _ es => (match pe with | .List pes _ => chkA (chkE n sc fb) es pes | _ => false)
    | .bin o a b => (match pe with | .BinOp pa op pb _ => decide (op = bop o) && chkE n sc fb a pa && chkE n sc fb b pb | _ => false)
    | .neg a => (match pe with | .UnaryOp .USub pa _ => chkE n sc fb a pa | _ => false)
    | .cmp o a b => (match pe with | .Compare pa [op] [pb] _ => decide (op = cop o) && chkE n sc fb a pa && chkE n sc fb b pb | _ => false)
    | .chn o p a b c => (match pe with | .Compare pa [op, oq] [pb, pc] _ => decide (op = cop o) && decide (oq = cop p) && chkE n sc fb a pa && chkE n sc fb b pb && chkE n sc fb c pc | _ => false)
    | .and2 a r => (match pe with | .BoolOp .And (pa :: pb :: ps) pos => chkE n sc fb a pa && chkE n sc fb r (.BoolOp .And (pb :: ps) pos) | _ => false)
    | .or2 a r => (match pe with | .BoolOp .Or (pa :: pb :: ps) pos => chkE n sc fb a pa && chkE n sc fb r (.BoolOp .Or (pb :: ps) pos) | _ => false)
    | .one a => (match pe with | .BoolOp _ [pa] _ => chkE n sc fb a pa | _ => false)
    | .nt a => (match pe with | .UnaryOp .Not pa _ => chkE n sc fb a pa | _ => false)
    | .ite c a b => (match pe with | .IfExp pc pa pb _ => chkE n sc fb c pc && chkE n sc fb a pa && chkE n sc fb b pb | _ => false)
    | .idx a b => (match pe with | .Subscript pa pb _ => chkE n sc fb a pa && chkE n sc fb b pb | _ => false)
    | .slc _ a lo hi => (match pe with | .Subscript pa (.Slice pl ph none _) _ => chkE n sc fb a pa && chkO (chkE n sc fb) lo pl && chkO (chkE n sc fb) hi ph | _ => false)
    | .rev _ a => (match pe with | .Subscript pa (.Slice none none (some (.UnaryOp .USub (.Constant (.int j) _ _) _)) _) _ => decide (j = 1) && chkE n sc fb a pa | _ => false)
    | .call f es => (match pe with | .Call (.Name x _) (pe :: pes) [] _ => decide (tb.fn[f]? = some x) && glB sc x && nmB x && chkA (chkE n sc fb) es (pe :: pes) | _ => false)
    | .blt (.isinst t) es => (match es with | .cons a .nil => (match pe with | .Call (.Name x _) [pa, .Name y _] [] _ => decide (x = "isinstance") && decide (("isinstance" : Str) ∈ tb.bl) && glB sc "isinstance" && decide (y = Str.ofString (tyN t)) && decide (Str.ofString (tyN t) ∈ tb.bl) && glB sc (Str.ofString (tyN t)) && chkE n sc fb a pa | _ => false) | _ => false)
    | .blt (.listR _) es => (match pe with | .Call (.Name x _) [.Call (.Name y _) pes [] _] [] _ => decide (x = "list") && decide (("list" : Str) ∈ tb.bl) && glB sc "list" && decide (y = "range") && decide (("range" : Str) ∈ tb.bl) && glB sc "range" && chkA (chkE n sc fb) es pes && (pes.length == 1 || pes.length == 2) | _ => false)
    | .blt .repr es => (match es with | .cons a .nil => (match pe with | .Call (.Name x _) [pa] [] _ => decide (x = "repr") && decide (("repr" : Str) ∈ tb.bl) && glB sc "repr" && fb RPR && chkE n sc fb a pa | _ => false) | _ => false)
    | .blt (.sortedSet _) es => (match es with | .cons a .nil => (match pe with | .Call (.Name x _) [.Call (.Name y _) [pa] [] _] [] _ => decide (x = "sorted") && decide (("sorted" : Str) ∈ tb.bl) && glB sc "sorted" && decide (y = "set") && decide (("set" : Str) ∈ tb.bl) && glB sc "set" && chkE n sc fb a pa | _ => false) | _ => false)
    | .blt .lenSet es => (match es with | .cons a .nil => (match pe with | .Call (.Name x _) [.Call (.Name y _) [pa] [] _] [] _ => decide (x = "len") && decide (("len" : Str) ∈ tb.bl) && glB sc "len" && decide (y = "set") && decide (("set" : Str) ∈ tb.bl) && glB sc "set" && chkE n sc fb a pa | _ => false) | _ => false)
    | .blt f es => (match plainF f with
      | some (y, _) => (match pe with | .Call (.Name x _) (pe :: pes) [] _ => decide (x = y) && decide (x ∈ tb.bl) && glB sc x && chkA (chkE n sc fb) es (pe :: pes) | _ => false)
      | none => false)
    | .mth f o es => (match pe with
      | .Call (.Attribute po m apos) pes [] pos => decide (m = mtN f) && (apos.endLine == pos.line) && decide (pes.length < 30) && chkE n sc fb o po && chkA (chkE n sc fb) es pes
      | _ => false)
    | .lc _ tg k ia c el => (match pe with
      | .ListComp pel [⟨ptg, pit, ifs, 0⟩] scope _ => chkI tb (chkE n sc fb) sc k ia ptg pit && blkC N sc scope (ownOf N (MP.tgI tg)) && decide ((ownOf N (MP.tgI tg)).map (·.2) = MP.tgI tg) && chkT N n (relS scope sc) (cfb scope) tg ptg && chkC (chkE n (relS scope sc) (cfb scope)) c ifs && chkE n (relS scope sc) (cfb scope) el pel
      | _ => false)
    | .lc2 _ tg k ia c tg1 k1 ia1 c1 el => (match pe with
      | .ListComp pel [⟨ptg, pit, ifs, 0⟩, ⟨ptg1, pit1, ifs1, 0⟩] scope _ => chkI tb (chkE n sc fb) sc k ia ptg pit && blkC N sc scope (ownOf N (MP.tgI tg ++ MP.tgI tg1)) && decide ((ownOf N (MP.tgI tg ++ MP.tgI tg1)).map (·.2) = MP.tgI tg ++ MP.tgI tg1) && chkT N n (relS scope sc) (cfb scope) tg ptg && chkC (chkE n (relS scope sc) (cfb scope)) c ifs &&
          chkI tb (chkE n (relS scope sc) (cfb scope)) (relS scope sc) k1 ia1 ptg1 pit1 && chkT N n (relS scope sc) (cfb scope) tg1 ptg1 && chkC (chkE n (relS scope sc) (cfb scope)) c1 ifs1 && chkE n (relS scope sc) (cfb scope) el pel
      | _ => false)
    | _ => false
end
section
variable {tb : Tb} {N : List Str}
theorem chkA_ok {sc : Scope} {fb : Str → Bool} {f : MP.E → Expr → Bool} (hf : ∀ e pe, f e pe = true → TrE tb N sc fb e pe) : ∀ {es : MP.E} {pes : List Expr}, chkA f es pes = true → TrA tb N sc fb es pes := by
  intro es
  induction es with
  | nil => intro pes h; cases pes with | nil => exact .nil | cons a l => simp [chkA] at h
  | cons a r iha ihr =>
    intro pes h
    cases pes with
    | nil => simp [chkA] at h
    | cons p pr =>
      simp only [chkA, Bool.and_eq_true] at h
      exact .cons (hf _ _ h.1) (ihr h.2)
  | _ => intro pes h; cases pes <;> simp [chkA] at h
theorem chkTs_ok {sc : Scope} {fb : Str → Bool} {f : MP.E → Expr → Bool} (hf : ∀ e pe, f e pe = true → TrT N sc fb e pe) : ∀ {es : MP.E} {pes : List Expr}, chkA f es pes = true → TrTs N sc fb es pes := by
  intro es
  induction es with
  | nil => intro pes h; cases pes with | nil => exact .nil | cons a l => simp [chkA] at h
  | cons a r iha ihr =>
    intro pes h
    cases pes with
    | nil => simp [chkA] at h
    | cons p pr =>
      simp only [chkA, Bool.and_eq_true] at h
      exact .cons (hf _ _ h.1) (ihr h.2)
  | _ => intro pes h; cases pes <;> simp [chkA] at h
theorem chkT_ok : ∀ {n : Nat} {sc : Scope} {fb : Str → Bool} {e : MP.E} {pe : Expr}, chkT N n sc fb e pe = true → TrT N sc fb e pe := by
  intro n
  induction n with
  | zero => intro sc fb e pe h; simp [chkT] at h
  | succ n ih =>
    intro sc fb e pe h
    unfold chkT at h
    split at h
    · split at h
      · simp only [Bool.and_eq_true, Bool.or_eq_true, decide_eq_true_eq] at h
        exact .var h.1.1 h.1.2 h.2
      · cases h
    · split at h
      · exact .tup (chkTs_ok (fun e pe q => ih q) h)
      · cases h
    · cases h
theorem chkO_ok {sc : Scope} {fb : Str → Bool} {f : MP.E → Expr → Bool} (hf : ∀ e pe, f e pe = true → TrE tb N sc fb e pe) {e : MP.E} {pe : Option Expr} (h : chkO f e pe = true) : TrO tb N sc fb e pe := by
  unfold chkO at h
  split at h
  · split at h
    · exact .none
    · cases h
  · exact .some (hf _ _ h)
theorem chkC_ok {sc : Scope} {fb : Str → Bool} {f : MP.E → Expr → Bool} (hf : ∀ e pe, f e pe = true → TrE tb N sc fb e pe) {e : MP.E} {pes : List Expr} (h : chkC f e pes = true) : TrC tb N sc fb e pes := by
  unfold chkC at h
  split at h
  · split at h
    · exact .none
    · cases h
  · exact .one (hf _ _ h)
  · cases h
theorem len12 {l : List Expr} (h : (l.length == 1 || l.length == 2) = true) : l.length = 1 ∨ l.length = 2 := by simpa using h
theorem chkI_ok {sc : Scope} {fb : Str → Bool} {f : MP.E → Expr → Bool} (hf : ∀ e pe, f e pe = true → TrE tb N sc fb e pe) {k : MP.ItK} {ia : MP.E} {tg pi : Expr} (h : chkI tb f sc k ia tg pi = true) : TrI tb N sc fb k ia tg pi := by
  unfold chkI at h
  split at h
  · split at h
    · exact .gen (hf _ _ h)
    · cases h
  · split at h
    · simp only [Bool.and_eq_true, decide_eq_true_eq] at h
      obtain ⟨⟨⟨⟨rfl, h2⟩, h3⟩, h4⟩, h5⟩ := h
      exact .rng h2 h3 (chkA_ok hf h4) (len12 h5)
    · cases h
  · split at h
    · split at h
      · split at h
        · simp only [Bool.and_eq_true, decide_eq_true_eq] at h
          obtain ⟨⟨⟨rfl, h2⟩, h3⟩, h4⟩ := h
          exact .enum h2 h3 (hf _ _ h4)
        · cases h
      · cases h
    · cases h
  · split at h
    · split at h
      · split at h
        · simp only [Bool.and_eq_true, decide_eq_true_eq] at h
          obtain ⟨⟨⟨⟨rfl, h2⟩, h3⟩, h4⟩, h5⟩ := h
          exact .zip h2 h3 (hf _ _ h4) (hf _ _ h5)
        · cases h
      · cases h
    · cases h
theorem hsB_eq : ∀ {a b : List (Nat × List Nat × MP.D)}, hsB a b = true → a = b
  | [], [], _ => rfl
  | [], _ :: _, h => by simp [hsB] at h
  | _ :: _, [], h => by simp [hsB] at h
  | (c, l, d) :: r, (c', l', d') :: r', h => by
    simp only [hsB, Bool.and_eq_true, decide_eq_true_eq] at h
    obtain ⟨⟨⟨rfl, rfl⟩, h3⟩, h4⟩ := h
    rw [beq_eq _ _ h3, hsB_eq h4]
theorem lmB_ok {x : Str} {hs : List (Nat × List Nat × MP.D)} {d0 : MP.D} (h : lmB tb x hs d0 = true) : (x, hs, d0) ∈ tb.lm := by
  unfold lmB at h
  rw [List.any_eq_true] at h
  obtain ⟨⟨y, a, b⟩, h1, h2⟩ := h
  simp only [Bool.and_eq_true, decide_eq_true_eq] at h2
  obtain ⟨⟨rfl, h3⟩, h4⟩ := h2
  rw [← hsB_eq h3, ← beq_eq _ _ h4]
  exact h1
theorem chkE_ok : ∀ {n : Nat} {sc : Scope} {fb : Str → Bool} {e : MP.E} {pe : Expr}, chkE tb N n sc fb e pe = true → TrE tb N sc fb e pe := by
  intro n
  induction n with
  | zero => intro sc fb e pe h; simp [chkE] at h
  | succ n ih =>
    intro sc fb e pe h
    have hA : ∀ {sc fb es pes}, chkA (chkE tb N n sc fb) es pes = true → TrA tb N sc fb es pes := fun q => chkA_ok (fun e pe z => ih z) q
    unfold chkE at h
    split at h
    all_goals first | (exact absurd h Bool.false_ne_true) | skip
    · split at h
      · simp only [Bool.and_eq_true, decide_eq_true_eq] at h; exact .var h.1.1 h.1.2 h.2
      · cases h
    · split at h
      · exact .non
      · cases h
    · split at h
      · exact .dct0
      · cases h
    · split at h
      · simp only [Bool.and_eq_true] at h
        exact .dct1 (ih h.1) (ih h.2)
      · cases h
    · split at h
      · simp only [Bool.and_eq_true] at h
        obtain ⟨⟨⟨⟨⟨h1, h2⟩, h3⟩, h4⟩, h5⟩, h6⟩ := h
        exact .lamc (lmB_ok h1) h2 h3 h4 h5 rfl (ih h6)
      · cases h
    · split at h
      · simp only [beq_iff_eq] at h; subst h; exact .bl
      · cases h
    · split at h
      · simp only [decide_eq_true_eq] at h; subst h; exact .int
      · cases h
    · split at h
      · simp only [decide_eq_true_eq] at h; subst h; exact .str
      · cases h
    · split at h
      · simp only [Bool.and_eq_true, decide_eq_true_eq] at h; exact .glo h.1.1 h.1.2 h.2
      · cases h
    · split at h
      · simp only [Bool.and_eq_true, decide_eq_true_eq] at h; exact .tup (hA h.1) h.2
      · cases h
    · split at h
      · exact .lst (hA h)
      · cases h
    · split at h
      · simp only [Bool.and_eq_true, decide_eq_true_eq] at h
        obtain ⟨⟨rfl, h2⟩, h3⟩ := h
        exact .bin (ih h2) (ih h3)
      · cases h
    · split at h
      · exact .neg (ih h)
      · cases h
    · split at h
      · simp only [Bool.and_eq_true, decide_eq_true_eq] at h
        obtain ⟨⟨rfl, h2⟩, h3⟩ := h
        exact .cmp (ih h2) (ih h3)
      · cases h
    · split at h
      · simp only [Bool.and_eq_true, decide_eq_true_eq] at h
        obtain ⟨⟨⟨⟨rfl, rfl⟩, h2⟩, h3⟩, h4⟩ := h
        exact .chn (ih h2) (ih h3) (ih h4)
      · cases h
    · split at h
      · simp only [Bool.and_eq_true] at h; exact .and2 (ih h.1) (ih h.2)
      · cases h
    · split at h
      · simp only [Bool.and_eq_true] at h; exact .or2 (ih h.1) (ih h.2)
      · cases h
    · split at h
      · exact .one (ih h)
      · cases h
    · split at h
      · exact .nt (ih h)
      · cases h
    · split at h
      · simp only [Bool.and_eq_true] at h; exact .ite (ih h.1.1) (ih h.1.2) (ih h.2)
      · cases h
    · split at h
      · simp only [Bool.and_eq_true] at h; exact .idx (ih h.1) (ih h.2)
      · cases h
    · split at h
      · simp only [Bool.and_eq_true] at h; exact .slc (ih h.1.1) (chkO_ok (fun e pe z => ih z) h.1.2) (chkO_ok (fun e pe z => ih z) h.2)
      · cases h
    · split at h
      · simp only [Bool.and_eq_true, decide_eq_true_eq] at h
        obtain ⟨rfl, h2⟩ := h
        exact .rev (ih h2)
      · cases h
    · split at h
      · simp only [Bool.and_eq_true, decide_eq_true_eq] at h
        exact .call h.1.1.1 h.1.1.2 h.1.2 (hA h.2)
      · cases h
    · split at h
      · split at h
        · simp only [Bool.and_eq_true, decide_eq_true_eq] at h
          obtain ⟨⟨⟨⟨⟨⟨rfl, h2⟩, h3⟩, rfl⟩, h5⟩, h6⟩, h7⟩ := h
          exact .isi h2 h3 h5 h6 (ih h7)
        · cases h
      · cases h
    · split at h
      · simp only [Bool.and_eq_true, decide_eq_true_eq] at h
        obtain ⟨⟨⟨⟨⟨⟨⟨rfl, h2⟩, h3⟩, rfl⟩, h5⟩, h6⟩, h7⟩, h8⟩ := h
        exact .lrg h2 h3 h5 h6 (hA h7) (len12 h8)
      · cases h
    · split at h
      · split at h
        · simp only [Bool.and_eq_true, decide_eq_true_eq] at h
          obtain ⟨⟨⟨⟨rfl, h2⟩, h3⟩, h4⟩, h5⟩ := h
          exact .rpr h2 h3 h4 (ih h5)
        · cases h
      · cases h
    · split at h
      · split at h
        · simp only [Bool.and_eq_true, decide_eq_true_eq] at h
          obtain ⟨⟨⟨⟨⟨⟨rfl, h2⟩, h3⟩, rfl⟩, h5⟩, h6⟩, h7⟩ := h
          exact .sst h2 h3 h5 h6 (ih h7)
        · cases h
      · cases h
    · split at h
      · split at h
        · simp only [Bool.and_eq_true, decide_eq_true_eq] at h
          obtain ⟨⟨⟨⟨⟨⟨rfl, h2⟩, h3⟩, rfl⟩, h5⟩, h6⟩, h7⟩ := h
          exact .lns h2 h3 h5 h6 (ih h7)
        · cases h
      · cases h
    · split at h
      · rename_i y fv hp
        split at h
        · simp only [Bool.and_eq_true, decide_eq_true_eq] at h
          obtain ⟨⟨⟨rfl, h2⟩, h3⟩, h4⟩ := h
          exact .blt hp h2 h3 (hA h4)
        · cases h
      · cases h
    · split at h
      · simp only [Bool.and_eq_true, decide_eq_true_eq] at h
        obtain ⟨⟨⟨⟨rfl, h2⟩, h3⟩, h4⟩, h5⟩ := h
        have := hA h5
        cases this with
        | nil => exact .mth0 (ih h4) h2
        | cons a b => exact .mth (ih h4) (.cons a b) h2 (by simpa using h3)
      · cases h
    · split at h
      · simp only [Bool.and_eq_true, decide_eq_true_eq] at h
        obtain ⟨⟨⟨⟨⟨h1, h2⟩, h3⟩, h4⟩, h5⟩, h6⟩ := h
        exact .lc (chkI_ok (fun e pe z => ih z) h1) h2 h3 (chkT_ok h4) (chkC_ok (fun e pe z => ih z) h5) (ih h6)
      · cases h
    · split at h
      · simp only [Bool.and_eq_true, decide_eq_true_eq] at h
        obtain ⟨⟨⟨⟨⟨⟨⟨⟨h1, h2⟩, h3⟩, h4⟩, h5⟩, h6⟩, h7⟩, h8⟩, h9⟩ := h
        exact .lc2 (chkI_ok (fun e pe z => ih z) h1) h2 h3 (chkT_ok h4) (chkC_ok (fun e pe z => ih z) h5) (chkI_ok (fun e pe z => ih z) h6) (chkT_ok h7) (chkC_ok (fun e pe z => ih z) h8) (ih h9)
      · cases h
end
end MPS
namespace MPS
open PySem PySem.Spec PyProof.Rows L2 PySem.W
variable [Tbs]
section
variable (tb : Tb) (N : List Str)
def locF (sc : Scope) (fb : Str → Bool) (i : Nat) (x : Str) : Bool := decide (N[i]? = some x) && locB sc x && (fb x || decide (sc.names.lookup x = some .local))
def chkG : Nat → Scope → (Str → Bool) → MP.E → Expr → Bool
  | 0, _, _, _, _ => false
  | n + 1, sc, fb, e, pe => match e with
    | .var i => (match pe with | .Name x _ => locF N sc fb i x | _ => false)
    | .tup es => (match pe with | .Tuple pes _ _ => chkA (chkG n sc fb) es pes | _ => false)
    | .idx a b => (match pe with | .Subscript pa pb _ => chkE tb N n sc fb a pa && chkE tb N n sc fb b pb | _ => false)
    | _ => false
def chkB (f : MP.S → Stmt → Bool) : MP.S → List Stmt → Bool
  | .nil, [] => true
  | .cons a r, pa :: pr => f a pa && chkB f r pr
  | _, _ => false
def chkH (sc : Scope) : List (Nat × List Nat × MP.D) → List ExceptHandler → Bool
  | [], [] => true
  | (c, l, d) :: hs, .ExceptHandler (some (.Name x _)) none [.Return (some pc) _] _ :: hds => decide (tb.cn[c]? = some x) && glB sc x && nmB x && (List.range tb.cn.length).all (fun i => l.contains i == tb.sb.contains (i, c)) && conB d pc && chkH sc hs hds
  | _, _ => false
def chkS (M : Nat) : Nat → Scope → (Str → Bool) → MP.S → Stmt → Bool
  | 0, _, _, _, _ => false
  | n + 1, sc, fb, e, st => match e with
    | .bad => true
    | .rai c => (match st with | .Raise (some (.Call (.Name x _) [] [] _)) none _ => decide (tb.cn[c]? = some x) && glB sc x && nmB x | _ => false)
    | .tri hs e => (match st with | .Try [.Return (some pe) _] (hd :: hds) [] [] _ => chkE tb N M sc fb e pe && chkH tb sc hs (hd :: hds) | _ => false)
    | .pass => (match st with | .Pass _ => true | _ => false)
    | .brk => (match st with | .Break _ => true | _ => false)
    | .cnt => (match st with | .Continue _ => true | _ => false)
    | .retN => (match st with | .Return none _ => true | _ => false)
    | .ret e => (match st with | .Return (some pe) _ => chkE tb N M sc fb e pe | _ => false)
    | .exp e => (match st with | .Expr pe _ => chkE tb N M sc fb e pe && nolc pe | _ => false)
    | .ite c a b => (match st with | .If pc pa pb _ => chkE tb N M sc fb c pc && chkB (chkS M n sc fb) a pa && chkB (chkS M n sc fb) b pb | _ => false)
    | .whl c b => (match st with | .While pc pb [] _ => chkE tb N M sc fb c pc && chkB (chkS M n sc fb) b pb | _ => false)
    | .for t k ia b => (match st with | .For pt pi pb [] _ => chkT N M sc fb t pt && chkI tb (chkE tb N M sc fb) sc k ia pt pi && chkB (chkS M n sc fb) b pb | _ => false)
    | .aug o (.var i) e => (match st with | .AugAssign (.Name x _) op pe _ => decide (op = bop o) && locF N sc fb i x && nmB x && chkE tb N M sc fb e pe | _ => false)
    | .aug o (.idx a b) e => (match st with | .AugAssign (.Subscript pa pb _) op pe _ => decide (op = bop o) && chkE tb N M sc fb a pa && chkE tb N M sc fb b pb && chkE tb N M sc fb e pe | _ => false)
    | .par [i, j] es => (match st with | .Assign [.Tuple [.Name x px, .Name y py] _ _] (.Tuple [a, b] _ _) _ => decide (N[i]? = some x) && decide (N[j]? = some y) && decide (i ≠ j) && decide (sc.names.lookup x = some .local) && decide (sc.names.lookup y = some .local) && chkA (chkE tb N M sc fb) es [a, b] && decide (swP sc [.Name x px, .Name y py] [a, b] = some (some [x, y])) | _ => false)
    | .par [i, j, l] es => (match st with | .Assign [.Tuple [.Name x px, .Name y py, .Name z pz] _ _] (.Tuple [a, b, c] _ _) _ => decide (N[i]? = some x) && decide (N[j]? = some y) && decide (N[l]? = some z) && decide (i ≠ j) && decide (i ≠ l) && decide (j ≠ l) && decide (sc.names.lookup x = some .local) && decide (sc.names.lookup y = some .local) && decide (sc.names.lookup z = some .local) && chkA (chkE tb N M sc fb) es [a, b, c] && decide (swP sc [.Name x px, .Name y py, .Name z pz] [a, b, c] = some (some [x, y, z])) | _ => false)
    | .asg t e => (match st with
      | .Assign [pt] pe _ => chkE tb N M sc fb e pe && (match t with
        | .var i => (match pt with | .Name x p => locF N sc fb i x && (!(swB sc x p pe) || decide (sc.names.lookup x = some .local)) | _ => false)
        | t => chkG tb N M sc fb t pt && swG sc pt pe)
      | _ => false)
    | _ => false
end
section
variable {tb : Tb} {N : List Str}
theorem locF_ok {sc : Scope} {fb : Str → Bool} {i : Nat} {x : Str} (h : locF N sc fb i x = true) : N[i]? = some x ∧ locB sc x = true ∧ (fb x = true ∨ sc.names.lookup x = some .local) := by
  unfold locF at h
  simp only [Bool.and_eq_true, Bool.or_eq_true, decide_eq_true_eq] at h
  exact ⟨h.1.1, h.1.2, h.2⟩
theorem chkGs_ok {sc : Scope} {fb : Str → Bool} {f : MP.E → Expr → Bool} (hf : ∀ e pe, f e pe = true → TrG tb N sc fb e pe) : ∀ {es : MP.E} {pes : List Expr}, chkA f es pes = true → TrGs tb N sc fb es pes := by
  intro es
  induction es with
  | nil => intro pes h; cases pes with | nil => exact .nil | cons a l => simp [chkA] at h
  | cons a r iha ihr =>
    intro pes h
    cases pes with
    | nil => simp [chkA] at h
    | cons p pr =>
      simp only [chkA, Bool.and_eq_true] at h
      exact .cons (hf _ _ h.1) (ihr h.2)
  | _ => intro pes h; cases pes <;> simp [chkA] at h
theorem chkG_ok : ∀ {n : Nat} {sc : Scope} {fb : Str → Bool} {e : MP.E} {pe : Expr}, chkG tb N n sc fb e pe = true → TrG tb N sc fb e pe := by
  intro n
  induction n with
  | zero => intro sc fb e pe h; simp [chkG] at h
  | succ n ih =>
    intro sc fb e pe h
    unfold chkG at h
    split at h
    · split at h
      · obtain ⟨h1, h2, h3⟩ := locF_ok h
        exact .var h1 h2 h3
      · cases h
    · split at h
      · exact .tup (chkGs_ok (fun e pe q => ih q) h)
      · cases h
    · split at h
      · simp only [Bool.and_eq_true] at h
        exact .idx (chkE_ok h.1) (chkE_ok h.2)
      · cases h
    · cases h
theorem chkB_ok {sc : Scope} {fb : Str → Bool} {f : MP.S → Stmt → Bool} (hf : ∀ e st, f e st = true → TrS tb N sc fb e st) : ∀ {es : MP.S} {sts : List Stmt}, chkB f es sts = true → TrB tb N sc fb es sts := by
  intro es
  induction es with
  | nil => intro pes h; cases pes with | nil => exact .nil | cons a l => simp [chkB] at h
  | cons a r iha ihr =>
    intro pes h
    cases pes with
    | nil => simp [chkB] at h
    | cons p pr =>
      simp only [chkB, Bool.and_eq_true] at h
      exact .cons (hf _ _ h.1) (ihr h.2)
  | _ => intro pes h; cases pes <;> simp [chkB] at h
theorem TrE.nslice {sc : Scope} {fb : Str → Bool} {e : MP.E} {pe : Expr} (h : TrE tb N sc fb e pe) : (match pe with | .Slice .. => false | _ => true) = true := by cases h <;> rfl
theorem chkH_ok {sc : Scope} : ∀ {hs : List (Nat × List Nat × MP.D)} {hds : List ExceptHandler}, chkH tb sc hs hds = true → TrH tb sc hs hds := by
  intro hs
  induction hs with
  | nil =>
    intro hds h
    cases hds with
    | nil => exact .nil
    | cons _ _ => simp [chkH] at h
  | cons a hs ih =>
    intro hds h
    obtain ⟨c, l, d⟩ := a
    unfold chkH at h
    split at h
    · rename_i q; cases q
    · rename_i c' l' d' hs' x np pc p p2 hds' e
      cases e
      simp only [Bool.and_eq_true, decide_eq_true_eq, List.all_eq_true, List.mem_range, beq_iff_eq] at h
      obtain ⟨⟨⟨⟨⟨h1, h2⟩, h3⟩, h4⟩, h5⟩, h6⟩ := h
      exact .cons h1 h2 h3 h4 h5 (ih h6)
    · cases h
theorem chkS_ok {M : Nat} : ∀ {n : Nat} {sc : Scope} {fb : Str → Bool} {e : MP.S} {st : Stmt}, chkS tb N M n sc fb e st = true → TrS tb N sc fb e st := by
  intro n
  induction n with
  | zero => intro sc fb e pe h; simp [chkS] at h
  | succ n ih =>
    intro sc fb e st h
    have hB : ∀ {sc fb es sts}, chkB (chkS tb N M n sc fb) es sts = true → TrB tb N sc fb es sts := fun q => chkB_ok (fun e pe z => ih z) q
    unfold chkS at h
    split at h
    all_goals first | (exact absurd h Bool.false_ne_true) | skip
    · exact .bad
    · split at h
      · simp only [Bool.and_eq_true, decide_eq_true_eq] at h; exact .rai h.1.1 h.1.2 h.2
      · cases h
    · split at h
      · rw [Bool.and_eq_true] at h; exact .tri (chkE_ok h.1) (chkH_ok h.2)
      · cases h
    · split at h
      · exact .pass
      · cases h
    · split at h
      · exact .brk
      · cases h
    · split at h
      · exact .cnt
      · cases h
    · split at h
      · exact .retN
      · cases h
    · split at h
      · exact .ret (chkE_ok h)
      · cases h
    · split at h
      · simp only [Bool.and_eq_true] at h; exact .exp (chkE_ok h.1) h.2
      · cases h
    · split at h
      · simp only [Bool.and_eq_true] at h; exact .ite (chkE_ok h.1.1) (hB h.1.2) (hB h.2)
      · cases h
    · split at h
      · simp only [Bool.and_eq_true] at h; exact .whl (chkE_ok h.1) (hB h.2)
      · cases h
    · split at h
      · simp only [Bool.and_eq_true] at h; exact .for (chkT_ok h.1.1) (chkI_ok (fun e pe z => chkE_ok z) h.1.2) (hB h.2)
      · cases h
    · split at h
      · simp only [Bool.and_eq_true, decide_eq_true_eq] at h
        obtain ⟨⟨⟨rfl, h2⟩, h3⟩, h4⟩ := h
        obtain ⟨q1, q2, q3⟩ := locF_ok h2
        exact .augV q1 q2 q3 h3 (chkE_ok h4)
      · cases h
    · split at h
      · simp only [Bool.and_eq_true, decide_eq_true_eq] at h
        obtain ⟨⟨⟨rfl, h2⟩, h3⟩, h4⟩ := h
        exact .augI (chkE_ok h2) (chkE_ok h3) (chkE_ok h4) (chkE_ok h3).nslice
      · cases h
    · split at h
      · simp only [Bool.and_eq_true, decide_eq_true_eq] at h
        obtain ⟨⟨⟨⟨⟨⟨h1, h2⟩, h3⟩, h4⟩, h5⟩, h6⟩, h7⟩ := h
        exact .par h1 h2 h3 h4 h5 (chkA_ok (fun e pe z => chkE_ok z) h6) h7
      · cases h
    · split at h
      · simp only [Bool.and_eq_true, decide_eq_true_eq] at h
        obtain ⟨⟨⟨⟨⟨⟨⟨⟨⟨⟨h1, h2⟩, h3⟩, h4⟩, h5⟩, h6⟩, h7⟩, h8⟩, h9⟩, h10⟩, h11⟩ := h
        exact .par3 h1 h2 h3 h4 h5 h6 h7 h8 h9 (chkA_ok (fun e pe z => chkE_ok z) h10) h11
      · cases h
    · split at h
      · rw [Bool.and_eq_true] at h
        obtain ⟨h1, h2⟩ := h
        split at h2
        · split at h2
          · simp only [Bool.and_eq_true, Bool.or_eq_true, Bool.not_eq_true', decide_eq_true_eq] at h2
            obtain ⟨h3, h4⟩ := h2
            obtain ⟨q1, q2, q3⟩ := locF_ok h3
            rename_i x p
            cases hs : swB sc x p _ with
            | false => exact .asgV q1 q2 q3 (chkE_ok h1) hs
            | true => exact .asgL q1 (h4.resolve_left (by rw [hs]; decide)) (chkE_ok h1) hs
          · cases h2
        · rw [Bool.and_eq_true] at h2
          exact .asgG (chkG_ok h2.1) (chkE_ok h1) h2.2
      · cases h
/-! ### a def, checked -/
def scB (N ps : List Str) (sc : Scope) : Bool :=
  decide (sc.kind = .function) && !sc.isCoroutine && !sc.isGenerator && decide N.Nodup && decide (N.take ps.length = ps) && (ps.all fun x => decide (sc.names.lookup x = some .local) || decide (sc.names.lookup x = some .cell)) && (sc.names.all fun y => decide (y.2 ≠ .free))
theorem scB_ok {N ps : List Str} {sc : Scope} (h : scB N ps sc = true) : FnScope N ps sc := by
  unfold scB at h
  simp only [Bool.and_eq_true, decide_eq_true_eq, Bool.not_eq_true', List.all_eq_true, Bool.or_eq_true] at h
  obtain ⟨⟨⟨⟨⟨⟨h1, h2⟩, h3⟩, h4⟩, h5⟩, h6⟩, h7⟩ := h
  exact ⟨h1, h2, h3, h4, h5, h6, fun y hy => h7 y hy⟩
def defB (tb : Tb) (N ps : List Str) (fn : MP.Fn) (st : Stmt) (lm : Bool := false) : Bool :=
  scB N ps (defScope st) && decide (fn.np = ps.length) && decide (fn.ns = N.length) && chkB (chkS tb N 100 50 (defScope st) (fbD lm)) fn.body (defBody st)
theorem def_mkL {K : PySem.W.Frag} {h : Heap} {mg : Str → Option Value} {x y : Str} {fn : MP.Fn} {f : Addr} {st : Stmt} {N ps : List Str} {oc : Value} {od an : Option Addr} {osl : Array (Option Value)} {kV doc pm cdv ct : Value} (X : K.In h) (G : h.Ns mainGlobals mg)
    (a1 : PySem.W.nsIn K mainGlobals x = some (some (.ref f))) (l : K.lookup f = some ⟨oc, od, .func (PySem.W.fnOf y y (defArgs st) (defBody st) (defScope st) .none kV doc pm an cdv ct), osl⟩) (c : PySem.W.codeIn K cdv y = true) (k : PySem.W.keepIn K (.ref f) = true)
    {lm : Bool} (hb : defB tb N ps fn st lm = true) (hl : lm = true → LamD (PySem.W.fnOf y y (defArgs st) (defBody st) (defScope st) .none kV doc pm an cdv ct) y) (bd : ∀ (kV doc pm : Value) (an : Option Addr) (cdv ct : Value) (us : List Value), us.length = ps.length → bindArgs (PySem.W.fnOf y y (defArgs st) (defBody st) (defScope st) .none kV doc pm an cdv ct) ⟨us, []⟩ = pure (ps.zip us)) :
    ∃ a fd st N, DefOk K mg tb x fn a fd st N ps := by
  unfold defB at hb
  simp only [Bool.and_eq_true, decide_eq_true_eq] at hb
  obtain ⟨⟨⟨h1, h2⟩, h3⟩, h4⟩ := hb
  have F := fun_mk (st := st) l c k
  exact ⟨f, _, st, N, PySem.W.mg_of X G a1, F.binds bd, fun s us hl => .of_eq (bd kV doc pm an cdv ct us hl), ⟨_, F, lm, chkB_ok (fun e st z => chkS_ok z) h4, hl⟩, scB_ok h1, h2, h3⟩
theorem def_mk {K : PySem.W.Frag} {h : Heap} {mg : Str → Option Value} {x y : Str} {fn : MP.Fn} {f : Addr} {st : Stmt} {N ps : List Str} {oc : Value} {od an : Option Addr} {osl : Array (Option Value)} {kV doc pm cdv ct : Value} (X : K.In h) (G : h.Ns mainGlobals mg)
    (a1 : PySem.W.nsIn K mainGlobals x = some (some (.ref f))) (l : K.lookup f = some ⟨oc, od, .func (PySem.W.fnOf y y (defArgs st) (defBody st) (defScope st) .none kV doc pm an cdv ct), osl⟩) (c : PySem.W.codeIn K cdv y = true) (k : PySem.W.keepIn K (.ref f) = true)
    (hb : defB tb N ps fn st false = true) (bd : ∀ (kV doc pm : Value) (an : Option Addr) (cdv ct : Value) (us : List Value), us.length = ps.length → bindArgs (PySem.W.fnOf y y (defArgs st) (defBody st) (defScope st) .none kV doc pm an cdv ct) ⟨us, []⟩ = pure (ps.zip us)) :
    ∃ a fd st N, DefOk K mg tb x fn a fd st N ps := def_mkL X G a1 l c k hb (fun z => nomatch z) bd
/-- a def that calls what it got, checked -/
def hbB (tb : Tb) (sg : Scope) (a : Str) (hs : List (Nat × List Nat × MP.D)) (d0 : MP.D) : List Stmt → Bool
  | [.Try [.Expr (.Call (.Name y _) [] [] _) _] (hd :: hds) [] [] _, .Return (some pc) _] => decide (y = a) && conB d0 pc && chkH tb sg hs (hd :: hds)
  | [.Try [.Expr (.Call (.Name y _) [] [] _) _, .Return (some pc) _] (hd :: hds) [] [] _] => decide (y = a) && conB d0 pc && chkH tb sg hs (hd :: hds)
  | _ => false
theorem hbB_ok {sg : Scope} {a : Str} {hs : List (Nat × List Nat × MP.D)} {d0 : MP.D} {bg : List Stmt} (h : hbB tb sg a hs d0 bg = true) : HBody tb sg a hs d0 bg := by
  unfold hbB at h
  split at h
  · simp only [Bool.and_eq_true, decide_eq_true_eq] at h
    obtain ⟨⟨rfl, h2⟩, h3⟩ := h
    exact ⟨_, _, _, _, _, _, _, _, h2, chkH_ok h3, .inl rfl⟩
  · simp only [Bool.and_eq_true, decide_eq_true_eq] at h
    obtain ⟨⟨rfl, h2⟩, h3⟩ := h
    exact ⟨_, _, _, _, _, _, _, _, h2, chkH_ok h3, .inr rfl⟩
  · cases h
def lamB (tb : Tb) (N : List Str) (a : Str) (hs : List (Nat × List Nat × MP.D)) (d0 : MP.D) (st : Stmt) : Bool :=
  scB N [a] (defScope st) && decide (N[0]? = some a) && visB (defScope st) a && !(a == ("__debug__" : Str)) && !(a == ("__classdict__" : Str)) && hbB tb (defScope st) a hs d0 (defBody st)
theorem vis_of {sc : Scope} {x : Str} (h : visB sc x = true) : Vis sc x := by
  unfold visB at h
  split at h
  · rename_i e; exact .inl e
  · rename_i e; exact .inr (.inl e)
  · rename_i e; exact .inr (.inr e)
  · cases h
theorem lam_mk {K : PySem.W.Frag} {h : Heap} {mg : Str → Option Value} {x a : Str} {f : Addr} {st : Stmt} {N : List Str} {hs : List (Nat × List Nat × MP.D)} {d0 : MP.D} {oc : Value} {od an : Option Addr} {osl : Array (Option Value)} {kV doc pm cdv ct : Value} (X : K.In h) (G : h.Ns mainGlobals mg)
    (a1 : PySem.W.nsIn K mainGlobals x = some (some (.ref f))) (l : K.lookup f = some ⟨oc, od, .func (PySem.W.fnOf x x (defArgs st) (defBody st) (defScope st) .none kV doc pm an cdv ct), osl⟩) (c : PySem.W.codeIn K cdv x = true) (k : PySem.W.keepIn K (.ref f) = true)
    (hb : lamB tb N a hs d0 st = true) (bd : ∀ (kV doc pm : Value) (an : Option Addr) (cdv ct : Value) (us : List Value), us.length = [a].length → bindArgs (PySem.W.fnOf x x (defArgs st) (defBody st) (defScope st) .none kV doc pm an cdv ct) ⟨us, []⟩ = pure ([a].zip us)) : LamDef K mg tb x hs d0 := by
  unfold lamB at hb
  simp only [Bool.and_eq_true, decide_eq_true_eq, Bool.not_eq_true'] at hb
  obtain ⟨⟨⟨⟨⟨h1, h2⟩, h3⟩, h4⟩, h5⟩, h6⟩ := hb
  exact ⟨f, oc, od, an, _, _, _, _, _, _, _, _, _, osl, N, a, PySem.W.mg_of X G a1, k, l, c, (fun_mk (st := st) l c k).binds bd, scB_ok h1, h2, vis_of h3, h4, h5, hbB_ok h6⟩
inductive AllLam (K : PySem.W.Frag) (mg : Str → Option Value) (tb : Tb) : List (Str × List (Nat × List Nat × MP.D) × MP.D) → Prop
  | nil : AllLam K mg tb []
  | cons {x hs d0 r} (h : LamDef K mg tb x hs d0) (q : AllLam K mg tb r) : AllLam K mg tb ((x, hs, d0) :: r)
theorem AllLam.get {K : PySem.W.Frag} {mg : Str → Option Value} : ∀ {r : List (Str × List (Nat × List Nat × MP.D) × MP.D)}, AllLam K mg tb r → ∀ x hs d0, (x, hs, d0) ∈ r → LamDef K mg tb x hs d0
  | _, .nil, _, _, _, h => nomatch h
  | _, .cons h q, x, hs, d0, z => by
    rcases List.mem_cons.mp z with z | z
    · cases z; exact h
    · exact q.get x hs d0 z
/-- the defs, one by one -/
inductive AllDef (K : PySem.W.Frag) (mg : Str → Option Value) (tb : Tb) : List Str → List MP.Fn → List (List Str) → Prop
  | nil {fns} : AllDef K mg tb [] fns []
  | cons {x xs fn fns ps pss} (h : ∃ a fd st N, DefOk K mg tb x fn a fd st N ps) (r : AllDef K mg tb xs fns pss) : AllDef K mg tb (x :: xs) (fn :: fns) (ps :: pss)
theorem AllDef.get {K : PySem.W.Frag} {mg : Str → Option Value} : ∀ {xs : List Str} {fns : List MP.Fn} {pss : List (List Str)}, AllDef K mg tb xs fns pss → ∀ (f : Nat) (x : Str), xs[f]? = some x → ∃ fn a fd st N ps, fns[f]? = some fn ∧ pss[f]? = some ps ∧ DefOk K mg tb x fn a fd st N ps
  | _, _, _, .nil, f, x, e => by simp at e
  | _, _, _, .cons h r, 0, x, e => by
    simp at e; subst e
    obtain ⟨a, fd, st, N, d⟩ := h
    exact ⟨_, a, fd, st, N, _, rfl, rfl, d⟩
  | _, _, _, .cons h r, f + 1, x, e => by
    obtain ⟨fn, a, fd, st, N, ps, e1, e2, d⟩ := AllDef.get r f x (by simpa using e)
    exact ⟨fn, a, fd, st, N, ps, by simpa using e1, by simpa using e2, d⟩
inductive AllGlo (K : PySem.W.Frag) (mg : Str → Option Value) : List Str → List MP.D → Prop
  | nil : AllGlo K mg [] []
  | cons {x xs d ds} (h : ∃ (u : Value) (v : V), mg x = some u ∧ RelV v u ∧ ∀ m H, Rel K m H d v) (r : AllGlo K mg xs ds) : AllGlo K mg (x :: xs) (d :: ds)
theorem AllGlo.get {K : PySem.W.Frag} {mg : Str → Option Value} : ∀ {xs : List Str} {ds : List MP.D}, AllGlo K mg xs ds → ∀ (j : Nat) (x : Str), xs[j]? = some x → ∃ (d : MP.D) (u : Value) (v : V), ds[j]? = some d ∧ mg x = some u ∧ RelV v u ∧ ∀ m H, Rel K m H d v
  | _, _, .nil, f, x, e => by simp at e
  | _, _, .cons h r, 0, x, e => by
    simp at e; subst e
    obtain ⟨u, v, h⟩ := h
    exact ⟨_, u, v, rfl, h⟩
  | _, _, .cons h r, f + 1, x, e => by
    obtain ⟨d, u, v, e1, h⟩ := AllGlo.get r f x (by simpa using e)
    exact ⟨d, u, v, by simpa using e1, h⟩
theorem glo_int {K : PySem.W.Frag} {h : Heap} {mg : Str → Option Value} {x : Str} {i : Int} {t : Tok} (X : K.In h) (G : h.Ns mainGlobals mg) (a1 : PySem.W.nsIn K mainGlobals x = some (some (.int i t))) : ∃ (u : Value) (v : V), mg x = some u ∧ RelV v u ∧ ∀ m H, Rel K m H (.int i) v :=
  ⟨_, .int i, PySem.W.mg_of X G a1, ⟨t, rfl⟩, fun _ _ => .int i⟩
theorem glo_pair {K : PySem.W.Frag} {h : Heap} {mg : Str → Option Value} {x : Str} {i j : Int} {t u : Tok} {a : Addr} {od : Option Addr} {n : Nat} {sl : Array (Option Value)} (X : K.In h) (G : h.Ns mainGlobals mg) (a1 : PySem.W.nsIn K mainGlobals x = some (some (.ref a)))
    (l : K.lookup a = some ⟨.type "tuple", od, .seq #[.int i t, .int j u] n, sl⟩) : ∃ (u : Value) (v : V), mg x = some u ∧ RelV v u ∧ ∀ m H, Rel K m H (.tup [.int i, .int j]) v :=
  ⟨_, .ref a, PySem.W.mg_of X G a1, rfl, fun m H => .tup (.inr ⟨_, _, n, l, rfl, rfl, by show 2 ≤ sizeLine; rw [sizeLine_eq]; omega, (show Vals [V.int i, V.int j] [Value.int i t, Value.int j u] from .cons ⟨t, rfl⟩ (.cons ⟨u, rfl⟩ .nil))⟩) (.cons (.int i) (.cons (.int j) .nil))⟩
theorem exm_mk {K : PySem.W.Frag} {A C : Addr} {r : Bool} (b : PySem.W.subIn K (.ref C) (.type "BaseException") = some true) (i : PySem.W.isClsIn K C = true) (t : PySem.W.typeIn K (.ref C) = some (.type "type")) (s : PySem.W.subIn K (.ref A) (.ref C) = some r) : PySem.W.exmOne K (.ref A) (.ref C) = some r := by
  unfold PySem.W.exmOne
  rw [b]
  show PySem.W.kitCls K (.ref A) (.ref C) = _
  unfold PySem.W.kitCls
  unfold PySem.W.isClsIn at i
  simp only [i, t]
  exact s
inductive AllNo (K : PySem.W.Frag) (mg : Str → Option Value) : List Str → Prop
  | nil : AllNo K mg []
  | cons {x xs} (h : mg x = none) (r : AllNo K mg xs) : AllNo K mg (x :: xs)
theorem AllNo.get {K : PySem.W.Frag} {mg : Str → Option Value} {xs : List Str} (h : AllNo K mg xs) : ∀ x ∈ xs, mg x = none := by
  induction h with
  | nil => intro x hx; cases hx
  | cons h r ih =>
    intro x hx
    rcases List.mem_cons.mp hx with z | z
    · subst z; exact h
    · exact ih x z
/-- the exception classes, one by one -/
inductive AllCls (K : PySem.W.Frag) (mg : Str → Option Value) : List Str → List Addr → Prop
  | nil : AllCls K mg [] []
  | cons {x xs C cs} (h : mg x = some (.ref C) ∧ ClsOk K C) (r : AllCls K mg xs cs) : AllCls K mg (x :: xs) (C :: cs)
theorem AllCls.get {K : PySem.W.Frag} {mg : Str → Option Value} : ∀ {xs : List Str} {cs : List Addr}, AllCls K mg xs cs → ∀ (j : Nat) (x : Str), xs[j]? = some x → ∃ C, cs[j]? = some C ∧ mg x = some (.ref C) ∧ ClsOk K C
  | _, _, .nil, f, x, e => by simp at e
  | _, _, .cons h r, 0, x, e => by
    simp at e; subst e
    exact ⟨_, rfl, h⟩
  | _, _, .cons h r, f + 1, x, e => by
    obtain ⟨C, e1, h⟩ := AllCls.get r f x (by simpa using e)
    exact ⟨C, by simpa using e1, h⟩
theorem AllCls.len {K : PySem.W.Frag} {mg : Str → Option Value} : ∀ {xs : List Str} {cs : List Addr}, AllCls K mg xs cs → cs.length = xs.length
  | _, _, .nil => rfl
  | _, _, .cons h r => by rw [List.length_cons, List.length_cons, r.len]
theorem cls_mk {K : PySem.W.Frag} {h : Heap} {mg : Str → Option Value} {x : Str} {C : Addr} (X : K.In h) (G : h.Ns mainGlobals mg) (a1 : PySem.W.nsIn K mainGlobals x = some (some (.ref C))) (a2 : PySem.W.keepIn K (.ref C) = true)
    (a3 : PySem.W.excIn K C [.type "ValueError", .type "Exception", .type "BaseException", .type "object"] "ValueError.__new__" = true) (a4 : PySem.W.subIn K (.ref C) (.type "BaseException") = some true) (a5 : PySem.W.typeIn K (.ref C) = some (.type "type")) : mg x = some (.ref C) ∧ ClsOk K C :=
  ⟨PySem.W.mg_of X G a1, a2, a3, a4, a5⟩
/-- which class is under which: of each two -/
def subAll (K : PySem.W.Frag) (cs : List Addr) (sb : List (Nat × Nat)) : Prop := ∀ (i j : Nat) (A B : Addr), cs[i]? = some A → cs[j]? = some B → PySem.W.exmOne K (.ref A) (.ref B) = some (sb.contains (i, j))
theorem txt_of {K : PySem.W.Frag} {mg : Str → Option Value} {fns : List MP.Fn} {G : List MP.D} {pss : List (List Str)} {cs : List Addr} (a : AllDef K mg tb tb.fn fns pss) (b : AllGlo K mg tb.gn G) (c : AllNo K mg tb.bl) (d : AllCls K mg tb.cn cs) (s : subAll K cs tb.sb) (lm : AllLam K mg tb tb.lm) : Txt K mg tb fns G pss cs := ⟨a.get, b.get, c.get, ⟨d.get, s, d.len⟩, lm.get⟩
theorem sub_nil {K : PySem.W.Frag} {sb : List (Nat × Nat)} : subAll K [] sb := fun i j A B e => by simp at e
end
/-- where the law keeps its lambdas' codes -/
structure LamLaw (K : PySem.W.Frag) (x : Str) (C P : Addr) : Prop where
  ex : ∃ (f : Addr) (o : Obj) (fd : FuncData) (e : Value) (dd : Option Addr) (vs : Array Value) (sl : Array (Option Value)), PySem.W.nsIn K mainGlobals x = some (some (.ref f)) ∧ K.lookup f = some o ∧ o.data = .func fd ∧ fd.code = .ref C ∧ K.lookup C = some ⟨e, dd, .fields vs, sl⟩ ∧ vs[11]? = some (.ref P) ∧ K.lookup P = none ∧ PySem.W.codeHdIn K C P = true
/-- the tables of a law that makes lambdas; of one that makes none -/
abbrev tbsL (w : World) (y : Str) (C P : Addr) : Tbs := ⟨[(P, y ++ ".<locals>." ++ "<lambda>")], [(C, P)], w⟩
abbrev tbs0 (w : World) : Tbs := ⟨[], [], w⟩
omit [Tbs] in
theorem lamD_one {w : World} {y : Str} {C P : Addr} {fd : FuncData} (h : fd.code = .ref C) : @LamD (tbsL w y C P) fd y :=
  ⟨C, P, h, List.mem_singleton.mpr rfl, List.mem_singleton.mpr rfl, fun p hp _ => by rw [List.mem_singleton.mp hp]⟩
omit [Tbs] in
def TxtL (w : World) (K : PySem.W.Frag) (mg : Str → Option Value) (tb : Tb) (fns : List MP.Fn) (G : List MP.D) (pss : List (List Str)) (cs : List Addr) (x : Str) : Prop := ∃ C P, LamLaw K x C P ∧ @Txt (tbsL w x C P) K mg tb fns G pss cs
section
omit [Tbs]
/-- the law's end -/
theorem walk {tb : Tb} {fns : List MP.Fn} {G : List MP.D} {Wf Kk fL : Nat} {l : PySem.W.OpenLaw} {q : Program} {loose : List Str} {XP : (Str → Option Value) → Heap → Prop} {YP : World → Heap → Prop} {d : DefRec} {K : Params → PySem.W.Frag} (hn : l.most = some 63) (hdf : d.params.defaults = []) (hr : Room (3 * Kk) callerA)
    (hY : ∀ (w : World) (h : Heap), YP w h → (K w.params).In h) (hfL : tb.fn[fL]? = some d.name) {pss : List (List Str)} {x : Str} (hps : pss[fL]? = some [x])
    (F : ∀ (w : World) (mg : Str → Option Value) (fa : Addr) (h : Heap), (K w.params).In h → h.Ns mainGlobals mg → mg d.name = some (.ref fa) → ∃ cs, @Txt (tbs0 w) (K w.params) mg tb fns G pss cs)
    (L : ∀ ns : List Int, ns.length ≤ 63 → ∃ h', MP.callF fns G Wf Kk fL [.frz (ns.map .int)] [] = .ok (.bl true) h') :
    PySem.W.WalkO q loose XP YP l.row.toRowW d [] (fun f vs => PySem.call f vs) :=
  L2.walk_of (n := 63) (k := 3 * Kk) (x := x) (CX := fun w => L2.CX l.prog w) (sp := fun w => @spL (tbs0 w) (K w.params) (MP.callF fns G Wf Kk fL) 1) hn (by decide) hdf hr hY
    (fun w mg fa h X Gn hm => by
      letI : Tbs := tbs0 w
      have hB : ∀ (base : Heap) (mg : Str → Option Value), TabsB base mg := fun _ _ p hp => nomatch hp
      obtain ⟨cs, T⟩ := F w mg fa h X Gn hm
      obtain ⟨fn, a, fd, st, N, ps, hf, hp, D⟩ := T.fns fL _ hfL
      rw [hps] at hp; cases hp
      have e := D.mg
      rw [hm] at e; cases e
      refine ⟨fd, fun s u => D.bindS s [u] rfl, fun base _ _ => ?_⟩
      cases Kk with
      | zero =>
        refine ⟨fun vs H Q E h => h.1, fun A outer s H args us vs Q E hr he hb hv hs => ?_⟩
        obtain ⟨_, m, h, ds, _, _, g⟩ := hs
        exact g.elim
      | succ k => exact fn_imp (def_step hf D (wld T (hB _ _) rfl k) (hB _ _) rfl) fun vs H Q E x => spL_F x)
    (fun w H a ns hl _ hS => (letI : Tbs := tbs0 w; law_sp L H a ns hl (fun p hp => nomatch hp) hS))
    fun w H s e s' z => by
      obtain ⟨_, _, _, _, _, _, _, _, _, _, _, _, z⟩ := z
      exact z
/-- the end of a law that makes lambdas -/
theorem walkL {tb : Tb} {fns : List MP.Fn} {G : List MP.D} {Wf Kk fL : Nat} {l : PySem.W.OpenLaw} {q : Program} {loose : List Str} {XP : (Str → Option Value) → Heap → Prop} {YP : World → Heap → Prop} {d : DefRec} {K : Params → PySem.W.Frag} (hn : l.most = some 63) (hdf : d.params.defaults = []) (hr : Room (3 * Kk) callerA) (hrec : ((recsOf q).any fun e => e.name == d.name) = true)
    (hY : ∀ (w : World) (h : Heap), YP w h → (K w.params).In h) (hfL : tb.fn[fL]? = some d.name) {pss : List (List Str)} {x : Str} (hps : pss[fL]? = some [x])
    (F : ∀ (w : World) (mg : Str → Option Value) (fa : Addr) (h : Heap), (K w.params).In h → h.Ns mainGlobals mg → mg d.name = some (.ref fa) → ∃ cs, TxtL w (K w.params) mg tb fns G pss cs d.name)
    (L : ∀ ns : List Int, ns.length ≤ 63 → ∃ h', MP.callF fns G Wf Kk fL [.frz (ns.map .int)] [] = .ok (.bl true) h') :
    PySem.W.WalkO q loose XP YP l.row.toRowW d [] (fun f vs => PySem.call f vs) := by
  refine LamX.walk_ofOwn (n := 63) (k := 3 * Kk) (x := x) (CX := fun w => L2.CX l.prog w) hn (by decide) hdf hr hrec hY (fun w mg fa h _ X Gn hm own => ?_) fun w H s e s' z => by
      obtain ⟨_, _, _, _, _, _, _, _, _, _, _, _, z⟩ := z
      exact z
  obtain ⟨cs, C, P, LL, T⟩ := F w mg fa h X Gn hm
  obtain ⟨f, o, fd0, e0, dd, vs, sl, q1, q2, q3, q4, q5, q6, q7, q8⟩ := LL.ex
  have ef := PySem.W.mg_of X Gn q1
  rw [hm] at ef
  cases ef
  letI : Tbs := tbsL w d.name C P
  obtain ⟨fn, a, fd, st, N, ps, hf, hp, D⟩ := T.fns fL _ hfL
  rw [hps] at hp; cases hp
  have e := D.mg
  rw [hm] at e; cases e
  have one : ∀ p ∈ [(C, P)], p = (C, P) := fun p hp => List.mem_singleton.mp hp
  refine ⟨fd, [(C, P)], spL (K w.params) (MP.callF fns G Wf Kk fL) 1, fun p hp => ?_, fun p hp => ?_, fun p hp => ?_, fun s u => D.bindS s [u] rfl, fun H a ns hl _ hT hS => ?_, fun base _ _ hB => ?_⟩
  · rw [one p hp]; exact own C P o fd0 e0 dd vs sl q2 q3 q4 q5 q6
  · rw [one p hp]; exact q7
  · rw [one p hp]; exact PySem.W.codeHd_of_K X q8
  · refine law_sp L H a ns hl (fun p hp => ?_) hS
    have z : p = (P, d.name ++ ".<locals>." ++ "<lambda>") := List.mem_singleton.mp hp
    rw [z]
    exact LamX.TabS.nil (hT (C, P) (List.mem_singleton.mpr rfl))
  · cases Kk with
    | zero =>
      refine ⟨fun vs H Q E h => h.1, fun A outer s H args us vs Q E hr he hb hv hs => ?_⟩
      obtain ⟨_, m, h, ds, _, _, g⟩ := hs
      exact g.elim
    | succ k => exact fn_imp (def_step hf D (wld T hB rfl k) hB rfl) fun vs H Q E x => spL_F x
end
end MPS
namespace MPS
open PySem PySem.Spec PyProof.Rows L2 PySem.W
/-! ### a law that asks for repr: nobody but the outside calls it, so nothing lies beneath it -/
section
variable [Tbs]
structure DefR (K : PySem.W.Frag) (mg : Str → Option Value) (tb : Tb) (x : Str) (fn : MP.Fn) (a : Addr) (fd : FuncData) (st : Stmt) (N ps : List Str) : Prop where
  mg : mg x = some (.ref a)
  bindS : ∀ (s : Shared) (us : List Value), us.length = ps.length → BindsTo s fd ⟨us, []⟩ (ps.zip us)
  fun_ : ∃ y, Fun K y y st a fd ∧ TrB tb N (defScope st) fbR fn.body (defBody st)
  sco : FnScope N ps (defScope st)
  np : fn.np = ps.length
  ns : fn.ns = N.length
section
variable {P : Program} {w : World} {K : PySem.W.Frag} {mg : Str → Option Value} {base : Heap} {tb : Tb} {cs : List Addr} {fns : List MP.Fn} {G : List MP.D} {Wf : Nat}
/-- its body, where nothing lies beneath -/
theorem body_R {k : Nat} {f : Nat} {fn : MP.Fn} {a : Addr} {st : Stmt} {N ps : List Str} {y : Str} {cdv : Value} (hf : fns[f]? = some fn) (hbody : TrB tb N (defScope st) fbR fn.body (defBody st)) (sco : FnScope N ps (defScope st)) (np : fn.np = ps.length) (nsl : fn.ns = N.length)
    (w' : Wld P w K mg base tb cs (MP.callF fns G Wf k) G k) (hwo : w = Tbs.w) {A : Around} (hg : A.guards = some []) {outer : List Env} {s : Shared} {H : Hp} {vs : List V} {Q : VK} {E : XK} (hr : Room (3 * k + 2) (A.deeper (envOfC y (defScope st) s.heap.objs.size a cdv)))
    (h : spF K cs (MP.callF fns G Wf (k + 1) f) ps.length vs H Q E) :
    ∃ t, PSs (cxOf (L2.CX P w) P w K mg base N y (defScope st) a cdv A outer s H E) (defBody st) t ∧ t { nx := fun _ H' => Q .non H', rt := Q } (L2.start N vs) H := by
  obtain ⟨hl, m, h0, ds, hr0, rs, g⟩ := h
  refine ⟨_, pssr _ _, ?_⟩
  have hds : ds.length = fn.np := by rw [np, ← hl]; exact rs.length
  have g : Gd K (Rel K) m H (MP.back h0.length (MP.eS (MP.callF fns G Wf k) G Wf fn.body (ds ++ List.replicate (fn.ns - fn.np) .und) h0)) Q (fun c H' => ∀ C, cs[c]? = some C → E (.ref C) none H') := by
    have e : MP.callF fns G Wf (k + 1) f ds h0 = MP.back h0.length (MP.eS (MP.callF fns G Wf k) G Wf fn.body (ds ++ List.replicate (fn.ns - fn.np) .und) h0) := by
      show (match fns[f]? with | none => _ | some fn => _) = _
      rw [hf]
      show (if ds.length = fn.np then _ else _) = _
      rw [if_pos hds]
    rw [← e]; exact g
  have er : EnvR K m H (ds ++ List.replicate (fn.ns - fn.np) .und) (L2.start N vs) := by rw [← hds]; exact start_rel rs nsl
  refine simB (Wf := Wf) hbody (cxOf (L2.CX P w) P w K mg base N y (defScope st) a cdv A outer s H E) ⟨rfl, hr.mono (by omega), sco.nd, rfl, rfl, hwo, fun z => (by simp at z), fun _ => hg, fun x hx hy => (show true = !(x == LAM) from by rw [show (x == LAM) = false from by simpa using hx]; rfl)⟩ w' (fun cls d _ H' => E cls d H') (takes_of rfl rfl rfl rfl) ⟨passes_of rfl, rfl, rfl⟩ (fun c H' => ∀ C, cs[c]? = some C → E (.ref C) none H') (fun _ _ _ _ z => z) _ h0 m (L2.start N vs) H _ er hr0 ?_
  cases q : MP.eS (MP.callF fns G Wf k) G Wf fn.body (ds ++ List.replicate (fn.ns - fn.np) .und) h0 with
  | ok fl h1 =>
    rw [q] at g
    intro v m1 H1 k1 hr1 r1
    cases fl <;> cases v <;> first | exact r1.elim | skip
    · obtain ⟨m2, k2, hr2⟩ := gcT hr0 k1 hr1
      exact g .non m2 H1 k2 hr2 .non
    · rename_i dd vv
      have r1 : Rel K m1 H1 dd vv := r1
      unfold MP.back at g
      simp only at g
      split at g
      · rename_i l
        rw [Bool.and_eq_true] at l
        obtain ⟨k2, hr2⟩ := gc hr0 k1 hr1 l.2
        obtain ⟨t, e⟩ := k1.pre
        exact g vv m H1 k2 hr2 (r1.less t e k1.ban (by rw [hr0.len]; exact l.1))
      · exact g vv m1 H1 k1 hr1 r1
    · exact g.elim
    · exact g.elim
  | exc c h1 =>
    rw [q] at g
    intro m1 H1 k1 hr1
    obtain ⟨m2, k2, hr2⟩ := gcT hr0 k1 hr1
    exact g m2 H1 k2 hr2
  | bad => rw [q] at g; exact g.elim
end
end
section
variable [Tbs]
variable {P : Program} {w : World} {K : PySem.W.Frag} {mg : Str → Option Value}
/-- an abstract heap for the outside's call: it knows the script at most -/
theorem ground_of {mb : Str → Option Value} {a : Addr} {s₁ : Shared} {vs : List Value} {ns : List Int} (KX : K.In s₁.heap) (hns : s₁.heap.Ns mainGlobals mg) (hb : s₁.heap.Ns builtinsNs mb) (hbb : ∀ x : Str, x ≠ "__name__" → mb x = bootBuiltins x) (hlim : s₁.heap.NoLimit)
    (ha : s₁.heap.get? a = some { cls := .type "list", data := .seq vs.toArray }) (hi : IntsAre vs ns) (hl : ns.length ≤ sizeLine) :
    ∃ H : Hp, Only H ∧ SqL K H a (ns.map V.int) ∧ HOk P w H s₁.heap ∧ Mod K mg (hidT s₁.heap H) := by
  -- all that is asked of a heap that knows the script at most
  have go : ∀ H : Hp, Only H → SqL K H a (ns.map V.int) → HOk P w H s₁.heap → (∀ b, H b ≠ none → b = a ∧ K.lookup b = none) → ∃ H : Hp, Only H ∧ SqL K H a (ns.map V.int) ∧ HOk P w H s₁.heap ∧ Mod K mg (hidT s₁.heap H) := fun H h1 h2 h3 h4 => by
    have dict : ∀ {b : Addr} {m : Str → Option Value}, s₁.heap.Ns b m → (hidT s₁.heap H).Ns b m := fun {b m} ⟨o, es, ep, e, d, r⟩ => by
      refine ⟨o, es, ep, hidT_get e ?_, d, r⟩
      cases q : H b with
      | none => rfl
      | some u =>
        have z := (h4 b (by rw [q]; simp)).1
        rw [z, ha] at e
        cases e
        cases d
    have kin : K.In (hidT s₁.heap H) := fun b o e => hidT_get (KX b o e) (by
      cases q : H b with
      | none => rfl
      | some u => rw [(h4 b (by rw [q]; simp)).2] at e; cases e)
    refine ⟨H, h1, h2, h3, kin, dict hns, ⟨mb, dict hb, hbb⟩, ?_⟩
    obtain ⟨mc, q1, q2⟩ := hlim
    exact ⟨mc, dict q1, q2⟩
  have lv := hi.length
  cases hk : K.lookup a with
  | some o =>
    have e := KX a o hk
    rw [ha] at e; cases e
    exact go (fun _ => none) (fun _ => .inl rfl) (.inr ⟨_, vs.toArray, _, hk, rfl, rfl, rfl, (by rw [List.size_toArray, lv]; exact hl), (by simpa using vals_ints hi)⟩) (fun _ _ z => nomatch z) (fun _ z => absurd rfl z)
  | none =>
    have at_ : ∀ b, (if b = a then some (HO.frz { cls := .type "list", data := .seq vs.toArray } (.lst (ns.map V.int))) else none) ≠ none → b = a := fun b z => by
      by_cases q : b = a
      · exact q
      · rw [if_neg q] at z; exact absurd rfl z
    refine go (fun b => if b = a then some (.frz { cls := .type "list", data := .seq vs.toArray } (.lst (ns.map V.int))) else none) (fun b => ?_) (.inl (.inr ⟨_, if_pos rfl⟩)) (fun b u z => ?_) fun b z => ⟨at_ b z, by rw [at_ b z]; exact hk⟩
    · by_cases q : b = a
      · exact .inr ⟨_, _, if_pos q⟩
      · exact .inl (if_neg q)
    · have q : b = a := at_ b (by rw [show (if b = a then some (HO.frz { cls := .type "list", data := .seq vs.toArray } (.lst (ns.map V.int))) else none) = some u from z]; simp)
      subst q
      have z' := (if_pos rfl).symm.trans z
      cases z'
      exact ⟨ha, (by rw [List.length_map]; exact hl), vs, _, vals_ints hi, ha⟩
variable {base : Heap} {tb : Tb} {cs : List Addr} {fns : List MP.Fn} {G : List MP.D} {Wf : Nat}
/-- the outside's call of such a law -/
theorem call_R {k fL : Nat} {fn : MP.Fn} {x : Str} {fa a : Addr} {fd : FuncData} {st : Stmt} {N : List Str} {p : Str} {mb : Str → Option Value} {s₁ : Shared} {vs : List Value} {ns : List Int} {pss : List (List Str)} (hf : fns[fL]? = some fn) (d : DefR K mg tb x fn fa fd st N [p]) (T : Txt K mg tb fns G pss cs) (hwo : w = Tbs.w) (hB : ∀ base : Heap, TabsB base mg) (hT : ∀ H : Hp, LamX.Tabs Tbs.l H)
    (hr : Room (3 * (k + 1)) callerA) (L : ∃ h', MP.callF fns G Wf (k + 1) fL [.frz (ns.map .int)] [] = .ok (.bl true) h')
    (KX : K.In s₁.heap) (hns : s₁.heap.Ns mainGlobals mg) (hb : s₁.heap.Ns builtinsNs mb) (hbb : ∀ x : Str, x ≠ "__name__" → mb x = bootBuiltins x) (hlim : s₁.heap.NoLimit) (hg : s₁.gens = #[])
    (ha : s₁.heap.get? a = some { cls := .type "list", data := .seq vs.toArray }) (hi : IntsAre vs ns) (hl : ns.length ≤ sizeLine) :
    codeAny (model P w) callerA (.call (.ref fa) ⟨[.ref a], []⟩) (fun r s' => r = .ok (.ret (.bool true)) ∧ OldK s₁.heap s'.heap ∧ s'.os = s₁.os ∧ AllBare s'.gens) s₁ := by
  obtain ⟨H, hO, hS, hok, hM⟩ := ground_of (P := P) (w := w) KX hns hb hbb hlim ha hi hl
  obtain ⟨y, fu, hbody⟩ := d.fun_
  obtain ⟨oc, od, kV, doc, pm, an, cdv, ct, osl, rfl, lk, hcd⟩ := fu.ex
  have e0 : Env0 P w K mg (hidT s₁.heap H) callerA [] s₁ H := ⟨rfl, hM, fun b o e => of_hidT e, Nat.le_of_eq (hidT_size _ _), trivial, (fun b z => nomatch z), hok, .of_eq hg⟩
  have rv : Vals [V.ref a] [Value.ref a] := .cons rfl .nil
  -- what the law promises of the script
  have sp : spF K cs (MP.callF fns G Wf (k + 1) fL) [p].length [.ref a] H (fun v _ => v = .bl true) fun _ _ _ => False := by
    obtain ⟨h', e⟩ := L
    refine ⟨rfl, ⟨[], []⟩, [], [.frz (ns.map .int)], ⟨rfl, List.nodup_nil, fun n a o e => by simp at e, fun a ha => by simp at ha, hT H⟩, .cons (.frz ?_ (rels_ints ns)) .nil, ?_⟩
    · rcases hS with z | z
      · exact .inl ⟨z, by simp, by simp⟩
      · exact .inr z
    · rw [e]
      intro v m' H' _ _ r
      cases r; rfl
  have room2 : ∀ env : Env, Room (3 * k + 2) (callerA.deeper env) := fun env => Room.deeper (by rw [show 3 * k + 2 + 1 = 3 * (k + 1) by omega]; exact hr) env
  obtain ⟨t, ht, hq⟩ := body_R (A := callerA) (outer := []) (s := s₁) (y := y) (cdv := cdv) hf hbody d.sco d.np d.ns (wld T (hB (hidT s₁.heap H)) hwo k) hwo rfl (room2 _) sp
  have kinds : ∀ z ∈ [p].zip [Value.ref a], (defScope st).names.lookup z.1 = some .local ∨ ((defScope st).names.lookup z.1 = some .cell ∧ ((cellsFrom (s₁.heap.objs.size + 1) (defScope st).names []).lookup z.1).isSome = true) := fun ⟨n, v⟩ hz => by
    rcases d.sco.par n (List.of_mem_zip hz).1 with q | q
    · exact .inl q
    · exact .inr ⟨q, PySem.W.cellsFrom_some _ _ _ (.inl q)⟩
  refine codeAny_mono (R := CR (L2.CX P w) [] P w H s₁ (fun v _ => v = .bl true) fun _ _ _ => False) ?_ fun r s' h => ?_
  · refine codeAny_call_function hr.depth (KX _ _ lk) rfl d.sco.co d.sco.gen rfl (PySem.W.codeRec_of KX hcd) (d.bindS s₁ [.ref a] rfl _ _ _ _ ?_)
    refine wpAny_newFunctionEnv_cells d.sco.kind kinds fun env he s1 q => ?_; subst he
    refine ⟨hlim.keeps q.toInCall.keep, codeAny_func (wpAny_mono (ht.run [] s1 (L2.start N [.ref a]) H _ (inv_start d.sco hr.hd e0 rfl rv q) hq) (fun fl s' hs => ?_) fun e s' hs => hs)⟩
    cases fl with
    | ret u =>
      obtain ⟨v, σ', H', J, r, z⟩ := hs
      exact ⟨v, H', J.os, J.bare, J.base, J.hok, r, z⟩
    | next =>
      obtain ⟨σ', H', J, z⟩ := hs
      cases z
    | brk => obtain ⟨_, _, _, z⟩ := hs; exact False.elim z
    | cont => obtain ⟨_, _, _, z⟩ := hs; exact False.elim z
  · cases r with
    | error e =>
      obtain ⟨_, _, _, _, _, _, _, _, _, _, _, _, z⟩ := h
      exact False.elim z
    | ok fl =>
      cases fl with
      | ret u =>
        obtain ⟨v, H', os, bare, un, hok', r, z⟩ := h
        have z : v = .bl true := z
        subst z
        obtain rfl : u = Value.bool true := r
        refine ⟨rfl, OldK.of_keep fun b o e => ?_, os, bare⟩
        cases g : H b with
        | none => exact un.keep b o e g (fun z => nomatch z) (fun z => nomatch z)
        | some u =>
          rcases hO b with z | ⟨ob, xs, z⟩
          · rw [g] at z; cases z
          · obtain ⟨e1, _⟩ := hok b _ z
            obtain ⟨e2, _⟩ := hok' b _ (un.frzs b ob _ z)
            rw [e] at e1; cases e1
            exact e2
      | next => exact False.elim h
      | brk => exact False.elim h
      | cont => exact False.elim h
end
/-! ### checked -/
section
variable [Tbs]
variable {tb : Tb}
def defBR (tb : Tb) (N ps : List Str) (fn : MP.Fn) (st : Stmt) : Bool :=
  scB N ps (defScope st) && decide (fn.np = ps.length) && decide (fn.ns = N.length) && chkB (chkS tb N 100 50 (defScope st) fbR) fn.body (defBody st)
theorem def_mkR {K : PySem.W.Frag} {h : Heap} {mg : Str → Option Value} {x y : Str} {fn : MP.Fn} {f : Addr} {st : Stmt} {N ps : List Str} {oc : Value} {od an : Option Addr} {osl : Array (Option Value)} {kV doc pm cdv ct : Value} (X : K.In h) (G : h.Ns mainGlobals mg)
    (a1 : PySem.W.nsIn K mainGlobals x = some (some (.ref f))) (l : K.lookup f = some ⟨oc, od, .func (PySem.W.fnOf y y (defArgs st) (defBody st) (defScope st) .none kV doc pm an cdv ct), osl⟩) (c : PySem.W.codeIn K cdv y = true) (k : PySem.W.keepIn K (.ref f) = true)
    (hb : defBR tb N ps fn st = true) (bd : ∀ (kV doc pm : Value) (an : Option Addr) (cdv ct : Value) (us : List Value), us.length = ps.length → bindArgs (PySem.W.fnOf y y (defArgs st) (defBody st) (defScope st) .none kV doc pm an cdv ct) ⟨us, []⟩ = pure (ps.zip us)) :
    ∃ a fd st N, DefR K mg tb x fn a fd st N ps := by
  unfold defBR at hb
  simp only [Bool.and_eq_true, decide_eq_true_eq] at hb
  obtain ⟨⟨⟨h1, h2⟩, h3⟩, h4⟩ := hb
  have F := fun_mk (st := st) l c k
  exact ⟨f, _, st, N, PySem.W.mg_of X G a1, fun s us hl => .of_eq (bd kV doc pm an cdv ct us hl), ⟨_, F, chkB_ok (fun e st z => chkS_ok z) h4⟩, scB_ok h1, h2, h3⟩
def TxtR (K : PySem.W.Frag) (mg : Str → Option Value) (tb : Tb) (fns : List MP.Fn) (G : List MP.D) (pss : List (List Str)) (cs : List Addr) (x : Str) (fn : MP.Fn) (p : Str) : Prop := Txt K mg tb fns G pss cs ∧ ∃ a fd st N, DefR K mg tb x fn a fd st N [p]
end
/-- the end of a law that asks for repr -/
theorem walkR {tb : Tb} {fns : List MP.Fn} {G : List MP.D} {Wf Kk fL : Nat} {l : PySem.W.OpenLaw} {q : Program} {loose : List Str} {XP : (Str → Option Value) → Heap → Prop} {YP : World → Heap → Prop} {d : DefRec} {K : Params → PySem.W.Frag} (hn : l.most = some 63) (hdf : d.params.defaults = []) (hr : Room (3 * Kk) callerA)
    (hY : ∀ (w : World) (h : Heap), YP w h → (K w.params).In h) {fn : MP.Fn} (hfL : fns[fL]? = some fn) {pss : List (List Str)} {p : Str}
    (F : ∀ (w : World) (mg : Str → Option Value) (fa : Addr) (h : Heap), (K w.params).In h → h.Ns mainGlobals mg → mg d.name = some (.ref fa) → ∃ cs, @TxtR (tbs0 w) (K w.params) mg tb fns G pss cs d.name fn p)
    (L : ∀ ns : List Int, ns.length ≤ 63 → ∃ h', MP.callF fns G Wf Kk fL [.frz (ns.map .int)] [] = .ok (.bl true) h') :
    PySem.W.WalkO q loose XP YP l.row.toRowW d [] (fun f vs => PySem.call f vs) := by
  refine Att.attach_call hn hdf fun w s₀ s₁ mg mb fa o pm cd doc a vs ns Gr Y ho hd hcd hmg hobj hints hlen hg => ?_
  have KX := hY w _ Y
  letI : Tbs := tbs0 w
  obtain ⟨cs, T, a', fd, st, N, D⟩ := F w mg fa _ KX Gr.T.g hmg
  have e := D.mg
  rw [hmg] at e; cases e
  cases Kk with
  | zero =>
    obtain ⟨h', z⟩ := L [] (by decide)
    cases z
  | succ k => exact call_R (x := d.name) hfL D T rfl (fun _ z hz => nomatch hz) (fun _ z hz => nomatch hz) hr (L ns hlen) KX Gr.T.g Gr.T.b Gr.T.builtins Gr.T.nolimit hg hobj hints (Nat.le_trans hlen (by decide))
end MPS
/-! What every law draws with: its box and _law_take. Plain Lean. -/
namespace DR
open MP
def bBox : S := (.cons (.ret (.lst false (.cons (.con (.int 0)) (.cons (.con (.int 0)) (.cons (.con (.int 0)) (.cons (.lc true (.var 1) .gen (.cons (.var 0) .nil) (.con (.bl true)) (.blt .abs (.cons (.blt .int (.cons (.var 1) .nil)) .nil))) .nil)))))) .nil)
def t1 : S := (.ite (.cmp .eq (.idx (.var 0) (.con (.int 1))) (.con (.int 0)))
 (.cons (.asg (.var 2) (.idx (.var 0) (.con (.int 2))))
 (.cons (.asg (.var 3) (.con (.int 0)))
 (.cons (.ite (.cmp .lt (.var 2) (.blt .len (.cons (.idx (.var 0) (.con (.int 3))) .nil)))
 (.cons (.asg (.var 3) (.idx (.idx (.var 0) (.con (.int 3))) (.var 2)))
 (.cons (.asg (.idx (.var 0) (.con (.int 1))) (.ite (.cmp .ge (.var 3) (.bin .pow (.con (.int 10)) (.con (.int 18)))) (.con (.int 60)) (.neg (.con (.int 9)))))
 .nil))
 .nil)
 (.cons (.asg (.idx (.var 0) (.con (.int 2))) (.bin (.add true) (.var 2) (.con (.int 1))))
 (.cons (.asg (.idx (.var 0) (.con (.int 0))) (.var 3))
 (.cons (.ite (.cmp .eq (.idx (.var 0) (.con (.int 1))) (.con (.int 0)))
 (.cons (.ret (.con (.int 0)))
 .nil)
 .nil)
 .nil))))))
 .nil)
def t2 : S := (.ite (.cmp .gt (.idx (.var 0) (.con (.int 1))) (.con (.int 0)))
 (.cons (.asg (.var 4) (.bin .mod (.blt .int (.cons (.idx (.var 0) (.con (.int 0))) .nil)) (.var 1)))
 (.cons (.asg (.idx (.var 0) (.con (.int 0))) (.bin .fdiv (.idx (.var 0) (.con (.int 0))) (.var 1)))
 (.cons (.asg (.idx (.var 0) (.con (.int 1))) (.ite (.cmp .gt (.idx (.var 0) (.con (.int 0))) (.con (.int 0))) (.bin .sub (.idx (.var 0) (.con (.int 1))) (.con (.int 1))) (.con (.int 0))))
 (.cons (.ret (.var 4))
 .nil))))
 .nil)
def t3 : S := (.cons (.asg (.idx (.var 0) (.con (.int 1))) (.bin (.add true) (.idx (.var 0) (.con (.int 1))) (.con (.int 1))))
 (.cons (.asg (.idx (.var 0) (.con (.int 0))) (.bin .mod (.blt .int (.cons (.bin (.add true) (.bin (.mul true) (.idx (.var 0) (.con (.int 0))) (.con (.int 48271))) (.bin (.mul true) (.con (.int 69621)) (.bin (.add true) (.idx (.var 0) (.con (.int 1))) (.con (.int 20))))) .nil)) (.con (.int 2147483647))))
 (.cons (.ret (.bin .mod (.bin .mod (.blt .int (.cons (.bin (.add true) (.bin .fdiv (.idx (.var 0) (.con (.int 0))) (.con (.int 7))) (.idx (.var 0) (.con (.int 0)))) .nil)) (.con (.int 1000003))) (.var 1)))
 .nil)))
def bTake : S := .cons t1 (.cons t2 t3)
/-- the heap with the box at b -/
def B (h : Heap) (b : Nat) (v st a : Int) (L : D) : Heap := h.set b (.lst [.int v, .int st, .int a, L])
section
variable {Φ : Nat → List D → Heap → R D} {G : List D} {W : Nat} {h : Heap} {b : Nat} {v st a : Int} {L : D} {env : Env}
theorem B_get (hb : b < h.length) : (B h b v st a L)[b]? = some (.lst [.int v, .int st, .int a, L]) := by unfold B; rw [List.getElem?_set_self hb]
theorem bind_ok {α β : Type} (x : α) (h : Heap) (f : α → Heap → R β) : (R.ok x h).bind f = f x h := rfl
theorem var0 (x : Nat) (r : Env) (h : Heap) : eE Φ G (.var 0) (.ref x :: r) h = .ok (.ref x) h := rfl
theorem var1 (x : D) (m : Int) (r : Env) (h : Heap) : eE Φ G (.var 1) (x :: .int m :: r) h = .ok (.int m) h := rfl
theorem var2 (x y : D) (m : Int) (r : Env) (h : Heap) : eE Φ G (.var 2) (x :: y :: .int m :: r) h = .ok (.int m) h := rfl
theorem var3 (x y z : D) (m : Int) (r : Env) (h : Heap) : eE Φ G (.var 3) (x :: y :: z :: .int m :: r) h = .ok (.int m) h := rfl
theorem var4 (x y z u : D) (m : Int) (r : Env) (h : Heap) : eE Φ G (.var 4) (x :: y :: z :: u :: .int m :: r) h = .ok (.int m) h := rfl
theorem ix (hb : b < h.length) (i : Int) (d : D) (e : atI [D.int v, .int st, .int a, L] i = some d) : eE Φ G (.idx (.var 0) (.con (.int i))) (.ref b :: env) (B h b v st a L) = .ok d (B h b v st a L) := by
  have e' : opI (.ref b) (.int i) (B h b v st a L) = some d := by
    unfold opI
    simp only [B_get hb, e]
  rw [eE_idx, var0, bind_ok, eE_con, bind_ok, opJ_of e']
  rfl
theorem ix0 (hb : b < h.length) : eE Φ G (.idx (.var 0) (.con (.int 0))) (.ref b :: env) (B h b v st a L) = .ok (.int v) (B h b v st a L) := ix hb 0 _ rfl
theorem ix1 (hb : b < h.length) : eE Φ G (.idx (.var 0) (.con (.int 1))) (.ref b :: env) (B h b v st a L) = .ok (.int st) (B h b v st a L) := ix hb 1 _ rfl
theorem ix2 (hb : b < h.length) : eE Φ G (.idx (.var 0) (.con (.int 2))) (.ref b :: env) (B h b v st a L) = .ok (.int a) (B h b v st a L) := ix hb 2 _ rfl
theorem ix3 (hb : b < h.length) : eE Φ G (.idx (.var 0) (.con (.int 3))) (.ref b :: env) (B h b v st a L) = .ok L (B h b v st a L) := ix hb 3 _ rfl
theorem put (hb : b < h.length) (i : Int) (k : Nat) (d : D) (e : ixN 4 i = some k) : setT Φ G (.idx (.var 0) (.con (.int i))) d (.ref b :: env) (B h b v st a L) = .ok (.ref b :: env) (h.set b (.lst ([D.int v, D.int st, D.int a, L].set k d))) := by
  have e' : setL (.ref b) (.int i) d (B h b v st a L) = .ok () (setO (B h b v st a L) b ([D.int v, D.int st, D.int a, L].set k d)) := by
    unfold setL
    simp only [B_get hb]
    have : ixN [D.int v, D.int st, D.int a, L].length i = some k := e
    rw [this]
  unfold setT
  simp only [var0, eE_con, bind_ok]
  rw [setJ_of e', bind_ok]
  show R.ok _ (setO (B h b v st a L) b _) = _
  unfold setO B
  rw [List.set_set]
theorem put0 (hb : b < h.length) (x : Int) : setT Φ G (.idx (.var 0) (.con (.int 0))) (.int x) (.ref b :: env) (B h b v st a L) = .ok (.ref b :: env) (B h b x st a L) := put hb 0 0 _ rfl
theorem put1 (hb : b < h.length) (x : Int) : setT Φ G (.idx (.var 0) (.con (.int 1))) (.int x) (.ref b :: env) (B h b v st a L) = .ok (.ref b :: env) (B h b v x a L) := put hb 1 1 _ rfl
theorem put2 (hb : b < h.length) (x : Int) : setT Φ G (.idx (.var 0) (.con (.int 2))) (.int x) (.ref b :: env) (B h b v st a L) = .ok (.ref b :: env) (B h b v st x L) := put hb 2 2 _ rfl
theorem mul1 (x : Int) (h : Heap) : opB (.mul true) (.int x) (.int 48271) h = .ok (.int (x * 48271)) h := by
  have : mulOk x 48271 = true := by unfold mulOk; rw [show smallI 48271 = true from by decide]; simp
  unfold opB
  simp only [this, if_true]
theorem mul2 (x : Int) (h : Heap) : opB (.mul true) (.int 69621) (.int x) h = .ok (.int (69621 * x)) h := by
  have : mulOk 69621 x = true := by unfold mulOk; rw [show smallI 69621 = true from by decide]; simp
  unfold opB
  simp only [this, if_true]
theorem mod1 (x m : Int) (h : Heap) (hm : 0 < m) : opB .mod (.int x) (.int m) h = .ok (.int (x % m)) h := by
  show (if 0 < m then _ else _) = _
  rw [if_pos hm]
theorem div1 (x m : Int) (h : Heap) (hm : 0 < m) (h2 : m < 1073741824) : opB .fdiv (.int x) (.int m) h = .ok (.int (x / m)) h := by
  show (if 0 < m ∧ m < 1073741824 then _ else _) = _
  rw [if_pos ⟨hm, h2⟩]
theorem bl1 (e : E) (f : Blt) (env : Env) (h : Heap) : eE Φ G (.blt f (.cons e .nil)) env h = (eE Φ G e env h).bind fun d h1 => opF f [d] h1 := by
  rw [eE_blt, eE_cons]
  cases eE Φ G e env h <;> rfl
theorem add1 (x y : Int) (h : Heap) : opB (.add true) (.int x) (.int y) h = .ok (.int (x + y)) h := rfl
theorem int1 (x : Int) (h : Heap) : opF .int [.int x] h = .ok (.int x) h := rfl
/-- the third part: the numbers behind the cells -/
theorem t3_ok (hb : b < h.length) {m : Int} (hm : 0 < m) {d2 d3 d4 : D} : ∃ t v' st', eS Φ G W t3 [.ref b, .int m, d2, d3, d4] (B h b v st a L) = .ok (.ret (.int t)) (B h b v' st' a L) ∧ 0 ≤ t ∧ t < m ∧ 0 ≤ v' := by
  have e : eS Φ G W t3 [.ref b, .int m, d2, d3, d4] (B h b v st a L) = .ok (.ret (.int ((((v * 48271 + 69621 * (st + 1 + 20)) % 2147483647 / 7 + (v * 48271 + 69621 * (st + 1 + 20)) % 2147483647) % 1000003) % m))) (B h b ((v * 48271 + 69621 * (st + 1 + 20)) % 2147483647) (st + 1) a L) := by
    unfold t3
    simp only [eS_cons, eS_asg, eS_ret, eE_bin, bl1, ix0 hb, ix1 hb, ix2 hb, var1, eE_con, bind_ok, put0 hb, put1 hb, put2 hb, mul1, mul2, add1, int1, mod1 _ _ _ (show (0 : Int) < 2147483647 by decide), mod1 _ _ _ (show (0 : Int) < 1000003 by decide), mod1 _ _ _ hm, div1 _ 7 _ (by decide) (by decide)]
  exact ⟨_, _, _, e, Int.emod_nonneg _ (by omega), Int.emod_lt_of_pos _ hm, Int.emod_nonneg _ (by decide)⟩
theorem gt1 (x y : Int) (h : Heap) : opC .gt (.int x) (.int y) h = some (decide (y < x)) := rfl
theorem lt1 (x y : Int) (h : Heap) : opC .lt (.int x) (.int y) h = some (decide (x < y)) := rfl
theorem ge1 (x y : Int) (h : Heap) : opC .ge (.int x) (.int y) h = some (decide (y ≤ x)) := rfl
theorem eq1 (x y : Int) (h : Heap) : opC .eq (.int x) (.int y) h = some (x == y) := rfl
theorem sub1 (x y : Int) (h : Heap) : opB .sub (.int x) (.int y) h = .ok (.int (x - y)) h := rfl
theorem tru1 (k : Bool) (h : Heap) : tru (.bl k) h = .ok k h := rfl
theorem opt1 {α : Type} (x : α) (h : Heap) : R.opt h (some x) = .ok x h := rfl
theorem nxt1 (r : S) (env env' : Env) (h h' : Heap) : (match Fl.nxt env' with | .nxt env' => eS Φ G W r env' h' | f => .ok f h') = eS Φ G W r env' h' := rfl
theorem sv2 (d x y z u w : D) (h : Heap) : setT Φ G (.var 2) d [x, y, z, u, w] h = .ok [x, y, d, u, w] h := rfl
theorem sv3 (d x y z u w : D) (h : Heap) : setT Φ G (.var 3) d [x, y, z, u, w] h = .ok [x, y, z, d, w] h := rfl
theorem sv4 (d x y z u w : D) (h : Heap) : setT Φ G (.var 4) d [x, y, z, u, w] h = .ok [x, y, z, u, d] h := rfl
/-- the second part: the places of a great cell -/
theorem t2_ok (hb : b < h.length) {m : Int} (hm : 0 < m) (hm2 : m < 1073741824) (hv : 0 ≤ v) {d2 d3 d4 : D} :
    (st ≤ 0 ∧ eS Φ G W t2 [.ref b, .int m, d2, d3, d4] (B h b v st a L) = .ok (.nxt [.ref b, .int m, d2, d3, d4]) (B h b v st a L)) ∨
    ∃ t v' st', eS Φ G W t2 [.ref b, .int m, d2, d3, d4] (B h b v st a L) = .ok (.ret (.int t)) (B h b v' st' a L) ∧ 0 ≤ t ∧ t < m ∧ 0 ≤ v' := by
  unfold t2
  by_cases hs : 0 < st
  · right
    have hv' : 0 ≤ v / m := Int.ediv_nonneg hv (by omega)
    by_cases hq : 0 < v / m
    · refine ⟨v % m, v / m, st - 1, ?_, Int.emod_nonneg _ (by omega), Int.emod_lt_of_pos _ hm, hv'⟩
      simp only [eS_ite, eS_cons, eS_asg, eS_ret, eE_cmp, eE_ite, eE_bin, bl1, ix0 hb, ix1 hb, ix2 hb, var1, var4, eE_con, bind_ok, opt1, tru1, opK_gt, gt1, hs, decide_true, if_true, int1, mod1 _ _ _ hm, div1 _ _ _ hm hm2, put0 hb, put1 hb, hq, sub1, sv4]
    · refine ⟨v % m, v / m, 0, ?_, Int.emod_nonneg _ (by omega), Int.emod_lt_of_pos _ hm, hv'⟩
      simp only [eS_ite, eS_cons, eS_asg, eS_ret, eE_cmp, eE_ite, eE_bin, bl1, ix0 hb, ix1 hb, ix2 hb, var1, var4, eE_con, bind_ok, opt1, tru1, opK_gt, gt1, hs, decide_true, decide_false, Bool.false_eq_true, if_false, if_true, int1, mod1 _ _ _ hm, div1 _ _ _ hm hm2, put0 hb, put1 hb, hq, sub1, sv4]
  · left
    refine ⟨by omega, ?_⟩
    simp only [eS_ite, eS_nil, eE_cmp, eE_bin, ix1 hb, eE_con, bind_ok, opt1, tru1, opK_gt, gt1, hs, decide_false, Bool.false_eq_true, if_false]
theorem pow1 (h : Heap) : opB .pow (.int 10) (.int 18) h = .ok (.int 1000000000000000000) h := by
  show (if (0 : Int) ≤ 18 ∧ (18 : Int) ≤ 1000 ∧ (10 : Int).natAbs < 18446744073709551616 then R.ok (D.int (10 ^ (18 : Int).toNat)) h else .bad) = _
  rw [if_pos (by decide)]
  rfl
theorem len1 (xs : List D) (h : Heap) : opF .len [.lst xs] h = .ok (.int xs.length) h := rfl
theorem neg9 (env : Env) (h : Heap) : eE Φ G (.neg (.con (.int 9))) env h = .ok (.int (-9)) h := rfl
theorem cell_get {cells : List Int} {i : Int} (h0 : 0 ≤ i) (h1 : i < ((cells.map D.int).length : Int)) : ∃ c, c ∈ cells ∧ opI (.lst (cells.map .int)) (.int i) h = some (.int c) := by
  rw [List.length_map] at h1
  refine ⟨cells[i.toNat]'(by omega), List.getElem_mem _, ?_⟩
  show atI (cells.map D.int) i = _
  unfold atI ixN
  rw [List.length_map, if_pos h0, if_pos h1]
  show (cells.map D.int)[i.toNat]? = _
  rw [List.getElem?_map, List.getElem?_eq_getElem (by omega)]
  rfl
/-- the first part: the next cell -/
theorem t1_ok (hb : b < h.length) {m : Int} {cells : List Int} (hc : ∀ c ∈ cells, 0 ≤ c) (hv : 0 ≤ v) (ha : 0 ≤ a) {d2 d3 d4 : D} :
    (∃ v' st' a', eS Φ G W t1 [.ref b, .int m, d2, d3, d4] (B h b v st a (.lst (cells.map .int))) = .ok (.ret (.int 0)) (B h b v' st' a' (.lst (cells.map .int))) ∧ 0 ≤ v' ∧ 0 ≤ a') ∨
    ∃ d2' d3' v' st' a', eS Φ G W t1 [.ref b, .int m, d2, d3, d4] (B h b v st a (.lst (cells.map .int))) = .ok (.nxt [.ref b, .int m, d2', d3', d4]) (B h b v' st' a' (.lst (cells.map .int))) ∧ 0 ≤ v' ∧ 0 ≤ a' := by
  unfold t1
  by_cases hs : st = 0
  · have hs' : (st == 0) = true := by simpa using hs
    by_cases hlt : a < ((cells.map D.int).length : Int)
    · right
      obtain ⟨c, hcm, hg⟩ := cell_get (h := B h b v st a (.lst (cells.map .int))) ha hlt
      have hg' : ∀ env, eE Φ G (.idx (.idx (.var 0) (.con (.int 3))) (.var 2)) (.ref b :: .int m :: .int a :: env) (B h b v st a (.lst (cells.map .int))) = .ok (.int c) (B h b v st a (.lst (cells.map .int))) := fun env => by
        rw [eE_idx]
        simp only [ix3 hb, bind_ok, var2, opJ_of hg, opt1]
      by_cases hbig : (1000000000000000000 : Int) ≤ c
      · refine ⟨.int a, .int c, c, 60, a + 1, ?_, hc c hcm, by omega⟩
        simp only [eS_ite, eS_cons, eS_nil, eS_asg, eS_ret, eE_cmp, eE_ite, eE_bin, bl1, hg', ix0 hb, ix1 hb, ix2 hb, ix3 hb, var1, var2, var3, eE_con, bind_ok, opt1, tru1, opK_eq, eq1, opK_lt, lt1, opK_ge, ge1, hs', hlt, hbig, decide_true, if_true, len1, put0 hb, put1 hb, put2 hb, sv2, sv3, add1, pow1, neg9]
        rfl
      · refine ⟨.int a, .int c, c, -9, a + 1, ?_, hc c hcm, by omega⟩
        simp only [eS_ite, eS_cons, eS_nil, eS_asg, eS_ret, eE_cmp, eE_ite, eE_bin, bl1, hg', ix0 hb, ix1 hb, ix2 hb, ix3 hb, var1, var2, var3, eE_con, bind_ok, opt1, tru1, opK_eq, eq1, opK_lt, lt1, opK_ge, ge1, hs', hlt, hbig, decide_true, decide_false, Bool.false_eq_true, if_false, if_true, len1, put0 hb, put1 hb, put2 hb, sv2, sv3, add1, pow1, neg9]
        rfl
    · left
      refine ⟨0, st, a + 1, ?_, by omega, by omega⟩
      simp only [eS_ite, eS_cons, eS_nil, eS_asg, eS_ret, eE_cmp, eE_ite, eE_bin, bl1, ix0 hb, ix1 hb, ix2 hb, ix3 hb, var1, var2, var3, eE_con, bind_ok, opt1, tru1, opK_eq, eq1, opK_lt, lt1, opK_ge, ge1, hs', hlt, decide_true, decide_false, Bool.false_eq_true, if_false, if_true, len1, put0 hb, put1 hb, put2 hb, sv2, sv3, add1]
  · right
    have hs' : (st == 0) = false := by simpa using hs
    refine ⟨d2, d3, v, st, a, ?_, hv, ha⟩
    simp only [eS_ite, eS_nil, eE_cmp, ix1 hb, eE_con, bind_ok, opt1, tru1, opK_eq, eq1, hs', Bool.false_eq_true, if_false]
/-- a number below m is drawn -/
theorem take_body (hb : b < h.length) {m : Int} (hm : 0 < m) (hm2 : m < 1073741824) {cells : List Int} (hc : ∀ c ∈ cells, 0 ≤ c) (hv : 0 ≤ v) (ha : 0 ≤ a) {d2 d3 d4 : D} :
    ∃ t v' st' a', eS Φ G W bTake [.ref b, .int m, d2, d3, d4] (B h b v st a (.lst (cells.map .int))) = .ok (.ret (.int t)) (B h b v' st' a' (.lst (cells.map .int))) ∧ 0 ≤ t ∧ t < m ∧ 0 ≤ v' ∧ 0 ≤ a' := by
  unfold bTake
  rcases t1_ok (Φ := Φ) (G := G) (W := W) (st := st) (m := m) (d2 := d2) (d3 := d3) (d4 := d4) hb hc hv ha with ⟨v', st', a', e, h1, h2⟩ | ⟨d2', d3', v1, st1, a1, e, h1, h2⟩
  · exact ⟨0, v', st', a', by rw [eS_cons, e]; rfl, by omega, hm, h1, h2⟩
  · rw [eS_cons, e]
    rcases t2_ok (Φ := Φ) (G := G) (W := W) (st := st1) (a := a1) (L := .lst (cells.map .int)) (d2 := d2') (d3 := d3') (d4 := d4) hb hm hm2 h1 with ⟨_, e2⟩ | ⟨t, v2, st2, e2, q1, q2, q3⟩
    · obtain ⟨t, v3, st3, e3, q1, q2, q3⟩ := t3_ok (Φ := Φ) (G := G) (W := W) (v := v1) (st := st1) (a := a1) (L := .lst (cells.map .int)) (d2 := d2') (d3 := d3') (d4 := d4) hb hm
      refine ⟨t, v3, st3, a1, ?_, q1, q2, q3, h2⟩
      show eS Φ G W (.cons t2 t3) _ _ = _
      rw [eS_cons, e2]
      exact e3
    · refine ⟨t, v2, st2, a1, ?_, q1, q2, q3, h2⟩
      show eS Φ G W (.cons t2 t3) _ _ = _
      rw [eS_cons, e2]
      rfl
end
end DR
namespace DR
open MP
section
variable {fns : List Fn} {G : List D} {W : Nat}
theorem call_eq {k f : Nat} {fn : Fn} (hf : fns[f]? = some fn) {ds : List D} (hl : ds.length = fn.np) (h : Heap) : callF fns G W (k + 1) f ds h = back h.length (eS (callF fns G W k) G W fn.body (ds ++ List.replicate (fn.ns - fn.np) .und) h) := by
  show (match fns[f]? with | none => _ | some fn => _) = _
  rw [hf]
  show (if ds.length = fn.np then _ else _) = _
  rw [if_pos hl]
/-- a result without a place, a heap of the same length -/
theorem back_same {n : Nat} {d : D} {h : Heap} (hd : d.low n = true) (hn : h.length = n) : back n (.ok (.ret d) h) = .ok d h := by
  show (if _ then _ else _) = _
  split
  · rw [← hn, List.take_length]
  · rfl
theorem back_non {n : Nat} {env : Env} {h : Heap} (hn : h.length = n) : back n (.ok (.nxt env) h) = .ok .non h := by
  show R.ok D.non (trim n h) = _
  unfold trim
  split
  · rw [← hn, List.take_length]
  · rfl
theorem B_len {h : Heap} {b : Nat} {v st a : Int} {L : D} : (B h b v st a L).length = h.length := by unfold B; rw [List.length_set]
/-- the box at b, as it stands between draws -/
def Box (h : Heap) (b : Nat) (cells : List Int) : Prop := b < h.length ∧ ∃ v st a : Int, h[b]? = some (.lst [.int v, .int st, .int a, .lst (cells.map .int)]) ∧ 0 ≤ v ∧ 0 ≤ a ∧ ∀ c ∈ cells, 0 ≤ c
theorem B_self {h : Heap} {b : Nat} {v st a : Int} {L : D} (e : h[b]? = some (.lst [.int v, .int st, .int a, L])) : B h b v st a L = h := by
  unfold B
  apply List.ext_getElem?
  intro i
  by_cases hi : b = i
  · subst hi
    have hl : b < h.length := (List.getElem?_eq_some_iff.mp e).1
    rw [List.getElem?_set_self hl, e]
  · rw [List.getElem?_set_ne hi]
/-- a draw: only the box changes -/
theorem take_call {k f : Nat} (hf : fns[f]? = some ⟨2, 5, bTake⟩) {h : Heap} {b : Nat} {cells : List Int} (hB : Box h b cells) {m : Int} (hm : 0 < m) (hm2 : m < 1073741824) :
    ∃ t o, callF fns G W (k + 1) f [.ref b, .int m] h = .ok (.int t) (h.set b o) ∧ 0 ≤ t ∧ t < m ∧ Box (h.set b o) b cells := by
  obtain ⟨hb, v, st, a, e, hv, ha, hc⟩ := hB
  obtain ⟨t, v', st', a', e2, h1, h2, h3, h4⟩ := take_body (Φ := callF fns G W k) (G := G) (W := W) (st := st) hb hm hm2 hc hv ha (d2 := .und) (d3 := .und) (d4 := .und)
  refine ⟨t, .lst [.int v', .int st', .int a', .lst (cells.map .int)], ?_, h1, h2, ?_⟩
  · rw [call_eq hf rfl]
    rw [B_self e] at e2
    show back h.length (eS (callF fns G W k) G W bTake [.ref b, .int m, .und, .und, .und] h) = _
    rw [e2]
    exact back_same rfl B_len
  · exact ⟨by rw [List.length_set]; exact hb, v', st', a', by rw [List.getElem?_set_self hb], h3, h4, hc⟩
theorem abs1 (x : Int) (h : Heap) : opF .abs [.int x] h = .ok (.int (if x < 0 then -x else x)) h := rfl
theorem box_comp {Φ : Nat → List D → Heap → R D} {x0 : D} {h : Heap} : ∀ xs : List Int, compL (turnL Φ G (.var 1) (.con (.bl true)) (.blt .abs (.cons (.blt .int (.cons (.var 1) .nil)) .nil)) [x0, .und]) [] (xs.map .int) h = .ok ((xs.map fun x => if x < 0 then -x else x).map .int) h
  | [] => rfl
  | x :: xs => by
    have ih := box_comp (Φ := Φ) (x0 := x0) (h := h) xs
    have e : turnL Φ G (.var 1) (.con (.bl true)) (.blt .abs (.cons (.blt .int (.cons (.var 1) .nil)) .nil)) [x0, .und] (.int x) h = .ok (some (.int (if x < 0 then -x else x))) h := by
      show (((eE Φ G (.con (.bl true)) [x0, .int x] h).bind tru).calm.bind fun b h => if b then (eE Φ G (.blt .abs (.cons (.blt .int (.cons (.var 1) .nil)) .nil)) [x0, .int x] h).calm.bind fun y h => .ok (some y) h else .ok none h) = _
      simp only [bl1, var1, eE_con, bind_ok, int1, abs1, tru1, R.calm, if_true]
    rw [List.map_cons, List.map_cons, List.map_cons]
    show (if gdOk h [] then _ else _) = _
    rw [if_pos (show gdOk h [] = true from rfl), e, bind_ok, ih, bind_ok]
/-- the box made -/
theorem box_call {k f : Nat} (hf : fns[f]? = some ⟨1, 2, bBox⟩) {xs : List Int} (hl : xs.length ≤ 63) : ∃ h cells, callF fns G W (k + 1) f [.frz (xs.map .int)] [] = .ok (.ref 0) h ∧ h.length = 1 ∧ Box h 0 cells := by
  refine ⟨[.lst [.int 0, .int 0, .int 0, .lst ((xs.map fun x => if x < 0 then -x else x).map .int)]], xs.map fun x => if x < 0 then -x else x, ?_, rfl, Nat.zero_lt_one, 0, 0, 0, rfl, by decide, by decide, fun c hc => ?_⟩
  · rw [call_eq hf rfl]
    show back 0 (eS (callF fns G W k) G W bBox [.frz (xs.map .int), .und] []) = _
    have e : eE (callF fns G W k) G (.lc true (.var 1) .gen (.cons (.var 0) .nil) (.con (.bl true)) (.blt .abs (.cons (.blt .int (.cons (.var 1) .nil)) .nil))) [.frz (xs.map .int), .und] [] = .ok (.lst ((xs.map fun x => if x < 0 then -x else x).map .int)) [] := by
      rw [eE_lc]
      show (compL (turnL (callF fns G W k) G (.var 1) (.con (.bl true)) (.blt .abs (.cons (.blt .int (.cons (.var 1) .nil)) .nil)) [.frz (xs.map .int), .und]) [] (xs.map .int) []).bind (fun ys h2 => newL true ys h2) = _
      rw [box_comp, bind_ok]
      unfold newL
      rw [if_pos (by simp only [List.length_map]; exact Nat.le_trans hl (by decide))]
      rfl
    have e2 : eS (callF fns G W k) G W bBox [.frz (xs.map .int), .und] [] = .ok (.ret (.ref 0)) [.lst [.int 0, .int 0, .int 0, .lst ((xs.map fun x => if x < 0 then -x else x).map .int)]] := by
      unfold bBox
      simp only [eS_cons, eS_ret, eE_lst, eE_cons, eE_con, eE_nil, e, bind_ok]
      rfl
    rw [e2]
    rfl
  · rw [List.mem_map] at hc
    obtain ⟨x, _, rfl⟩ := hc
    split <;> omega
end
end DR
namespace DR
open MP
variable {Φ : Nat → List D → Heap → R D} {G : List D} {W : Nat} {env env' : Env} {h h1 : Heap} {d : D} {r : S}
theorem nxtc {s : S} (e1 : eS Φ G W s env h = .ok (.nxt env') h1) : eS Φ G W (.cons s r) env h = eS Φ G W r env' h1 := by rw [eS_cons, e1, bind_ok]
theorem asgc {t e : E} (e1 : eE Φ G e env h = .ok d h1) (e2 : setT Φ G t d env h1 = .ok env' h1) : eS Φ G W (.cons (.asg t e) r) env h = eS Φ G W r env' h1 :=
  nxtc (by rw [eS_asg, e1, bind_ok, e2, bind_ok])
theorem expc {e : E} (e1 : eE Φ G e env h = .ok d h1) : eS Φ G W (.cons (.exp e) r) env h = eS Φ G W r env h1 :=
  nxtc (by rw [eS_exp, e1, bind_ok])
theorem retc {e : E} (e1 : eE Φ G e env h = .ok d h1) : eS Φ G W (.cons (.ret e) r) env h = .ok (.ret d) h1 := by rw [eS_cons, eS_ret, e1, bind_ok, bind_ok]
theorem itef {c : E} {a : S} (e1 : eE Φ G c env h = .ok (.bl false) h1) : eS Φ G W (.cons (.ite c a .nil) r) env h = eS Φ G W r env h1 :=
  nxtc (by rw [eS_ite, e1, bind_ok, tru1, bind_ok]; rfl)
theorem itet {c : E} {a b : S} (e1 : eE Φ G c env h = .ok (.bl true) h1) {f : Fl} {h2 : Heap} (e2 : eS Φ G W a env h1 = .ok f h2) : eS Φ G W (.ite c a b) env h = .ok f h2 := by
  rw [eS_ite, e1, bind_ok, tru1, bind_ok, if_pos rfl, e2]
theorem iteff {c : E} {a b : S} (e1 : eE Φ G c env h = .ok (.bl false) h1) {f : Fl} {h2 : Heap} (e2 : eS Φ G W b env h1 = .ok f h2) : eS Φ G W (.ite c a b) env h = .ok f h2 := by
  rw [eS_ite, e1, bind_ok, tru1, bind_ok, if_neg (by decide), e2]
/-- arguments -/
theorem ar0 : eE Φ G .nil env h = .ok (.tup []) h := rfl
theorem ar1 {a : E} (e1 : eE Φ G a env h = .ok d h1) : eE Φ G (.cons a .nil) env h = .ok (.tup [d]) h1 := by rw [eE_cons, e1, bind_ok]; rfl
theorem arc {a r : E} {ds : List D} {h2 : Heap} (e1 : eE Φ G a env h = .ok d h1) (e2 : eE Φ G r env h1 = .ok (.tup ds) h2) : eE Φ G (.cons a r) env h = .ok (.tup (d :: ds)) h2 := by rw [eE_cons, e1, bind_ok, e2]; rfl
theorem callc {f : Nat} {es : E} {ds : List D} {x : D} {h2 : Heap} (e1 : eE Φ G es env h = .ok (.tup ds) h1) (e2 : Φ f ds h1 = .ok x h2) : eE Φ G (.call f es) env h = .ok x h2 := by rw [eE_call, e1, bind_ok]; exact e2
theorem bltc {f : Blt} {es : E} {ds : List D} {x : D} {h2 : Heap} (e1 : eE Φ G es env h = .ok (.tup ds) h1) (e2 : opF f ds h1 = .ok x h2) : eE Φ G (.blt f es) env h = .ok x h2 := by rw [eE_blt, e1, bind_ok]; exact e2
theorem idxc {a b : E} {x y z : D} {h2 : Heap} (e1 : eE Φ G a env h = .ok x h1) (e2 : eE Φ G b env h1 = .ok y h2) (e3 : opI x y h2 = some z) : eE Φ G (.idx a b) env h = .ok z h2 := by rw [eE_idx, e1, bind_ok, e2, bind_ok, opJ_of e3, opt1]
theorem cmpc {o : COp} {a b : E} {x y : D} {k : Bool} {h2 : Heap} (e1 : eE Φ G a env h = .ok x h1) (e2 : eE Φ G b env h1 = .ok y h2) (e3 : opC o x y h2 = some k) : eE Φ G (.cmp o a b) env h = .ok (.bl k) h2 := by rw [eE_cmp, e1, bind_ok, e2, bind_ok, opK_of e3, opt1, bind_ok]
theorem binc {o : BOp} {a b : E} {x y : D} {h2 : Heap} {z : D} {h3 : Heap} (e1 : eE Φ G a env h = .ok x h1) (e2 : eE Φ G b env h1 = .ok y h2) (e3 : opB o x y h2 = .ok z h3) : eE Φ G (.bin o a b) env h = .ok z h3 := by rw [eE_bin, e1, bind_ok, e2, bind_ok, e3]
theorem or2f {a r : E} {x : D} {h2 : Heap} (e1 : eE Φ G a env h = .ok (.bl false) h1) (e2 : eE Φ G r env h1 = .ok x h2) : eE Φ G (.or2 a r) env h = .ok x h2 := by rw [eE_or2, e1, bind_ok, tru1, bind_ok, if_neg (by decide), e2]
theorem or2t {a r : E} (e1 : eE Φ G a env h = .ok (.bl true) h1) : eE Φ G (.or2 a r) env h = .ok (.bl true) h1 := by rw [eE_or2, e1, bind_ok, tru1, bind_ok, if_pos rfl]
theorem and2t {a r : E} {x : D} {h2 : Heap} (e1 : eE Φ G a env h = .ok (.bl true) h1) (e2 : eE Φ G r env h1 = .ok x h2) : eE Φ G (.and2 a r) env h = .ok x h2 := by rw [eE_and2, e1, bind_ok, tru1, bind_ok, if_pos rfl, e2]
theorem and2f {a r : E} (e1 : eE Φ G a env h = .ok (.bl false) h1) : eE Φ G (.and2 a r) env h = .ok (.bl false) h1 := by rw [eE_and2, e1, bind_ok, tru1, bind_ok, if_neg (by decide)]
theorem onec {a : E} {x : D} {h2 : Heap} (e1 : eE Φ G a env h = .ok x h2) : eE Φ G (.one a) env h = .ok x h2 := by rw [eE_one, e1]
end DR
namespace DR
open MP
variable {Φ : Nat → List D → Heap → R D} {G : List D} {W : Nat} {env env' : Env} {h h1 : Heap} {d : D} {r : S}
theorem compL_map {α : Type} {F : D → Heap → R (Option D)} {f g : α → D} : ∀ {L : List α}, (∀ i ∈ L, F (f i) h = .ok (some (g i)) h) → compL F [] (L.map f) h = .ok (L.map g) h
  | [], _ => by
    show (if gdOk h [] = true then R.ok [] h else .bad) = _
    rw [if_pos (show gdOk h [] = true from rfl)]
    rfl
  | x :: xs, e => by
    show (if gdOk h [] = true then _ else _) = _
    rw [if_pos (show gdOk h [] = true from rfl), e x (by simp), bind_ok, compL_map fun y hy => e y (by simp [hy]), bind_ok]
    rfl
theorem turnT {tg el : E} {x y : D} {h1 : Heap} (b : bindT tg x env = some env') (e : eE Φ G el env' h = .ok y h1) : turnL Φ G tg (.con (.bl true)) el env x h = .ok (some y) h1 := by
  unfold turnL
  rw [b]
  show (((eE Φ G (.con (.bl true)) env' h).bind tru).calm.bind _) = _
  rw [eE_con, bind_ok, tru1]
  show (if true = true then (eE Φ G el env' h).calm.bind fun y h => R.ok (some y) h else .ok none h) = _
  rw [if_pos rfl, e]
  rfl
theorem lcmap {α : Type} {tg ia el : E} {k : ItK} {ds : List D} {L : List α} {f g : α → D} (e1 : eE Φ G ia env h = .ok (.tup ds) h) (e2 : iterOf k ds h = some (L.map f, []))
    (he : ∀ i ∈ L, turnL Φ G tg (.con (.bl true)) el (clr env (tgI tg)) (f i) h = .ok (some (g i)) h) (hn : L.length ≤ SZ) : eE Φ G (.lc true tg k ia (.con (.bl true)) el) env h = .ok (.lst (L.map g)) h := by
  rw [eE_lc, e1, bind_ok]
  have e2' : iterOf k (args (.tup ds)) h = some (L.map f, []) := e2
  rw [e2']
  show R.bind (compL (turnL Φ G tg (.con (.bl true)) el (clr env (tgI tg))) [] (L.map f) h) _ = _
  rw [compL_map he, bind_ok]
  unfold newL
  rw [if_pos (by rw [List.length_map]; exact hn), if_pos rfl]
theorem tuplst (xs : List D) (h : Heap) : opF .tuple [.lst xs] h = .ok (.tup xs) h := rfl
theorem revt (imm : Bool) {a : E} {xs : List D} (e : eE Φ G a env h = .ok (.tup xs) h1) : eE Φ G (.rev imm a) env h = .ok (.tup xs.reverse) h1 := by
  rw [eE_rev, e, bind_ok]; rfl
/-! equality of plain data -/
theorem eqvs_map {α : Type} {f : α → D} : ∀ {L : List α}, (∀ i ∈ L, D.eqv (f i) (f i) = true) → D.eqvs (L.map f) (L.map f) = true
  | [], _ => by rw [List.map_nil, D.eqvs]
  | x :: xs, e => by rw [List.map_cons, D.eqvs, e x (by simp), eqvs_map fun y hy => e y (by simp [hy])]; rfl
theorem flats_map {α : Type} {n : Nat} {f : α → D} : ∀ {L : List α}, (∀ i ∈ L, D.flat n (f i) = true) → D.flats (n + 1) (L.map f) = true
  | [], _ => by rw [List.map_nil, D.flats]
  | x :: xs, e => by rw [List.map_cons, D.flats, e x (by simp), flats_map fun y hy => e y (by simp [hy])]; rfl
theorem eqD_flat {a b : D} (ha : a.flat DEEP = true) (hb : b.flat DEEP = true) : eqD h a b = some (D.eqv a b) := by
  unfold eqD rsvD
  rw [if_pos ha, if_pos hb]
  rfl
/-! a closed call's answer over the hidden heap -/
mutual
def deq : D → D → Bool
  | .int i, .int j => decide (i = j)
  | .bl i, .bl j => i == j
  | .tup xs, .tup ys => deqs xs ys
  | _, _ => false
def deqs : List D → List D → Bool
  | [], [] => true
  | x :: xs, y :: ys => deq x y && deqs xs ys
  | _, _ => false
end
mutual
theorem deq_eq : ∀ {a b : D}, deq a b = true → a = b
  | a, b, e => by
    unfold deq at e
    split at e
    · rw [of_decide_eq_true e]
    · rw [beq_iff_eq.mp e]
    · rw [deqs_eq e]
    · cases e
theorem deqs_eq : ∀ {a b : List D}, deqs a b = true → a = b
  | [], [], _ => rfl
  | x :: xs, y :: ys, e => by
    unfold deqs at e
    rw [Bool.and_eq_true] at e
    rw [deq_eq e.1, deqs_eq e.2]
  | [], _ :: _, e => by unfold deqs at e; cases e
  | _ :: _, [], e => by unfold deqs at e; cases e
end
def isR (r : R D) (d : D) : Bool := match r with
  | .ok x [.hid] => deq x d
  | _ => false
theorem isR_eq {r : R D} {d : D} (e : isR r d = true) : r = .ok d [.hid] := by
  unfold isR at e
  split at e
  · rw [deq_eq e]
  · cases e
end DR
namespace DR
open MP
section
variable {fns : List Fn} {G : List D} {W : Nat} {Φ : Nat → List D → Heap → R D} {env env' : Env} {h h1 h2 : Heap} {d : D} {r : S}
theorem back_eqh {n : Nat} {d : D} {h : Heap} (hn : h.length = n) : MP.back n (.ok (.ret d) h) = .ok d h := by
  show (if _ then _ else _) = _
  split
  · rw [← hn, List.take_length]
  · rfl
theorem back_pref {n : Nat} {d : D} {h h' : Heap} (hn : h.length = n) (hp : h'.take n = h) (hd : d.low n = true) (hl : h.all (Ob.low n) = true) : MP.back n (.ok (.ret d) h') = .ok d h := by
  show (if (d.low n && (h'.take n).all (Ob.low n)) = true then R.ok d (h'.take n) else .ok d h') = R.ok d h
  rw [hp, hd, hl]
  rfl
/-- a def called: its body answers, the heap as before -/
theorem fnc {k f np ns : Nat} {body : S} {ds : List D} (hf : fns[f]? = some ⟨np, ns, body⟩) (hl : ds.length = np) (e : eS (callF fns G W k) G W body (ds ++ List.replicate (ns - np) .und) h = .ok (.ret d) h) : callF fns G W (k + 1) f ds h = .ok d h := by
  rw [call_eq hf hl]
  show MP.back h.length (eS (callF fns G W k) G W body (ds ++ List.replicate (ns - np) .und) h) = _
  rw [e]
  exact back_eqh rfl
/-- its body answers, what it laid is forgotten -/
theorem fncT {k f np ns : Nat} {body : S} {ds : List D} (hf : fns[f]? = some ⟨np, ns, body⟩) (hl : ds.length = np) {t : Heap} (e : eS (callF fns G W k) G W body (ds ++ List.replicate (ns - np) .und) h = .ok (.ret d) (h ++ t)) (hd : d.low h.length = true) (low : h.all (Ob.low h.length) = true) : callF fns G W (k + 1) f ds h = .ok d h := by
  rw [call_eq hf hl]
  show MP.back h.length (eS (callF fns G W k) G W body (ds ++ List.replicate (ns - np) .und) h) = _
  rw [e]
  exact back_pref rfl (by rw [List.take_left']; rfl) hd low
theorem fncN {k f np ns : Nat} {body : S} {ds : List D} (hf : fns[f]? = some ⟨np, ns, body⟩) (hl : ds.length = np) (e : eS (callF fns G W k) G W body (ds ++ List.replicate (ns - np) .und) h = .ok (.nxt env) h) : callF fns G W (k + 1) f ds h = .ok .non h := by
  rw [call_eq hf hl]
  show MP.back h.length (eS (callF fns G W k) G W body (ds ++ List.replicate (ns - np) .und) h) = _
  rw [e]
  show R.ok D.non (trim h.length h) = _
  unfold trim
  split
  · rw [List.take_length]
  · rfl
theorem ntc {a : E} {k : Bool} (e : eE Φ G a env h = .ok (.bl k) h1) : eE Φ G (.nt a) env h = .ok (.bl (!k)) h1 := by rw [eE_nt, e, bind_ok, tru1, bind_ok]
theorem chnc {o p : COp} {a b c : E} {x y z : D} {j : Bool} {h3 : Heap} (e1 : eE Φ G a env h = .ok x h1) (e2 : eE Φ G b env h1 = .ok y h2) (e3 : opC o x y h2 = some true) (e4 : eE Φ G c env h2 = .ok z h3) (e5 : opC p y z h3 = some j) : eE Φ G (.chn o p a b c) env h = .ok (.bl j) h3 := by
  rw [eE_chn, e1, bind_ok, e2, bind_ok, e3, opt1, bind_ok, if_pos rfl, e4, bind_ok, e5, opt1, bind_ok]
theorem chnf {o p : COp} {a b c : E} {x y : D} (e1 : eE Φ G a env h = .ok x h1) (e2 : eE Φ G b env h1 = .ok y h2) (e3 : opC o x y h2 = some false) : eE Φ G (.chn o p a b c) env h = .ok (.bl false) h2 := by
  rw [eE_chn, e1, bind_ok, e2, bind_ok, e3, opt1, bind_ok, if_neg (by decide)]
theorem iteEt {c a b : E} {x : D} (e1 : eE Φ G c env h = .ok (.bl true) h1) (e2 : eE Φ G a env h1 = .ok x h2) : eE Φ G (.ite c a b) env h = .ok x h2 := by rw [eE_ite, e1, bind_ok, tru1, bind_ok, if_pos rfl, e2]
theorem iteEf {c a b : E} {x : D} (e1 : eE Φ G c env h = .ok (.bl false) h1) (e2 : eE Φ G b env h1 = .ok x h2) : eE Φ G (.ite c a b) env h = .ok x h2 := by rw [eE_ite, e1, bind_ok, tru1, bind_ok, if_neg (by decide), e2]
theorem gloc {j : Nat} {d : D} (e : G[j]? = some d) : eE Φ G (.glo j) env h = .ok d h := by rw [eE_glo, e]
/-- a turn with a condition -/
theorem turnC {tg c el : E} {x y : D} {h1 h2 : Heap} (b : bindT tg x env = some env') (ec : eE Φ G c env' h = .ok (.bl true) h1) (e : eE Φ G el env' h1 = .ok y h2) : turnL Φ G tg c el env x h = .ok (some y) h2 := by
  unfold turnL
  rw [b]
  show (((eE Φ G c env' h).bind tru).calm.bind _) = _
  rw [ec, bind_ok, tru1]
  show (if true = true then (eE Φ G el env' h1).calm.bind fun y h => R.ok (some y) h else .ok none h1) = _
  rw [if_pos rfl, e]
  rfl
theorem turnF {tg c el : E} {x : D} {h1 : Heap} (b : bindT tg x env = some env') (ec : eE Φ G c env' h = .ok (.bl false) h1) : turnL Φ G tg c el env x h = .ok none h1 := by
  unfold turnL
  rw [b]
  show (((eE Φ G c env' h).bind tru).calm.bind _) = _
  rw [ec, bind_ok, tru1]
  rfl
/-- a comprehension with a condition, the heap as before -/
theorem compL_fm {α : Type} {F : D → Heap → R (Option D)} {f : α → D} {g : α → Option D} : ∀ {L : List α}, (∀ i ∈ L, F (f i) h = .ok (g i) h) → compL F [] (L.map f) h = .ok (L.filterMap g) h
  | [], _ => by
    show (if gdOk h [] = true then R.ok [] h else .bad) = _
    rw [if_pos (show gdOk h [] = true from rfl)]
    rfl
  | x :: xs, e => by
    show (if gdOk h [] = true then _ else _) = _
    rw [if_pos (show gdOk h [] = true from rfl), e x (by simp), bind_ok, compL_fm fun y hy => e y (by simp [hy]), bind_ok, List.filterMap_cons]
    cases g x <;> rfl
theorem lcfm {α : Type} {tg ia c el : E} {k : ItK} {ds : List D} {L : List α} {f : α → D} {g : α → Option D} (e1 : eE Φ G ia env h = .ok (.tup ds) h) (e2 : iterOf k ds h = some (L.map f, []))
    (he : ∀ i ∈ L, turnL Φ G tg c el (clr env (tgI tg)) (f i) h = .ok (g i) h) (hn : L.length ≤ SZ) : eE Φ G (.lc true tg k ia c el) env h = .ok (.lst (L.filterMap g)) h := by
  rw [eE_lc, e1, bind_ok]
  have e2' : iterOf k (args (.tup ds)) h = some (L.map f, []) := e2
  rw [e2']
  show R.bind (compL (turnL Φ G tg c el (clr env (tgI tg))) [] (L.map f) h) _ = _
  rw [compL_fm he, bind_ok]
  unfold newL
  rw [if_pos (Nat.le_trans (List.length_filterMap_le _ _) hn), if_pos rfl]
theorem bools_map {α : Type} {p : α → Bool} : ∀ L : List α, bools (L.map fun x => .bl (p x)) = some (L.map p)
  | [] => rfl
  | x :: xs => by rw [List.map_cons, bools, bools_map xs]; rfl
theorem all_map {α : Type} {p : α → Bool} (L : List α) (h : Heap) : opF .all [.lst (L.map fun x => .bl (p x))] h = .ok (.bl (L.all p)) h := by
  show ((R.opt h (bools (L.map fun x => .bl (p x)))).bind _) = _
  rw [bools_map, opt1, bind_ok, List.all_map]
  rfl
theorem rangeI0 (n : Nat) : (rangeI 0 (n : Int)).map D.int = (List.range n).map fun (x : Nat) => D.int (x : Int) := by
  unfold rangeI
  rw [List.map_map, show ((n : Int) - 0).toNat = n by omega]
  apply List.map_congr_left
  intro a _
  simp
theorem rng0 {n : Nat} (hn : n ≤ 4096) (h : Heap) : iterOf .rng [.int (n : Int)] h = some ((List.range n).map fun (x : Nat) => D.int (x : Int), []) := by
  have hb : big62 (n : Int) = true := by
    unfold big62
    rw [Bool.and_eq_true]
    exact ⟨decide_eq_true (by omega), decide_eq_true (by omega)⟩
  unfold iterOf
  simp only [hb, if_true, rangeI0]
theorem intsOf_map {α : Type} {f : α → Int} : ∀ L : List α, intsOf (L.map fun x => .int (f x)) = some (L.map f)
  | [] => rfl
  | x :: xs => by rw [List.map_cons, intsOf, intsOf_map xs]; rfl
theorem for1 {t : D → Env → Heap → R Env} {b : Env → Heap → R Fl} {x : D} {xs : List D} {env env1 env2 : Env} {h h1 : Heap} (e1 : t x env h = .ok env1 h) (e2 : b env1 h = .ok (.nxt env2) h1) : forL t b [] (x :: xs) env h = forL t b [] xs env2 h1 := by
  rw [forL]
  rw [if_pos (show gdOk h [] = true from rfl), e1, bind_ok, e2, bind_ok]
theorem for0 {t : D → Env → Heap → R Env} {b : Env → Heap → R Fl} {env : Env} {h : Heap} : forL t b [] [] env h = .ok (.nxt env) h := by
  rw [forL, if_pos (show gdOk h [] = true from rfl)]
/-- a for statement -/
theorem forc {tg ia : E} {k : ItK} {b : S} {ds xs : List D} (e1 : eE Φ G ia env h = .ok (.tup ds) h1) (e2 : iterOf k ds h1 = some (xs, [])) : eS Φ G W (.for tg k ia b) env h = forL (fun x env h => R.opt h (bindT tg x env)) (fun env h => eS Φ G W b env h) [] xs env h1 := by
  rw [eS_for, e1, bind_ok]
  have e2' : iterOf k (args (.tup ds)) h1 = some (xs, []) := e2
  rw [e2']
end
end DR
/-! chips on a net: ties as pairs of points; least action. Plain. -/
namespace Chip
abbrev Cf := Nat → Int
abbrev Ties := List (Nat × Nat)
def near : Ties → Nat → List Nat
  | [], _ => []
  | p :: ts, x => (if p.1 = x then [p.2] else if p.2 = x then [p.1] else []) ++ near ts x
def deg (ts : Ties) (x : Nat) : Int := ((near ts x).length : Nat)
def sl (u : Cf) : List Nat → Int
  | [] => 0
  | x :: xs => u x + sl u xs
def nb (ts : Ties) (u : Cf) (x : Nat) : Int := sl u (near ts x)
/-- behind u firings -/
def aft (ts : Ties) (c u : Cf) : Cf := fun x => c x - deg ts x * u x + nb ts u x
structure Good (n : Nat) (ts : Ties) : Prop where
  two : 2 ≤ n
  inn : ∀ p ∈ ts, p.1 < n ∧ p.2 < n ∧ p.1 ≠ p.2
  tree : ∀ x, 1 ≤ x → x < n → ∃ y, y < x ∧ ((y, x) ∈ ts ∨ (x, y) ∈ ts)
theorem sl_app (u : Cf) : ∀ a b : List Nat, sl u (a ++ b) = sl u a + sl u b
  | [], b => by simp [sl]
  | x :: a, b => by rw [List.cons_append, sl, sl, sl_app u a b]; omega
theorem sl_le {u v : Cf} : ∀ {l : List Nat}, (∀ x ∈ l, u x ≤ v x) → sl u l ≤ sl v l
  | [], _ => Int.le_refl _
  | x :: l, h => by
    have a := h x (by simp)
    have b : sl u l ≤ sl v l := sl_le fun y hy => h y (List.mem_cons_of_mem _ hy)
    rw [sl, sl]; omega
theorem sl_add (u v : Cf) : ∀ l : List Nat, sl (fun x => u x + v x) l = sl u l + sl v l
  | [] => rfl
  | x :: l => by rw [sl, sl, sl, sl_add u v l]; omega
theorem sl_sub (u v : Cf) : ∀ l : List Nat, sl (fun x => u x - v x) l = sl u l - sl v l
  | [] => rfl
  | x :: l => by rw [sl, sl, sl, sl_sub u v l]; omega
theorem sl_eq {u v : Cf} {l : List Nat} (h : ∀ x ∈ l, u x = v x) : sl u l = sl v l :=
  Int.le_antisymm (sl_le fun x hx => Int.le_of_eq (h x hx)) (sl_le fun x hx => Int.le_of_eq (h x hx).symm)
theorem sl_zero : ∀ l : List Nat, sl (fun _ => 0) l = 0
  | [] => rfl
  | x :: l => by rw [sl, sl_zero l]; omega
/-- many at one point -/
def at1 (x : Nat) (m : Int) : Cf := fun y => if y = x then m else 0
theorem sl_at1 (x : Nat) (m : Int) : ∀ l : List Nat, sl (at1 x m) l = m * (l.count x : Nat)
  | [] => by simp [sl]
  | y :: l => by
    rw [sl, sl_at1 x m l, List.count_cons]
    unfold at1
    by_cases h : y = x
    · subst h
      simp only [if_true, beq_self_eq_true]
      rw [show ((l.count y + 1 : Nat) : Int) = (l.count y : Nat) + 1 by omega, Int.mul_add]
      omega
    · simp only [h, if_false, beq_iff_eq]
      rw [show ((l.count x + 0 : Nat) : Int) = (l.count x : Nat) by omega]
      omega
section
variable {n : Nat} {ts : Ties}
theorem near_in (G : ∀ p ∈ ts, p.1 < n ∧ p.2 < n ∧ p.1 ≠ p.2) {x y : Nat} (h : y ∈ near ts x) : y < n ∧ y ≠ x := by
  induction ts with
  | nil => simp [near] at h
  | cons p ts ih =>
    rw [near, List.mem_append] at h
    obtain ⟨h1, h2, h3⟩ := G p (by simp)
    rcases h with h | h
    · split at h
      · rename_i e
        rw [List.mem_singleton] at h
        exact ⟨by omega, by omega⟩
      · split at h
        · rename_i e
          rw [List.mem_singleton] at h
          exact ⟨by omega, by omega⟩
        · simp at h
    · exact ih (fun q hq => G q (by simp [hq])) h
theorem count_one {a b : Nat} (h : a ≠ b) (x y : Nat) : List.count y (if a = x then [b] else if b = x then [a] else []) = List.count x (if a = y then [b] else if b = y then [a] else []) := by
  have z : ∀ p q : Nat, List.count p [q] = if q = p then 1 else 0 := fun p q => by simp [List.count_cons]
  have e : ∀ p x a b : Nat, List.count p (if a = x then [b] else if b = x then [a] else []) = if a = x then (if b = p then 1 else 0) else if b = x then (if a = p then 1 else 0) else 0 := fun p x a b => by
    split
    · exact z _ _
    · split
      · exact z _ _
      · rfl
  rw [e, e]
  split <;> split <;> split <;> (try split) <;> (try split) <;> omega
theorem count_sym (G : ∀ p ∈ ts, p.1 < n ∧ p.2 < n ∧ p.1 ≠ p.2) (x y : Nat) : (near ts x).count y = (near ts y).count x := by
  induction ts with
  | nil => rfl
  | cons p ts ih =>
    rw [near, near, List.count_append, List.count_append, ih fun q hq => G q (by simp [hq]), count_one (G p (by simp)).2.2]
theorem near_mem {a b : Nat} (h : (a, b) ∈ ts) (hab : a ≠ b) : b ∈ near ts a ∧ a ∈ near ts b := by
  induction ts with
  | nil => simp at h
  | cons p ts ih =>
    rw [near, near, List.mem_append, List.mem_append]
    rcases List.mem_cons.mp h with e | e
    · subst e
      exact ⟨.inl (by simp), .inl (by simp [hab])⟩
    · exact ⟨.inr (ih e).1, .inr (ih e).2⟩
theorem Good.deg_pos (G : Good n ts) {x : Nat} (hx : x < n) : 1 ≤ deg ts x := by
  have key : ∃ y, y ∈ near ts x := by
    by_cases h0 : x = 0
    · subst h0
      obtain ⟨y, hy, h⟩ := G.tree 1 (Nat.le_refl 1) G.two
      have : y = 0 := by omega
      subst this
      rcases h with h | h
      · exact ⟨1, (near_mem h (by decide)).1⟩
      · exact ⟨1, (near_mem h (by decide)).2⟩
    · obtain ⟨y, hy, h⟩ := G.tree x (by omega) hx
      rcases h with h | h
      · exact ⟨y, (near_mem h (by omega)).2⟩
      · exact ⟨y, (near_mem h (by omega)).1⟩
  obtain ⟨y, hy⟩ := key
  have := List.length_pos_of_mem hy
  unfold deg
  omega
/-- on the points -/
def On (n : Nat) (p : Nat → Prop) : Prop := ∀ x, x < n → p x
theorem nb_le (G : Good n ts) {u v : Cf} (h : On n fun x => u x ≤ v x) (x : Nat) : nb ts u x ≤ nb ts v x := sl_le fun y hy => h y (near_in G.inn hy).1
theorem nb_on (G : Good n ts) {u v : Cf} (h : On n fun x => u x = v x) (x : Nat) : nb ts u x = nb ts v x := sl_eq fun y hy => h y (near_in G.inn hy).1
theorem nb_add (u v : Cf) (x : Nat) : nb ts (fun x => u x + v x) x = nb ts u x + nb ts v x := sl_add u v _
theorem nb_sub (u v : Cf) (x : Nat) : nb ts (fun x => u x - v x) x = nb ts u x - nb ts v x := sl_sub u v _
theorem aft_on (G : Good n ts) {c d u v : Cf} (hc : On n fun x => c x = d x) (h : On n fun x => u x = v x) : On n fun x => aft ts c u x = aft ts d v x := fun x hx => by
  have a := nb_on G h x
  have b := h x hx
  have e := hc x hx
  have b : u x = v x := b
  have e : c x = d x := e
  show c x - deg ts x * u x + nb ts u x = d x - deg ts x * v x + nb ts v x
  rw [a, b, e]
/-- s firings bring all points but the sink below their ties -/
structure St (n : Nat) (ts : Ties) (k : Nat) (c s : Cf) : Prop where
  pos : On n fun x => 0 ≤ s x
  sink : s k = 0
  rest : On n fun x => x ≠ k → aft ts c s x < deg ts x
def Least (n : Nat) (ts : Ties) (k : Nat) (c t : Cf) : Prop := St n ts k c t ∧ ∀ s, St n ts k c s → On n fun x => t x ≤ s x
theorem St.mono {k : Nat} {c d s : Cf} (h : On n fun x => d x ≤ c x) (a : St n ts k c s) : St n ts k d s :=
  ⟨a.pos, a.sink, fun x hx hk => by have := a.rest x hx hk; have := h x hx; unfold aft at *; omega⟩
theorem Least.uniq {k : Nat} {c s t : Cf} (a : Least n ts k c s) (b : Least n ts k c t) : On n fun x => s x = t x := fun x hx => Int.le_antisymm (a.2 t b.1 x hx) (b.2 s a.1 x hx)
theorem least_step (G : Good n ts) {k : Nat} {c t s : Cf} (hs : St n ts k c s) (ht : On n fun x => t x ≤ s x) {x : Nat} (hx : x < n) (hk : x ≠ k) {many : Int} (h : deg ts x * many ≤ aft ts c t x) : t x + many ≤ s x := by
  have h1 := hs.rest x hx hk
  have h2 := nb_le G ht x
  have dp := G.deg_pos hx
  apply Classical.byContradiction
  intro hn
  have hn : s x - t x ≤ many - 1 := by omega
  have h3 : deg ts x * (s x - t x) ≤ deg ts x * (many - 1) := Int.mul_le_mul_of_nonneg_left hn (by omega)
  rw [Int.mul_sub, Int.mul_sub, Int.mul_one] at h3
  unfold aft at h h1
  omega
/-! ### what is fired in all -/
def sm : Nat → Cf → Int
  | 0, _ => 0
  | n + 1, f => sm n f + f n
theorem sm_add (f g : Cf) : ∀ n, sm n (fun x => f x + g x) = sm n f + sm n g
  | 0 => rfl
  | n + 1 => by rw [sm, sm, sm, sm_add f g n]; omega
theorem sm_le {f g : Cf} : ∀ {n}, (On n fun x => f x ≤ g x) → sm n f ≤ sm n g
  | 0, _ => Int.le_refl _
  | n + 1, h => by
    have a : sm n f ≤ sm n g := sm_le fun x hx => h x (Nat.lt_succ_of_lt hx)
    have b : f n ≤ g n := h n (Nat.lt_succ_self n)
    rw [sm, sm]; omega
theorem sm_lt {f g : Cf} {k : Nat} : ∀ {n}, (On n fun x => f x ≤ g x) → k < n → f k < g k → sm n f < sm n g
  | 0, _, h, _ => absurd h (Nat.not_lt_zero _)
  | n + 1, h, hk, hlt => by
    have b : f n ≤ g n := h n (Nat.lt_succ_self n)
    rw [sm, sm]
    by_cases e : k = n
    · subst e
      have a : sm k f ≤ sm k g := sm_le fun x hx => h x (Nat.lt_succ_of_lt hx)
      omega
    · have a : sm n f < sm n g := sm_lt (fun x hx => h x (Nat.lt_succ_of_lt hx)) (by omega) hlt
      omega
theorem sm_const (C : Int) : ∀ n : Nat, sm n (fun _ => C) = n * C
  | 0 => by simp [sm]
  | n + 1 => by rw [sm, sm_const C n, show ((n + 1 : Nat) : Int) = n + 1 by omega, Int.add_mul]; omega
theorem sm_at (w : Cf) {a : Nat} (m : Int) : ∀ {n}, a < n → sm n (fun x => w x * at1 a m x) = w a * m
  | 0, h => absurd h (Nat.not_lt_zero _)
  | n + 1, h => by
    rw [sm]
    unfold at1
    by_cases e : n = a
    · subst e
      rw [if_pos rfl]
      have : sm n (fun x => w x * if x = n then m else 0) = sm n fun _ => 0 := by
        apply Int.le_antisymm <;> refine sm_le fun x hx => ?_ <;> (dsimp only; rw [if_neg (by omega)]; omega)
      rw [this, sm_const]; omega
    · rw [if_neg e]
      have := sm_at w (a := a) m (n := n) (by omega)
      unfold at1 at this
      rw [this]; omega
def gl (w u : Cf) : Ties → Int
  | [] => 0
  | p :: ts => (w p.1 - w p.2) * (u p.1 - u p.2) + gl w u ts
theorem lap_cons (p : Nat × Nat) (h : p.1 ≠ p.2) (u : Cf) (x : Nat) : deg (p :: ts) x * u x - nb (p :: ts) u x = (at1 p.1 (u p.1 - u p.2) x + at1 p.2 (u p.2 - u p.1) x) + (deg ts x * u x - nb ts u x) := by
  unfold deg nb
  rw [near, sl_app, List.length_append]
  unfold at1
  rw [show (((if p.1 = x then [p.2] else if p.2 = x then [p.1] else []).length + (near ts x).length : Nat) : Int) = ((if p.1 = x then [p.2] else if p.2 = x then [p.1] else []).length : Nat) + ((near ts x).length : Nat) by omega, Int.add_mul]
  by_cases a : p.1 = x
  · subst a
    rw [if_pos rfl, if_pos rfl, if_neg h]
    simp only [sl, List.length_singleton]
    omega
  · by_cases b : p.2 = x
    · subst b
      rw [if_neg a, if_pos rfl, if_neg (Ne.symm a), if_pos rfl]
      simp only [sl, List.length_singleton]
      omega
    · rw [if_neg a, if_neg b, if_neg (Ne.symm a), if_neg (Ne.symm b)]
      simp only [sl, List.length_nil]
      omega
theorem green (w u : Cf) : ∀ {ts : Ties}, (∀ p ∈ ts, p.1 < n ∧ p.2 < n ∧ p.1 ≠ p.2) → sm n (fun x => w x * (deg ts x * u x - nb ts u x)) = gl w u ts
  | [], _ => by
    have : sm n (fun x => w x * (deg [] x * u x - nb [] u x)) = sm n fun _ => 0 := by
      congr 1; funext x
      show w x * (((0 : Nat) : Int) * u x - 0) = 0
      simp
    rw [this, sm_const]; simp [gl]
  | p :: ts, G => by
    obtain ⟨h1, h2, h3⟩ := G p (by simp)
    have e : (fun x => w x * (deg (p :: ts) x * u x - nb (p :: ts) u x)) = fun x => (w x * at1 p.1 (u p.1 - u p.2) x + w x * at1 p.2 (u p.2 - u p.1) x) + w x * (deg ts x * u x - nb ts u x) := by
      funext x
      rw [lap_cons p h3, Int.mul_add, Int.mul_add]
    rw [e, sm_add (fun x => w x * at1 p.1 (u p.1 - u p.2) x + w x * at1 p.2 (u p.2 - u p.1) x), sm_add, sm_at w _ h1, sm_at w _ h2, green w u fun q hq => G q (by simp [hq]), gl]
    rw [Int.sub_mul, show u p.2 - u p.1 = -(u p.1 - u p.2) by omega, Int.mul_neg]
    omega
theorem gl_term {w u : Cf} (h : ∀ x y, u y ≤ u x → w y ≤ w x) : ∀ {ts : Ties} {p : Nat × Nat}, p ∈ ts → (w p.1 - w p.2) * (u p.1 - u p.2) ≤ gl w u ts ∧ 0 ≤ gl w u ts := by
  have pos : ∀ q : Nat × Nat, 0 ≤ (w q.1 - w q.2) * (u q.1 - u q.2) := fun q => by
    rcases Int.le_total (u q.2) (u q.1) with e | e
    · exact Int.mul_nonneg (by have := h _ _ e; omega) (by omega)
    · rw [← Int.neg_mul_neg]
      exact Int.mul_nonneg (by have := h _ _ e; omega) (by omega)
  have all : ∀ ts : Ties, 0 ≤ gl w u ts := fun ts => by
    induction ts with
    | nil => exact Int.le_refl 0
    | cons q ts ih => rw [gl]; have := pos q; omega
  intro ts p hp
  refine ⟨?_, all ts⟩
  induction ts with
  | nil => simp at hp
  | cons q ts ih =>
    rw [gl]
    rcases List.mem_cons.mp hp with e | e
    · subst e; have := all ts; omega
    · have := ih e; have := pos q; omega
/-- what stands while points are fired -/
structure Inv (n : Nat) (ts : Ties) (k : Nat) (c0 out u : Cf) : Prop where
  pos : On n fun x => 0 ≤ u x
  sink : u k = 0
  aft_ : On n fun x => out x = aft ts c0 u x
  nn : On n fun x => x ≠ k → 0 ≤ out x
  low : ∀ s, St n ts k c0 s → On n fun x => u x ≤ s x
/-- over a tie the firings differ by no more than there are chips -/
theorem Inv.tie {k : Nat} {c0 out u : Cf} (I : Inv n ts k c0 out u) (G : Good n ts) {C : Int} (hC : 0 ≤ C) (hc : On n fun x => x ≠ k → c0 x ≤ C) {p : Nat × Nat} (hp : p ∈ ts) : u p.1 - u p.2 ≤ n * C ∧ u p.2 - u p.1 ≤ n * C := by
  have nC : 0 ≤ (n : Int) * C := Int.mul_nonneg (Int.natCast_nonneg n) hC
  have key : ∀ t : Int, 1 ≤ t → gl (fun x => if t ≤ u x then 1 else 0) u ts ≤ n * C := fun t ht => by
    rw [← green _ u G.inn, ← sm_const]
    refine sm_le fun x hx => ?_
    dsimp only
    by_cases e : t ≤ u x
    · rw [if_pos e, Int.one_mul]
      have xk : x ≠ k := fun z => by subst z; have := I.sink; omega
      have a := I.aft_ x hx
      have b := I.nn x hx xk
      have d := hc x hx xk
      unfold aft at a
      omega
    · rw [if_neg e, Int.zero_mul]; exact hC
  have mono : ∀ (t : Int) (x y : Nat), u y ≤ u x → (if t ≤ u y then (1 : Int) else 0) ≤ if t ≤ u x then 1 else 0 := fun t x y h => by split <;> split <;> omega
  have ua := I.pos p.1 (G.inn p hp).1
  have ub := I.pos p.2 (G.inn p hp).2.1
  have ua : 0 ≤ u p.1 := ua
  have ub : 0 ≤ u p.2 := ub
  constructor
  · by_cases e : u p.2 < u p.1
    · have a := (gl_term (w := fun x => if u p.1 ≤ u x then 1 else 0) (mono _) hp).1
      have b := key (u p.1) (by omega)
      rw [if_pos (Int.le_refl _), if_neg (by omega)] at a
      omega
    · omega
  · by_cases e : u p.1 < u p.2
    · have a := (gl_term (w := fun x => if u p.2 ≤ u x then 1 else 0) (mono _) hp).1
      have b := key (u p.2) (by omega)
      rw [if_pos (Int.le_refl _), if_neg (by omega)] at a
      omega
    · omega
theorem Inv.from0 {k : Nat} {c0 out u : Cf} (I : Inv n ts k c0 out u) (G : Good n ts) {C : Int} (hC : 0 ≤ C) (hc : On n fun x => x ≠ k → c0 x ≤ C) : ∀ (x : Nat), x < n → u x - u 0 ≤ x * (n * C) ∧ u 0 - u x ≤ x * (n * C) := by
  have nC : 0 ≤ (n : Int) * C := Int.mul_nonneg (Int.natCast_nonneg n) hC
  intro x
  induction x using Nat.strongRecOn with
  | ind x ih =>
    intro hx
    by_cases h0 : x = 0
    · subst h0; simp
    · obtain ⟨y, hy, h⟩ := G.tree x (by omega) hx
      obtain ⟨a, b⟩ := ih y hy (by omega)
      have step : u x - u y ≤ n * C ∧ u y - u x ≤ n * C := by
        rcases h with h | h
        · have := I.tie G hC hc h; exact ⟨this.2, this.1⟩
        · exact I.tie G hC hc h
      have m : (y : Int) * (n * C) + n * C ≤ x * (n * C) := by
        have : ((y : Int) + 1) * (n * C) ≤ x * (n * C) := Int.mul_le_mul_of_nonneg_right (by omega) nC
        rw [Int.add_mul, Int.one_mul] at this
        exact this
      omega
/-- so each point is fired at most so often -/
theorem Inv.most {k : Nat} {c0 out u : Cf} (I : Inv n ts k c0 out u) (G : Good n ts) (hk : k < n) {C : Int} (hC : 0 ≤ C) (hc : On n fun x => x ≠ k → c0 x ≤ C) {x : Nat} (hx : x < n) : u x ≤ ((x : Int) + k) * (n * C) := by
  have a := (I.from0 G hC hc x hx).1
  have b := (I.from0 G hC hc k hk).2
  have e := I.sink
  rw [Int.add_mul]
  omega
/-- x is fired many times -/
def firedC (ts : Ties) (out : Cf) (x : Nat) (many : Int) : Cf := fun z => (if z = x then out z - many * deg ts x else out z) + many * ((near ts x).count z : Nat)
theorem Inv.fire {k : Nat} {c0 out u : Cf} (I : Inv n ts k c0 out u) (G : Good n ts) {x : Nat} (hx : x < n) (hk : x ≠ k) {many : Int} (hm : 0 ≤ many) (h : deg ts x * many ≤ out x) : Inv n ts k c0 (firedC ts out x many) fun z => u z + at1 x many z := by
  have self : (near ts x).count x = 0 := by
    rw [List.count_eq_zero]
    exact fun z => (near_in G.inn z).2 rfl
  have a1 : ∀ z, at1 x many z = if z = x then many else 0 := fun z => rfl
  refine ⟨fun z hz => ?_, ?_, fun z hz => ?_, fun z hz zk => ?_, fun s hs z hz => ?_⟩
  · have := I.pos z hz
    show 0 ≤ u z + at1 x many z
    rw [a1]
    dsimp only at this
    split <;> omega
  · show u k + at1 x many k = 0
    rw [a1, if_neg (Ne.symm hk), I.sink]
    rfl
  · have a := I.aft_ z hz
    show firedC ts out x many z = c0 z - deg ts z * (u z + at1 x many z) + nb ts (fun z => u z + at1 x many z) z
    rw [nb_add]
    have e : nb ts (at1 x many) z = many * ((near ts x).count z : Nat) := by
      unfold nb
      rw [sl_at1, count_sym G.inn z x]
    rw [e, a1, Int.mul_add]
    unfold firedC
    unfold aft at a
    by_cases q : z = x
    · subst q
      rw [if_pos rfl, if_pos rfl, Int.mul_comm many (deg ts z)]
      have a : out z = c0 z - deg ts z * u z + nb ts u z := a
      omega
    · rw [if_neg q, if_neg q]
      have a : out z = c0 z - deg ts z * u z + nb ts u z := a
      omega
  · have a := I.nn z hz zk
    have cp : 0 ≤ many * ((near ts x).count z : Nat) := Int.mul_nonneg hm (by omega)
    unfold firedC
    by_cases q : z = x
    · subst q
      rw [if_pos rfl, Int.mul_comm many (deg ts z)]
      omega
    · rw [if_neg q]
      omega
  · have lo := I.low s hs
    show u z + at1 x many z ≤ s z
    rw [a1]
    split
    · rename_i e
      subst e
      have b := I.aft_ z hz
      have b : out z = aft ts c0 u z := b
      exact least_step G hs lo hz hk (b ▸ h)
    · have := lo z hz; omega
theorem inv0 (c0 : Cf) {k : Nat} (h : On n fun x => x ≠ k → 0 ≤ c0 x) : Inv n ts k c0 c0 fun _ => 0 :=
  ⟨fun _ _ => Int.le_refl 0, rfl, fun x _ => by
    show c0 x = c0 x - deg ts x * 0 + nb ts (fun _ => 0) x
    unfold nb
    rw [sl_zero]; omega, h, fun s hs => hs.pos⟩
theorem Inv.least {k : Nat} {c0 out u : Cf} (I : Inv n ts k c0 out u) (h : On n fun x => x ≠ k → out x < deg ts x) : Least n ts k c0 u :=
  ⟨⟨I.pos, I.sink, fun x hx hk => by have := I.aft_ x hx; have := h x hx hk; dsimp only at *; omega⟩, I.low⟩
/-- all firings together -/
theorem Inv.all {k : Nat} {c0 out u : Cf} (I : Inv n ts k c0 out u) (G : Good n ts) (hk : k < n) {C : Int} (hC : 0 ≤ C) (hc : On n fun x => x ≠ k → c0 x ≤ C) : sm n u ≤ n * ((n + n) * (n * C)) := by
  rw [← sm_const]
  refine sm_le fun x hx => ?_
  have a := I.most G hk hC hc hx
  have nC : 0 ≤ (n : Int) * C := Int.mul_nonneg (Int.natCast_nonneg n) hC
  have b : ((x : Int) + k) * (n * C) ≤ ((n : Int) + n) * (n * C) := Int.mul_le_mul_of_nonneg_right (by omega) nC
  omega
/-! ### one heap behind another -/
/-- what is settled, other chips laid on it -/
theorem two {k : Nat} (G : Good n ts) {c d t1 t2 : Cf} (hd : On n fun x => 0 ≤ d x) (h1 : Least n ts k c t1) (h2 : Least n ts k (fun x => aft ts c t1 x + d x) t2) : Least n ts k (fun x => c x + d x) fun x => t1 x + t2 x := by
  have e : ∀ x, aft ts (fun x => c x + d x) (fun x => t1 x + t2 x) x = aft ts (fun x => aft ts c t1 x + d x) t2 x := fun x => by
    unfold aft
    rw [nb_add, Int.mul_add]
    dsimp only
    omega
  refine ⟨⟨fun x hx => ?_, ?_, fun x hx hk => ?_⟩, fun s hs x hx => ?_⟩
  · have := h1.1.pos x hx; have := h2.1.pos x hx; dsimp only at *; omega
  · show t1 k + t2 k = 0
    rw [h1.1.sink, h2.1.sink]; rfl
  · rw [e]; exact h2.1.rest x hx hk
  · have a : On n fun x => t1 x ≤ s x := h1.2 s (hs.mono fun x hx => by have := hd x hx; dsimp only at *; omega)
    have b : St n ts k (fun x => aft ts c t1 x + d x) fun x => s x - t1 x := by
      refine ⟨fun x hx => by have := a x hx; dsimp only at *; omega, by show s k - t1 k = 0; rw [hs.sink, h1.1.sink]; rfl, fun x hx hk => ?_⟩
      have q := hs.rest x hx hk
      unfold aft at *
      rw [nb_sub, Int.mul_sub]
      dsimp only at *
      omega
    have z := h2.2 _ b x hx
    dsimp only at z ⊢
    omega
end
end Chip
/-! rotors. Plain. -/
namespace Chip
section
variable {n : Nat} {ts : Ties}
/-- the places of the ties at a point -/
def en (s : Nat) : Ties → Nat → List Nat
  | [], _ => []
  | p :: ts, x => (if p.1 = x ∨ p.2 = x then [s] else []) ++ en (s + 1) ts x
def ends (ts : Ties) (x : Nat) : List Nat := en 0 ts x
/-- the other end of a tie -/
def oth (ts : Ties) (k x : Nat) : Nat := let p := ts.getD k (0, 0); if p.1 = x then p.2 else p.1
theorem en_len (x : Nat) : ∀ (ts : Ties) (s : Nat), (en s ts x).length ≤ ts.length
  | [], _ => Nat.le_refl _
  | p :: ts, s => by
    have := en_len x ts (s + 1)
    rw [en, List.length_append, List.length_cons]
    split
    · rw [List.length_singleton]; omega
    · rw [List.length_nil]; omega
theorem en_mem {x k : Nat} : ∀ {ts : Ties} {s : Nat}, k ∈ en s ts x → s ≤ k ∧ k < s + ts.length ∧ ((ts.getD (k - s) (0, 0)).1 = x ∨ (ts.getD (k - s) (0, 0)).2 = x)
  | [], s, h => absurd h List.not_mem_nil
  | p :: ts, s, h => by
    rw [en, List.mem_append] at h
    rcases h with h | h
    · split at h
      · rename_i e
        rw [List.mem_singleton] at h
        subst h
        rw [Nat.sub_self]
        exact ⟨Nat.le_refl _, by rw [List.length_cons]; omega, e⟩
      · exact absurd h List.not_mem_nil
    · obtain ⟨a, b, c⟩ := en_mem h
      refine ⟨by omega, by rw [List.length_cons]; omega, ?_⟩
      rw [show k - s = (k - (s + 1)) + 1 by omega]
      exact c
theorem en_of {x : Nat} {p : Nat × Nat} (hp : p.1 = x ∨ p.2 = x) : ∀ {ts : Ties} {s : Nat}, p ∈ ts → ∃ k, k ∈ en s ts x ∧ ts.getD (k - s) (0, 0) = p
  | [], s, h => absurd h List.not_mem_nil
  | q :: ts, s, h => by
    rcases List.mem_cons.mp h with e | e
    · subst e
      refine ⟨s, ?_, by rw [Nat.sub_self]; rfl⟩
      rw [en, if_pos hp]
      exact List.mem_append_left _ List.mem_cons_self
    · obtain ⟨k, a, b⟩ := en_of hp e (s := s + 1)
      refine ⟨k, ?_, ?_⟩
      · rw [en]; exact List.mem_append_right _ a
      · have := (en_mem a).1
        rw [show k - s = (k - (s + 1)) + 1 by omega]
        exact b
theorem ends_pos (G : Good n ts) {x : Nat} (hx : x < n) : 1 ≤ (ends ts x).length := by
  have key : ∃ p ∈ ts, p.1 = x ∨ p.2 = x := by
    by_cases h0 : x = 0
    · obtain ⟨y, hy, h⟩ := G.tree 1 (Nat.le_refl 1) G.two
      have : y = 0 := by omega
      subst this
      rcases h with h | h
      · exact ⟨_, h, .inl h0.symm⟩
      · exact ⟨_, h, .inr h0.symm⟩
    · obtain ⟨y, hy, h⟩ := G.tree x (by omega) hx
      rcases h with h | h
      · exact ⟨_, h, .inr rfl⟩
      · exact ⟨_, h, .inl rfl⟩
  obtain ⟨p, hp, e⟩ := key
  obtain ⟨k, a, _⟩ := en_of e hp (s := 0)
  exact List.length_pos_of_mem a
theorem oth_in (G : ∀ p ∈ ts, p.1 < n ∧ p.2 < n ∧ p.1 ≠ p.2) {k : Nat} (hk : k < ts.length) (x : Nat) : oth ts k x < n := by
  have e : ts.getD k (0, 0) = ts[k] := by rw [List.getD, List.getElem?_eq_getElem hk]; rfl
  have := G _ (List.getElem_mem hk)
  unfold oth
  rw [e]
  dsimp only
  split <;> omega
/-- where the t-th turn of a point leads -/
def exi (ts : Ties) (r : Nat → Nat) (x t : Nat) : Nat := oth ts ((ends ts x).getD ((r x + t) % (ends ts x).length) 0) x
theorem exi_in (G : Good n ts) {r : Nat → Nat} {x t : Nat} (hx : x < n) : exi ts r x t < n := by
  have d := ends_pos G hx
  have hm : (r x + t) % (ends ts x).length < (ends ts x).length := Nat.mod_lt _ (by omega)
  have e : (ends ts x).getD ((r x + t) % (ends ts x).length) 0 = (ends ts x)[(r x + t) % (ends ts x).length] := by rw [List.getD, List.getElem?_eq_getElem hm]; rfl
  unfold exi
  rw [e]
  have := en_mem (List.getElem_mem hm)
  exact oth_in G.inn (by have := this.2.1; omega) x
/-- how many of the first m turns lead there -/
def cntT (ts : Ties) (r : Nat → Nat) (x y : Nat) : Nat → Nat
  | 0 => 0
  | m + 1 => cntT ts r x y m + if exi ts r x (m + 1) = y then 1 else 0
/-- what comes to a point from the first points -/
def arr (ts : Ties) (r v : Nat → Nat) (y : Nat) : Nat → Nat
  | 0 => 0
  | m + 1 => arr ts r v y m + cntT ts r m y (v m)
def bump (v : Nat → Nat) (x : Nat) : Nat → Nat := fun z => if z = x then v x + 1 else v z
theorem arr_low {r v : Nat → Nat} {x y : Nat} : ∀ {m : Nat}, m ≤ x → arr ts r (bump v x) y m = arr ts r v y m
  | 0, _ => rfl
  | m + 1, h => by
    rw [arr, arr, arr_low (by omega)]
    unfold bump
    rw [if_neg (by omega)]
theorem arr_bump {r v : Nat → Nat} {x y : Nat} : ∀ {m : Nat}, x < m → arr ts r (bump v x) y m = arr ts r v y m + if exi ts r x (v x + 1) = y then 1 else 0
  | 0, h => absurd h (Nat.not_lt_zero _)
  | m + 1, h => by
    rw [arr, arr]
    by_cases e : m = x
    · subst e
      rw [arr_low (Nat.le_refl _)]
      show _ + cntT ts r m y (if m = m then v m + 1 else v m) = _
      rw [if_pos rfl, cntT]
      omega
    · rw [arr_bump (by omega)]
      show _ + cntT ts r m y (if m = x then v x + 1 else v m) = _
      rw [if_neg e]
      omega
theorem arr_ge {r v : Nat → Nat} {x y : Nat} : ∀ {m : Nat}, x < m → cntT ts r x y (v x) ≤ arr ts r v y m
  | 0, h => absurd h (Nat.not_lt_zero _)
  | m + 1, h => by
    rw [arr]
    by_cases e : m = x
    · subst e; omega
    · have := @arr_ge r v x y m (by omega); omega
/-- one in a row of as many turns as there are ties leads over each -/
theorem cnt_row {r : Nat → Nat} {x y i : Nat} (hi : i < (ends ts x).length) (e : oth ts ((ends ts x).getD i 0) x = y) (m : Nat) : cntT ts r x y m + 1 ≤ cntT ts r x y (m + (ends ts x).length) := by
  -- the turn that leads over that tie
  have dp : 0 < (ends ts x).length := by omega
  generalize hd : (ends ts x).length = d at hi dp ⊢
  obtain ⟨t, t1, t2, te⟩ : ∃ t, m < t ∧ t ≤ m + d ∧ (r x + t) % d = i := by
    have a := Nat.mod_lt (r x + m + 1) dp
    by_cases q : (r x + m + 1) % d ≤ i
    · refine ⟨m + 1 + (i - (r x + m + 1) % d), by omega, by omega, ?_⟩
      have := Nat.div_add_mod (r x + m + 1) d
      have e2 : r x + (m + 1 + (i - (r x + m + 1) % d)) = i + d * ((r x + m + 1) / d) := by omega
      rw [e2, Nat.add_mul_mod_self_left, Nat.mod_eq_of_lt hi]
    · refine ⟨m + 1 + (i + d - (r x + m + 1) % d), by omega, by omega, ?_⟩
      have := Nat.div_add_mod (r x + m + 1) d
      have e2 : r x + (m + 1 + (i + d - (r x + m + 1) % d)) = i + d * ((r x + m + 1) / d + 1) := by
        rw [Nat.mul_add, Nat.mul_one]; omega
      rw [e2, Nat.add_mul_mod_self_left, Nat.mod_eq_of_lt hi]
  have mono : ∀ j k, cntT ts r x y j ≤ cntT ts r x y (j + k) := fun j k => by
    induction k with
    | zero => exact Nat.le_refl _
    | succ k ih => show _ ≤ cntT ts r x y (j + k) + _; omega
  have hit : cntT ts r x y t = cntT ts r x y (t - 1) + 1 := by
    obtain ⟨s, rfl⟩ : ∃ s, t = s + 1 := ⟨t - 1, by omega⟩
    rw [Nat.add_sub_cancel, cntT, if_pos]
    unfold exi
    rw [hd, te]
    exact e
  have a := mono m (t - 1 - m)
  have b := mono t (m + d - t)
  rw [show m + (t - 1 - m) = t - 1 by omega] at a
  rw [show t + (m + d - t) = m + d by omega] at b
  omega
theorem cnt_many {r : Nat → Nat} {x y i : Nat} (hi : i < (ends ts x).length) (e : oth ts ((ends ts x).getD i 0) x = y) : ∀ q : Nat, q ≤ cntT ts r x y (q * (ends ts x).length)
  | 0 => Nat.zero_le _
  | q + 1 => by
    have a := cnt_many (r := r) hi e q
    have b := cnt_row (r := r) hi e (q * (ends ts x).length)
    rw [Nat.succ_mul]
    omega
theorem cnt_mono {r : Nat → Nat} {x y : Nat} : ∀ {j k : Nat}, j ≤ k → cntT ts r x y j ≤ cntT ts r x y k := fun {j k} h => by
  obtain ⟨d, rfl⟩ := Nat.exists_eq_add_of_le h
  induction d with
  | zero => exact Nat.le_refl _
  | succ d ih => have := ih (by omega); show _ ≤ cntT ts r x y (j + d) + _; omega
/-- what stands while one is led -/
structure Rot (n : Nat) (ts : Ties) (r : Nat → Nat) (start goal : Nat) (v : Nat → Nat) (x : Nat) (L : Nat → Nat) (T : Nat) : Prop where
  cur : x < n
  gl0 : v goal = 0
  flow : ∀ y, y < n → arr ts r v y n + (if y = start then 1 else 0) = v y + if y = x then 1 else 0
  le : ∀ y, y < n → L y ≤ T
  last : ∀ y, y < n → 0 < v y → exi ts r y (v y) = x ∨ (0 < v (exi ts r y (v y)) ∧ L y < L (exi ts r y (v y)))
theorem Rot.begin {r : Nat → Nat} {start goal : Nat} (hs : start < n) : Rot n ts r start goal (fun _ => 0) start (fun _ => 0) 0 := by
  have z : ∀ y m, arr ts r (fun _ => 0) y m = 0 := fun y m => by
    induction m with
    | zero => rfl
    | succ m ih => rw [arr, ih]; rfl
  exact ⟨hs, rfl, fun y hy => by rw [z], fun _ _ => Nat.le_refl _, fun y hy h => absurd h (Nat.lt_irrefl 0)⟩
theorem Rot.turn {r v : Nat → Nat} {start goal x : Nat} {L : Nat → Nat} {T : Nat} (R : Rot n ts r start goal v x L T) (G : Good n ts) (hg : x ≠ goal) : Rot n ts r start goal (bump v x) (exi ts r x (v x + 1)) (fun z => if z = x then T + 1 else L z) (T + 1) := by
  have hx := R.cur
  have bx : bump v x x = v x + 1 := if_pos rfl
  have bz : ∀ z, z ≠ x → bump v x z = v z := fun z hz => if_neg hz
  refine ⟨exi_in G hx, ?_, fun y hy => ?_, fun y hy => ?_, fun y hy h => ?_⟩
  · rw [bz goal (Ne.symm hg)]; exact R.gl0
  · have f := R.flow y hy
    rw [arr_bump hx]
    by_cases e : y = x
    · subst e
      rw [bx]
      rw [if_pos rfl] at f
      have : (if exi ts r y (v y + 1) = y then 1 else 0) = (if y = exi ts r y (v y + 1) then (1 : Nat) else 0) := by
        by_cases q : exi ts r y (v y + 1) = y
        · rw [if_pos q, if_pos q.symm]
        · rw [if_neg q, if_neg (Ne.symm q)]
      omega
    · rw [bz y e]
      rw [if_neg e] at f
      have : (if exi ts r x (v x + 1) = y then 1 else 0) = (if y = exi ts r x (v x + 1) then (1 : Nat) else 0) := by
        by_cases q : exi ts r x (v x + 1) = y
        · rw [if_pos q, if_pos q.symm]
        · rw [if_neg q, if_neg (Ne.symm q)]
      omega
  · have := R.le y hy
    show (if y = x then T + 1 else L y) ≤ T + 1
    split <;> omega
  · by_cases e : y = x
    · subst e
      rw [bx]
      exact .inl rfl
    · rw [bz y e] at h ⊢
      have ly := R.le y hy
      right
      rcases R.last y hy h with q | ⟨q1, q2⟩
      · rw [q]
        refine ⟨by rw [bx]; omega, ?_⟩
        show (if y = x then T + 1 else L y) < if x = x then T + 1 else L x
        rw [if_neg e, if_pos rfl]
        omega
      · by_cases w : exi ts r y (v y) = x
        · rw [w]
          refine ⟨by rw [bx]; omega, ?_⟩
          show (if y = x then T + 1 else L y) < if x = x then T + 1 else L x
          rw [if_neg e, if_pos rfl]
          omega
        · rw [bz _ w]
          refine ⟨q1, ?_⟩
          show (if y = x then T + 1 else L y) < if exi ts r y (v y) = x then T + 1 else L (exi ts r y (v y))
          rw [if_neg e, if_neg w]
          exact q2
/-! ### how often -/
theorem Rot.near {r v : Nat → Nat} {start goal x : Nat} {L : Nat → Nat} {T : Nat} (R : Rot n ts r start goal v x L T) (t30 : ts.length ≤ 30) {a b : Nat} (ha : a < n) (hb : b < n) (hab : a ≠ b) (h : (a, b) ∈ ts ∨ (b, a) ∈ ts) : v a ≤ 30 * (v b + 2) := by
  obtain ⟨i, hi, ei⟩ : ∃ i, i < (ends ts a).length ∧ oth ts ((ends ts a).getD i 0) a = b := by
    have key : ∃ k ∈ ends ts a, oth ts k a = b := by
      rcases h with h | h
      · obtain ⟨k, k1, k2⟩ := en_of (x := a) (.inl rfl) h (s := 0)
        refine ⟨k, k1, ?_⟩
        rw [Nat.sub_zero] at k2
        unfold oth
        rw [k2]
        exact if_pos rfl
      · obtain ⟨k, k1, k2⟩ := en_of (x := a) (.inr rfl) h (s := 0)
        refine ⟨k, k1, ?_⟩
        rw [Nat.sub_zero] at k2
        unfold oth
        rw [k2]
        exact if_neg (Ne.symm hab)
    obtain ⟨k, k1, k2⟩ := key
    obtain ⟨i, hi, e⟩ := List.getElem_of_mem k1
    refine ⟨i, hi, ?_⟩
    rw [List.getD, List.getElem?_eq_getElem hi, Option.getD_some, e]
    exact k2
  have d30 : (ends ts a).length ≤ 30 := Nat.le_trans (en_len a ts 0) t30
  have f := R.flow b hb
  have g := arr_ge (ts := ts) (r := r) (v := v) (y := b) ha
  have q := cnt_many (r := r) hi ei (v a / (ends ts a).length)
  have q2 : cntT ts r a b (v a / (ends ts a).length * (ends ts a).length) ≤ cntT ts r a b (v a) := cnt_mono (Nat.div_mul_le_self _ _)
  have s1 : (if b = x then 1 else 0) ≤ 1 := by split <;> omega
  have m : v a / (ends ts a).length ≤ v b + 1 := by omega
  have dm := Nat.div_add_mod (v a) (ends ts a).length
  have ml := Nat.mod_lt (v a) (show 0 < (ends ts a).length by omega)
  have up : (ends ts a).length * (v a / (ends ts a).length) ≤ 30 * (v b + 1) := Nat.mul_le_mul d30 m
  omega
def far : Nat → Nat → Nat
  | 0, m => m
  | k + 1, m => 30 * (far k m + 2)
theorem far_mono {a b : Nat} (h : a ≤ b) : ∀ k, far k a ≤ far k b
  | 0 => h
  | k + 1 => by have := far_mono h k; rw [far, far]; omega
theorem far_up (m : Nat) : ∀ {k l : Nat}, k ≤ l → far k m ≤ far l m := fun {k l} h => by
  obtain ⟨d, rfl⟩ := Nat.exists_eq_add_of_le h
  induction d with
  | zero => exact Nat.le_refl _
  | succ d ih => have := ih (by omega); show _ ≤ 30 * (far (k + d) m + 2); omega
theorem far_add (m : Nat) : ∀ k l : Nat, far k (far l m) = far (k + l) m
  | 0, l => by rw [far, Nat.zero_add]
  | k + 1, l => by rw [far, far_add m k l, Nat.succ_add, far]
theorem Rot.down {r v : Nat → Nat} {start goal x : Nat} {L : Nat → Nat} {T : Nat} (R : Rot n ts r start goal v x L T) (G : Good n ts) (t30 : ts.length ≤ 30) : ∀ y, y < n → v y ≤ far y (v 0) ∧ v 0 ≤ far y (v y) := fun y => by
  induction y using Nat.strongRecOn with
  | ind y ih =>
    intro hy
    by_cases z : y = 0
    · subst z; exact ⟨Nat.le_refl _, Nat.le_refl _⟩
    · obtain ⟨w, hw, h⟩ := G.tree y (by omega) hy
      obtain ⟨a, b⟩ := ih w hw (by omega)
      have s1 := R.near t30 hy (show w < n by omega) (by omega) h.symm
      have s2 := R.near t30 (show w < n by omega) hy (by omega) h
      constructor
      · have : far (w + 1) (v 0) ≤ far y (v 0) := far_up _ (by omega)
        refine Nat.le_trans ?_ this
        rw [far]
        omega
      · have e : far w (v w) ≤ far w (30 * (v y + 2)) := far_mono s2 w
        have e2 : far w (30 * (v y + 2)) = far (w + 1) (v y) := far_add (v y) w 1
        have e3 : far (w + 1) (v y) ≤ far y (v y) := far_up _ (by omega)
        omega
theorem Rot.most {r v : Nat → Nat} {start goal x : Nat} {L : Nat → Nat} {T : Nat} (R : Rot n ts r start goal v x L T) (G : Good n ts) (t30 : ts.length ≤ 30) (hg : goal < n) (n7 : n ≤ 7) {y : Nat} (hy : y < n) : v y ≤ 1200000000000000000 := by
  have a := (R.down G t30 goal hg).2
  rw [R.gl0] at a
  have b := (R.down G t30 y hy).1
  have c : far y (v 0) ≤ far y (far goal 0) := far_mono a y
  rw [far_add] at c
  have d : far (y + goal) 0 ≤ far 12 0 := far_up 0 (by omega)
  have e : far 12 0 ≤ 1200000000000000000 := by decide
  omega
def smN : Nat → (Nat → Nat) → Nat
  | 0, _ => 0
  | m + 1, v => smN m v + v m
theorem smN_bump {v : Nat → Nat} {x : Nat} : ∀ {m : Nat}, x < m → smN m (bump v x) = smN m v + 1
  | 0, h => absurd h (Nat.not_lt_zero _)
  | m + 1, h => by
    have low : ∀ k, k ≤ x → smN k (bump v x) = smN k v := fun k => by
      induction k with
      | zero => intro _; rfl
      | succ k ih =>
        intro hk
        rw [smN, smN, ih (by omega)]
        unfold bump
        rw [if_neg (by omega)]
    rw [smN, smN]
    by_cases e : m = x
    · subst e
      rw [low m (Nat.le_refl _)]
      unfold bump
      rw [if_pos rfl]
      omega
    · rw [smN_bump (by omega)]
      unfold bump
      rw [if_neg e]
      omega
theorem smN_le {v : Nat → Nat} {B : Nat} : ∀ {m : Nat}, (∀ y, y < m → v y ≤ B) → smN m v ≤ m * B
  | 0, _ => Nat.zero_le _
  | m + 1, h => by
    have a := smN_le (v := v) (B := B) (m := m) fun y hy => h y (by omega)
    have b := h m (by omega)
    rw [smN, Nat.succ_mul]
    omega
/-! ### the ties gone over last lead to the goal -/
/-- how many points were gone out of later -/
def aftL (n : Nat) (v L : Nat → Nat) (y : Nat) : Nat := ((List.range n).filter fun z => decide (0 < v z) && decide (L y < L z)).length
theorem aftL_lt {v L : Nat → Nat} {y z : Nat} (hz : z < n) (vz : 0 < v z) (h : L y < L z) : aftL n v L z < aftL n v L y := by
  unfold aftL
  have sub : ∀ l : List Nat, z ∈ l → ((l.filter fun w => decide (0 < v w) && decide (L z < L w)).length < (l.filter fun w => decide (0 < v w) && decide (L y < L w)).length) := fun l => by
    have le : ∀ l : List Nat, (l.filter fun w => decide (0 < v w) && decide (L z < L w)).length ≤ (l.filter fun w => decide (0 < v w) && decide (L y < L w)).length := fun l => by
      induction l with
      | nil => exact Nat.le_refl _
      | cons w l ih =>
        rw [List.filter_cons, List.filter_cons]
        by_cases a : 0 < v w
        · by_cases b : L z < L w
          · rw [decide_eq_true a, decide_eq_true b, decide_eq_true (show L y < L w by omega)]
            simp only [Bool.and_self, if_true, List.length_cons]
            omega
          · rw [decide_eq_true a, decide_eq_false b]
            simp only [Bool.and_false, Bool.false_eq_true, if_false]
            split
            · rw [List.length_cons]; omega
            · exact ih
        · rw [decide_eq_false a]
          simp only [Bool.false_and, Bool.false_eq_true, if_false]
          exact ih
    induction l with
    | nil => intro h; exact absurd h List.not_mem_nil
    | cons w l ih =>
      intro hm
      rw [List.filter_cons, List.filter_cons]
      by_cases e : w = z
      · subst e
        rw [decide_eq_true vz, decide_eq_false (Nat.lt_irrefl _), decide_eq_true h]
        simp only [Bool.and_false, Bool.and_self, Bool.false_eq_true, if_false, if_true, List.length_cons]
        have := le l
        omega
      · have hm' : z ∈ l := by
          rcases List.mem_cons.mp hm with q | q
          · exact absurd q.symm e
          · exact q
        have := ih hm'
        have := le [w]
        rw [List.filter_cons, List.filter_cons] at this
        by_cases a : (decide (0 < v w) && decide (L z < L w)) = true
        · rw [if_pos a]
          have b : (decide (0 < v w) && decide (L y < L w)) = true := by
            rw [Bool.and_eq_true, decide_eq_true_eq, decide_eq_true_eq] at a ⊢
            omega
          rw [if_pos b, List.length_cons, List.length_cons]
          omega
        · rw [if_neg a]
          split
          · rw [List.length_cons]; omega
          · assumption
  exact sub _ (List.mem_range.mpr hz)
theorem aftL_n {v L : Nat → Nat} {y : Nat} (hy : y < n) (vy : 0 < v y) : aftL n v L y < n := by
  unfold aftL
  have : ((List.range n).filter fun z => decide (0 < v z) && decide (L y < L z)).length < (List.range n).length := by
    rcases Nat.lt_or_ge ((List.range n).filter fun z => decide (0 < v z) && decide (L y < L z)).length (List.range n).length with q | q
    · exact q
    · have e := List.length_filter_eq_length_iff.mp (Nat.le_antisymm (List.length_filter_le _ _) q)
      have := e y (List.mem_range.mpr hy)
      rw [decide_eq_false (Nat.lt_irrefl _), Bool.and_false] at this
      cases this
  rwa [List.length_range] at this
/-- one step back to the goal -/
def hop (ts : Ties) (r v : Nat → Nat) (goal y : Nat) : Nat := if y ≠ goal ∧ 0 < v y then exi ts r y (v y) else y
def hops (ts : Ties) (r v : Nat → Nat) (goal : Nat) : Nat → Nat → Nat
  | 0, y => y
  | m + 1, y => hops ts r v goal m (hop ts r v goal y)
theorem hops_goal {r v : Nat → Nat} {goal : Nat} : ∀ m, hops ts r v goal m goal = goal
  | 0 => rfl
  | m + 1 => by
    rw [hops]
    have : hop ts r v goal goal = goal := if_neg (fun h => h.1 rfl)
    rw [this, hops_goal m]
theorem Rot.home {r v : Nat → Nat} {start goal : Nat} {L : Nat → Nat} {T : Nat} (R : Rot n ts r start goal v goal L T) (G : Good n ts) : ∀ (m : Nat) {y : Nat}, y < n → 0 < v y → aftL n v L y < m → hops ts r v goal m y = goal
  | 0, y, _, _, h => absurd h (Nat.not_lt_zero _)
  | m + 1, y, hy, vy, h => by
    have ng : y ≠ goal := fun e => by have := R.gl0; rw [e] at vy; omega
    rw [hops]
    have e : hop ts r v goal y = exi ts r y (v y) := if_pos ⟨ng, vy⟩
    rw [e]
    rcases R.last y hy vy with q | ⟨q1, q2⟩
    · rw [q, hops_goal]
    · have hz := exi_in (r := r) (t := v y) G hy
      have := aftL_lt hz q1 q2
      exact R.home G m hz q1 (by omega)
end
end Chip
namespace CB
open MP DR
/-- which number each def has -/
structure Ix where
  (num0 numN common frac below tie net checkNet lots partsOf parts numC plain areNum checkNum checkHeaps place around fire fired ended areHeaps settle isSettled added together take pick hung lnear : Nat)
  (gP gT : Nat)
  (rB rS : S)
def b_num0 (I : Ix) : S := (.cons (.ret (.and2 (.blt (.isinst .int) (.cons (.var 0) .nil)) (.one (.nt (.blt (.isinst .bool) (.cons (.var 0) .nil))))))
 .nil)
def b_numN (I : Ix) : S := (.cons (.ret (.and2 (.blt (.isinst .int) (.cons (.var 0) .nil)) (.one (.nt (.blt (.isinst .bool) (.cons (.var 0) .nil))))))
 .nil)
def b_common (I : Ix) : S := (.cons (.par [0, 1] (.cons (.blt .abs (.cons (.var 0) .nil)) (.cons (.blt .abs (.cons (.var 1) .nil)) .nil)))
 (.cons (.whl (.cmp .gt (.var 1) (.con (.int 0)))
 (.cons (.par [0, 1] (.cons (.var 1) (.cons (.bin .mod (.var 0) (.var 1)) .nil)))
 .nil))
 (.cons (.ret (.var 0))
 .nil)))
def b_frac (I : Ix) : S := (.cons (.ite (.or2 (.nt (.blt (.isinst .tuple) (.cons (.var 0) .nil))) (.or2 (.cmp .ne (.blt .len (.cons (.var 0) .nil)) (.con (.int 2))) (.or2 (.nt (.call I.numN (.cons (.idx (.var 0) (.con (.int 0))) .nil))) (.one (.nt (.call I.numN (.cons (.idx (.var 0) (.con (.int 1))) .nil)))))))
 (.cons (.ret (.con (.bl false)))
 .nil)
 .nil)
 (.cons (.ret (.and2 (.cmp .ge (.idx (.var 0) (.con (.int 1))) (.con (.int 1))) (.one (.cmp .eq (.call I.common (.cons (.idx (.var 0) (.con (.int 0))) (.cons (.idx (.var 0) (.con (.int 1))) .nil))) (.con (.int 1))))))
 .nil))
def b_below (I : Ix) : S := (.cons (.ret (.and2 (.call I.numN (.cons (.var 1) .nil)) (.one (.chn .le .lt (.con (.int 0)) (.var 1) (.var 0)))))
 .nil)
def b_tie (I : Ix) : S := (.cons (.ite (.or2 (.nt (.blt (.isinst .tuple) (.cons (.var 1) .nil))) (.or2 (.cmp .ne (.blt .len (.cons (.var 1) .nil)) (.con (.int 3))) (.or2 (.nt (.call I.below (.cons (.var 0) (.cons (.idx (.var 1) (.con (.int 0))) .nil)))) (.or2 (.nt (.call I.below (.cons (.var 0) (.cons (.idx (.var 1) (.con (.int 1))) .nil)))) (.one (.cmp .eq (.idx (.var 1) (.con (.int 0))) (.idx (.var 1) (.con (.int 1)))))))))
 (.cons (.ret (.con (.bl false)))
 .nil)
 .nil)
 (.cons (.ret (.and2 (.call I.frac (.cons (.idx (.var 1) (.con (.int 2))) .nil)) (.one (.cmp .gt (.idx (.idx (.var 1) (.con (.int 2))) (.con (.int 0))) (.con (.int 0))))))
 .nil))
def b_net (I : Ix) : S := (.cons (.ite (.or2 (.nt (.blt (.isinst .tuple) (.cons (.var 0) .nil))) (.or2 (.cmp .ne (.blt .len (.cons (.var 0) .nil)) (.con (.int 2))) (.or2 (.nt (.call I.numN (.cons (.idx (.var 0) (.con (.int 0))) .nil))) (.one (.nt (.chn .le .le (.con (.int 1)) (.idx (.var 0) (.con (.int 0))) (.glo I.gP)))))))
 (.cons (.ret (.con (.bl false)))
 .nil)
 .nil)
 (.cons (.ret (.and2 (.blt (.isinst .tuple) (.cons (.idx (.var 0) (.con (.int 1))) .nil)) (.and2 (.cmp .le (.blt .len (.cons (.idx (.var 0) (.con (.int 1))) .nil)) (.glo I.gT)) (.one (.blt .all (.cons (.lc true (.var 1) .gen (.cons (.idx (.var 0) (.con (.int 1))) .nil) (.con (.bl true)) (.call I.tie (.cons (.idx (.var 0) (.con (.int 0))) (.cons (.var 1) .nil)))) .nil))))))
 .nil))
def b_checkNet (I : Ix) : S := (.cons (.ite (.nt (.call I.net (.cons (.var 0) .nil)))
 (.cons I.rB
 .nil)
 .nil)
 .nil)
def b_lots (I : Ix) : S := (.cons (.asg (.var 2) (.blt (.listR true) (.cons (.var 0) .nil)))
 (.cons (.for (.tup (.cons (.var 3) (.cons (.var 4) .nil))) .gen (.cons (.var 1) .nil)
 (.cons (.asg (.tup (.cons (.var 5) (.cons (.var 6) .nil))) (.tup (.cons (.blt .min2 (.cons (.idx (.var 2) (.var 3)) (.cons (.idx (.var 2) (.var 4)) .nil))) (.cons (.blt .max2 (.cons (.idx (.var 2) (.var 3)) (.cons (.idx (.var 2) (.var 4)) .nil))) .nil))))
 (.cons (.asg (.var 2) (.lc true (.var 8) .gen (.cons (.var 2) .nil) (.con (.bl true)) (.ite (.cmp .eq (.var 8) (.var 6)) (.var 5) (.var 8))))
 .nil)))
 (.cons (.ret (.lc true (.var 7) .gen (.cons (.blt (.sortedSet true) (.cons (.var 2) .nil)) .nil) (.con (.bl true)) (.blt .tuple (.cons (.lc true (.var 8) .rng (.cons (.var 0) .nil) (.cmp .eq (.idx (.var 2) (.var 8)) (.var 7)) (.var 8)) .nil))))
 .nil)))
def b_partsOf (I : Ix) : S := (.cons (.ret (.call I.lots (.cons (.idx (.var 0) (.con (.int 0))) (.cons (.lc true (.var 1) .gen (.cons (.idx (.var 0) (.con (.int 1))) .nil) (.con (.bl true)) (.slc true (.var 1) (.con .und) (.con (.int 2)))) .nil))))
 .nil)
def b_parts (I : Ix) : S := (.cons (.exp (.call I.checkNet (.cons (.var 0) .nil)))
 (.cons (.ret (.blt .tuple (.cons (.call I.partsOf (.cons (.var 0) .nil)) .nil)))
 .nil))
def b_numC (I : Ix) : S := (.cons (.ret (.and2 (.blt (.isinst .int) (.cons (.var 0) .nil)) (.one (.nt (.blt (.isinst .bool) (.cons (.var 0) .nil))))))
 .nil)
def b_plain (I : Ix) : S := (.cons (.ite (.nt (.call I.net (.cons (.var 0) .nil)))
 (.cons I.rB
 .nil)
 .nil)
 (.cons (.ite (.or2 (.cmp .lt (.idx (.var 0) (.con (.int 0))) (.con (.int 2))) (.or2 (.nt (.blt .all (.cons (.lc true (.tup (.cons (.var 1) (.cons (.var 2) (.cons (.var 3) .nil)))) .gen (.cons (.idx (.var 0) (.con (.int 1))) .nil) (.con (.bl true)) (.cmp .eq (.var 3) (.tup (.cons (.con (.int 1)) (.cons (.con (.int 1)) .nil))))) .nil))) (.one (.cmp .ne (.blt .len (.cons (.call I.parts (.cons (.var 0) .nil)) .nil)) (.con (.int 1))))))
 (.cons I.rS
 .nil)
 .nil)
 .nil))
def b_areNum (I : Ix) : S := (.cons (.ret (.and2 (.blt (.isinst .tuple) (.cons (.var 1) .nil)) (.and2 (.cmp .eq (.blt .len (.cons (.var 1) .nil)) (.idx (.var 0) (.con (.int 0)))) (.one (.blt .all (.cons (.lc true (.var 2) .gen (.cons (.var 1) .nil) (.con (.bl true)) (.call I.numC (.cons (.var 2) .nil))) .nil))))))
 .nil)
def b_checkNum (I : Ix) : S := (.cons (.ite (.or2 (.nt (.call I.net (.cons (.var 0) .nil))) (.one (.nt (.blt .all (.cons (.lc true (.var 2) .gen (.cons (.var 1) .nil) (.con (.bl true)) (.call I.areNum (.cons (.var 0) (.cons (.var 2) .nil)))) .nil)))))
 (.cons I.rB
 .nil)
 .nil)
 (.cons (.exp (.call I.plain (.cons (.var 0) .nil)))
 .nil))
def b_checkHeaps (I : Ix) : S := (.cons (.ite (.or2 (.nt (.call I.net (.cons (.var 0) .nil))) (.or2 (.nt (.call I.place (.cons (.var 0) (.cons (.var 1) .nil)))) (.one (.nt (.blt .all (.cons (.lc true (.var 3) .gen (.cons (.var 2) .nil) (.con (.bl true)) (.call I.areHeaps (.cons (.var 0) (.cons (.var 1) (.cons (.var 3) .nil))))) .nil))))))
 (.cons I.rB
 .nil)
 .nil)
 (.cons (.exp (.call I.plain (.cons (.var 0) .nil)))
 .nil))
def b_place (I : Ix) : S := (.cons (.ret (.and2 (.call I.numC (.cons (.var 1) .nil)) (.one (.chn .le .lt (.con (.int 0)) (.var 1) (.idx (.var 0) (.con (.int 0)))))))
 .nil)
def b_around (I : Ix) : S := (.cons (.asg (.var 1) (.lc true (.var 5) .rng (.cons (.idx (.var 0) (.con (.int 0))) .nil) (.con (.bl true)) (.lst false .nil)))
 (.cons (.for (.tup (.cons (.var 2) (.cons (.var 3) (.cons (.var 4) .nil)))) .gen (.cons (.idx (.var 0) (.con (.int 1))) .nil)
 (.cons (.exp (.mth .append (.idx (.var 1) (.var 2)) (.cons (.var 3) .nil)))
 (.cons (.exp (.mth .append (.idx (.var 1) (.var 3)) (.cons (.var 2) .nil)))
 .nil)))
 (.cons (.ret (.var 1))
 .nil)))
def b_fire (I : Ix) : S := (.cons (.asg (.var 3) (.blt (.list false) (.cons (.var 1) .nil)))
 (.cons (.for (.tup (.cons (.var 4) (.cons (.var 5) .nil))) .enum (.cons (.var 2) .nil)
 (.cons (.asg (.idx (.var 3) (.var 4)) (.bin .sub (.idx (.var 3) (.var 4)) (.bin (.mul true) (.var 5) (.blt .len (.cons (.idx (.var 0) (.var 4)) .nil)))))
 (.cons (.for (.var 6) .gen (.cons (.idx (.var 0) (.var 4)) .nil)
 (.cons (.asg (.idx (.var 3) (.var 6)) (.bin (.add true) (.idx (.var 3) (.var 6)) (.var 5)))
 .nil))
 .nil)))
 (.cons (.ret (.blt .tuple (.cons (.var 3) .nil)))
 .nil)))
def b_fired (I : Ix) : S := (.cons (.exp (.call I.checkNum (.cons (.var 0) (.cons (.tup (.cons (.var 1) (.cons (.var 2) .nil))) .nil))))
 (.cons (.ret (.call I.fire (.cons (.call I.around (.cons (.var 0) .nil)) (.cons (.var 1) (.cons (.var 2) .nil)))))
 .nil))
def b_ended (I : Ix) : S := (.cons (.par [4, 5] (.cons (.blt (.list false) (.cons (.var 2) .nil)) (.cons (.bin (.mul false) (.lst true (.cons (.con (.int 0)) .nil)) (.blt .len (.cons (.var 0) .nil))) .nil)))
 (.cons (.asg (.var 3) (.con (.bl true)))
 (.cons (.whl (.var 3)
 (.cons (.asg (.var 3) (.con (.bl false)))
 (.cons (.for (.var 6) .rng (.cons (.blt .len (.cons (.var 0) .nil)) .nil)
 (.cons (.asg (.var 7) (.bin .fdiv (.idx (.var 4) (.var 6)) (.blt .len (.cons (.idx (.var 0) (.var 6)) .nil))))
 (.cons (.ite (.and2 (.cmp .ne (.var 6) (.var 1)) (.one (.cmp .gt (.var 7) (.con (.int 0)))))
 (.cons (.asg (.var 3) (.con (.bl true)))
 (.cons (.asg (.idx (.var 5) (.var 6)) (.bin (.add true) (.idx (.var 5) (.var 6)) (.var 7)))
 (.cons (.asg (.idx (.var 4) (.var 6)) (.bin .sub (.idx (.var 4) (.var 6)) (.bin (.mul true) (.var 7) (.blt .len (.cons (.idx (.var 0) (.var 6)) .nil)))))
 (.cons (.for (.var 8) .gen (.cons (.idx (.var 0) (.var 6)) .nil)
 (.cons (.asg (.idx (.var 4) (.var 8)) (.bin (.add true) (.idx (.var 4) (.var 8)) (.var 7)))
 .nil))
 .nil))))
 .nil)
 .nil)))
 .nil)))
 (.cons (.ret (.tup (.cons (.blt .tuple (.cons (.var 4) .nil)) (.cons (.blt .tuple (.cons (.var 5) .nil)) .nil))))
 .nil))))
def b_areHeaps (I : Ix) : S := (.cons (.ret (.and2 (.call I.place (.cons (.var 0) (.cons (.var 1) .nil))) (.and2 (.call I.areNum (.cons (.var 0) (.cons (.var 2) .nil))) (.one (.blt .all (.cons (.lc true (.tup (.cons (.var 3) (.cons (.var 4) .nil))) .enum (.cons (.var 2) .nil) (.cmp .ne (.var 3) (.var 1)) (.cmp .ge (.var 4) (.con (.int 0)))) .nil))))))
 .nil)
def b_settle (I : Ix) : S := (.cons (.exp (.call I.checkHeaps (.cons (.var 0) (.cons (.var 1) (.cons (.tup (.cons (.var 2) .nil)) .nil)))))
 (.cons (.ret (.call I.ended (.cons (.call I.around (.cons (.var 0) .nil)) (.cons (.var 1) (.cons (.var 2) .nil)))))
 .nil))
def b_isSettled (I : Ix) : S := (.cons (.exp (.call I.checkHeaps (.cons (.var 0) (.cons (.var 1) (.cons (.tup (.cons (.var 2) .nil)) .nil)))))
 (.cons (.ite (.or2 (.nt (.call I.areNum (.cons (.var 0) (.cons (.var 3) .nil)))) (.one (.nt (.call I.areNum (.cons (.var 0) (.cons (.var 4) .nil))))))
 (.cons (.ret (.con (.bl false)))
 .nil)
 .nil)
 (.cons (.ret (.cmp .eq (.tup (.cons (.var 3) (.cons (.var 4) .nil))) (.call I.ended (.cons (.call I.around (.cons (.var 0) .nil)) (.cons (.var 1) (.cons (.var 2) .nil))))))
 .nil)))
def b_added (I : Ix) : S := (.cons (.exp (.call I.checkHeaps (.cons (.var 0) (.cons (.var 1) (.cons (.tup (.cons (.var 2) (.cons (.var 3) .nil))) .nil)))))
 (.cons (.ret (.call I.together (.cons (.call I.around (.cons (.var 0) .nil)) (.cons (.var 1) (.cons (.var 2) (.cons (.var 3) .nil))))))
 .nil))
def b_together (I : Ix) : S := (.cons (.asg (.var 4) (.blt (.list false) (.cons (.idx (.call I.ended (.cons (.var 0) (.cons (.var 1) (.cons (.lc true (.tup (.cons (.var 5) (.cons (.var 6) .nil))) .zip (.cons (.var 2) (.cons (.var 3) .nil)) (.con (.bl true)) (.bin (.add true) (.var 5) (.var 6))) .nil)))) (.con (.int 0))) .nil)))
 (.cons (.asg (.idx (.var 4) (.var 1)) (.con (.int 0)))
 (.cons (.ret (.blt .tuple (.cons (.var 4) .nil)))
 .nil)))
def b_take (I : Ix) : S := (.cons (.ite (.cmp .eq (.idx (.var 0) (.con (.int 1))) (.con (.int 0)))
 (.cons (.asg (.var 2) (.idx (.var 0) (.con (.int 2))))
 (.cons (.asg (.var 3) (.con (.int 0)))
 (.cons (.ite (.cmp .lt (.var 2) (.blt .len (.cons (.idx (.var 0) (.con (.int 3))) .nil)))
 (.cons (.asg (.var 3) (.idx (.idx (.var 0) (.con (.int 3))) (.var 2)))
 (.cons (.asg (.idx (.var 0) (.con (.int 1))) (.ite (.cmp .ge (.var 3) (.bin .pow (.con (.int 10)) (.con (.int 18)))) (.con (.int 60)) (.neg (.con (.int 9)))))
 .nil))
 .nil)
 (.cons (.asg (.idx (.var 0) (.con (.int 2))) (.bin (.add true) (.var 2) (.con (.int 1))))
 (.cons (.asg (.idx (.var 0) (.con (.int 0))) (.var 3))
 (.cons (.ite (.cmp .eq (.idx (.var 0) (.con (.int 1))) (.con (.int 0)))
 (.cons (.ret (.con (.int 0)))
 .nil)
 .nil)
 .nil))))))
 .nil)
 (.cons (.ite (.cmp .gt (.idx (.var 0) (.con (.int 1))) (.con (.int 0)))
 (.cons (.asg (.var 4) (.bin .mod (.blt .int (.cons (.idx (.var 0) (.con (.int 0))) .nil)) (.var 1)))
 (.cons (.asg (.idx (.var 0) (.con (.int 0))) (.bin .fdiv (.idx (.var 0) (.con (.int 0))) (.var 1)))
 (.cons (.asg (.idx (.var 0) (.con (.int 1))) (.ite (.cmp .gt (.idx (.var 0) (.con (.int 0))) (.con (.int 0))) (.bin .sub (.idx (.var 0) (.con (.int 1))) (.con (.int 1))) (.con (.int 0))))
 (.cons (.ret (.var 4))
 .nil))))
 .nil)
 (.cons (.asg (.idx (.var 0) (.con (.int 1))) (.bin (.add true) (.idx (.var 0) (.con (.int 1))) (.con (.int 1))))
 (.cons (.asg (.idx (.var 0) (.con (.int 0))) (.bin .mod (.blt .int (.cons (.bin (.add true) (.bin (.mul true) (.idx (.var 0) (.con (.int 0))) (.con (.int 48271))) (.bin (.mul true) (.con (.int 69621)) (.bin (.add true) (.idx (.var 0) (.con (.int 1))) (.con (.int 20))))) .nil)) (.con (.int 2147483647))))
 (.cons (.ret (.bin .mod (.bin .mod (.blt .int (.cons (.bin (.add true) (.bin .fdiv (.idx (.var 0) (.con (.int 0))) (.con (.int 7))) (.idx (.var 0) (.con (.int 0)))) .nil)) (.con (.int 1000003))) (.var 1)))
 .nil)))))
def b_pick (I : Ix) : S := (.cons (.ret (.idx (.var 1) (.call I.take (.cons (.var 0) (.cons (.blt .len (.cons (.var 1) .nil)) .nil)))))
 .nil)
def b_hung (I : Ix) : S := (.cons (.ite (.cmp .eq (.call I.take (.cons (.var 0) (.cons (.con (.int 6)) .nil))) (.con (.int 0)))
 (.cons (.ret (.call I.pick (.cons (.var 0) (.cons (.lst true (.cons (.tup (.cons (.con (.int 3)) (.cons (.tup (.cons (.tup (.cons (.con (.int 0)) (.cons (.con (.int 1)) (.cons (.tup (.cons (.con (.int 1)) (.cons (.con (.int 1)) .nil))) .nil)))) (.cons (.tup (.cons (.con (.int 1)) (.cons (.con (.int 2)) (.cons (.tup (.cons (.con (.int 1)) (.cons (.con (.int 1)) .nil))) .nil)))) (.cons (.tup (.cons (.con (.int 0)) (.cons (.con (.int 2)) (.cons (.tup (.cons (.con (.int 1)) (.cons (.con (.int 1)) .nil))) .nil)))) .nil)))) .nil))) (.cons (.tup (.cons (.con (.int 4)) (.cons (.blt .tuple (.cons (.lc true (.tup (.cons (.var 7) (.cons (.var 8) .nil))) .gen (.cons (.tup (.cons (.tup (.cons (.con (.int 0)) (.cons (.con (.int 1)) .nil))) (.cons (.tup (.cons (.con (.int 0)) (.cons (.con (.int 2)) .nil))) (.cons (.tup (.cons (.con (.int 0)) (.cons (.con (.int 3)) .nil))) (.cons (.tup (.cons (.con (.int 1)) (.cons (.con (.int 2)) .nil))) (.cons (.tup (.cons (.con (.int 1)) (.cons (.con (.int 3)) .nil))) (.cons (.tup (.cons (.con (.int 2)) (.cons (.con (.int 3)) .nil))) .nil))))))) .nil) (.con (.bl true)) (.tup (.cons (.var 7) (.cons (.var 8) (.cons (.tup (.cons (.con (.int 1)) (.cons (.con (.int 1)) .nil))) .nil))))) .nil)) .nil))) (.cons (.tup (.cons (.con (.int 2)) (.cons (.tup (.cons (.tup (.cons (.con (.int 0)) (.cons (.con (.int 1)) (.cons (.tup (.cons (.con (.int 1)) (.cons (.con (.int 1)) .nil))) .nil)))) (.cons (.tup (.cons (.con (.int 1)) (.cons (.con (.int 0)) (.cons (.tup (.cons (.con (.int 1)) (.cons (.con (.int 1)) .nil))) .nil)))) (.cons (.tup (.cons (.con (.int 0)) (.cons (.con (.int 1)) (.cons (.tup (.cons (.con (.int 1)) (.cons (.con (.int 1)) .nil))) .nil)))) .nil)))) .nil))) (.cons (.tup (.cons (.con (.int 4)) (.cons (.blt .tuple (.cons (.lc true (.tup (.cons (.var 7) (.cons (.var 8) .nil))) .gen (.cons (.tup (.cons (.tup (.cons (.con (.int 0)) (.cons (.con (.int 1)) .nil))) (.cons (.tup (.cons (.con (.int 1)) (.cons (.con (.int 2)) .nil))) (.cons (.tup (.cons (.con (.int 2)) (.cons (.con (.int 3)) .nil))) (.cons (.tup (.cons (.con (.int 3)) (.cons (.con (.int 0)) .nil))) (.cons (.tup (.cons (.con (.int 0)) (.cons (.con (.int 2)) .nil))) .nil)))))) .nil) (.con (.bl true)) (.tup (.cons (.var 7) (.cons (.var 8) (.cons (.tup (.cons (.con (.int 1)) (.cons (.con (.int 1)) .nil))) .nil))))) .nil)) .nil))) .nil))))) .nil))))
 .nil)
 .nil)
 (.cons (.par [5, 6] (.cons (.bin (.add true) (.con (.int 2)) (.call I.take (.cons (.var 0) (.cons (.bin .sub (.var 1) (.con (.int 1))) .nil)))) (.cons (.lst false .nil) .nil)))
 (.cons (.for (.var 3) .rng (.cons (.con (.int 1)) (.cons (.var 5) .nil))
 (.cons (.exp (.mth .append (.var 6) (.cons (.tup (.cons (.call I.take (.cons (.var 0) (.cons (.var 3) .nil))) (.cons (.var 3) (.cons (.tup (.cons (.con (.int 1)) (.cons (.con (.int 1)) .nil))) .nil)))) .nil)))
 .nil))
 (.cons (.for (.var 4) .rng (.cons (.call I.take (.cons (.var 0) (.cons (.bin (.add true) (.var 2) (.con (.int 1))) .nil))) .nil)
 (.cons (.asg (.var 7) (.call I.take (.cons (.var 0) (.cons (.var 5) .nil))))
 (.cons (.exp (.mth .append (.var 6) (.cons (.tup (.cons (.var 7) (.cons (.bin .mod (.bin (.add true) (.bin (.add true) (.var 7) (.con (.int 1))) (.call I.take (.cons (.var 0) (.cons (.bin .sub (.var 5) (.con (.int 1))) .nil)))) (.var 5)) (.cons (.tup (.cons (.con (.int 1)) (.cons (.con (.int 1)) .nil))) .nil)))) .nil)))
 .nil)))
 (.cons (.ret (.tup (.cons (.var 5) (.cons (.blt .tuple (.cons (.var 6) .nil)) .nil))))
 .nil)))))
def b_lnear (I : Ix) : S := (.cons (.ret (.lc true (.var 1) .rng (.cons (.idx (.var 0) (.con (.int 0))) .nil) (.con (.bl true)) (.lc true (.tup (.cons (.var 2) (.cons (.var 3) (.cons (.var 4) .nil)))) .gen (.cons (.idx (.var 0) (.con (.int 1))) .nil) (.cmp .isin (.var 1) (.tup (.cons (.var 2) (.cons (.var 3) .nil)))) (.ite (.cmp .eq (.var 2) (.var 1)) (.var 3) (.var 2)))))
 .nil)
structure LibN (fns : List Fn) (G : List D) (I : Ix) : Prop where
  num0 : fns[I.num0]? = some ⟨1, 1, b_num0 I⟩
  numN : fns[I.numN]? = some ⟨1, 1, b_numN I⟩
  common : fns[I.common]? = some ⟨2, 2, b_common I⟩
  frac : fns[I.frac]? = some ⟨1, 1, b_frac I⟩
  below : fns[I.below]? = some ⟨2, 2, b_below I⟩
  tie : fns[I.tie]? = some ⟨2, 2, b_tie I⟩
  net : fns[I.net]? = some ⟨1, 2, b_net I⟩
  checkNet : fns[I.checkNet]? = some ⟨1, 1, b_checkNet I⟩
  lots : fns[I.lots]? = some ⟨2, 9, b_lots I⟩
  partsOf : fns[I.partsOf]? = some ⟨1, 2, b_partsOf I⟩
  take : fns[I.take]? = some ⟨2, 5, b_take I⟩
  gP : G[I.gP]? = some (.int 12)
  gT : G[I.gT]? = some (.int 30)
structure Lib0 (fns : List Fn) (G : List D) (I : Ix) : Prop extends LibN fns G I where
  parts : fns[I.parts]? = some ⟨1, 1, b_parts I⟩
  numC : fns[I.numC]? = some ⟨1, 1, b_numC I⟩
  plain : fns[I.plain]? = some ⟨1, 4, b_plain I⟩
  areNum : fns[I.areNum]? = some ⟨2, 3, b_areNum I⟩
  around : fns[I.around]? = some ⟨1, 6, b_around I⟩
  pick : fns[I.pick]? = some ⟨2, 2, b_pick I⟩
  hung : fns[I.hung]? = some ⟨3, 9, b_hung I⟩
  lnear : fns[I.lnear]? = some ⟨1, 5, b_lnear I⟩
structure Lib (fns : List Fn) (G : List D) (I : Ix) : Prop extends Lib0 fns G I where
  checkNum : fns[I.checkNum]? = some ⟨2, 3, b_checkNum I⟩
  checkHeaps : fns[I.checkHeaps]? = some ⟨3, 4, b_checkHeaps I⟩
  place : fns[I.place]? = some ⟨2, 2, b_place I⟩
  fire : fns[I.fire]? = some ⟨3, 7, b_fire I⟩
  fired : fns[I.fired]? = some ⟨3, 3, b_fired I⟩
  ended : fns[I.ended]? = some ⟨3, 9, b_ended I⟩
  areHeaps : fns[I.areHeaps]? = some ⟨3, 5, b_areHeaps I⟩
  settle : fns[I.settle]? = some ⟨3, 3, b_settle I⟩
  isSettled : fns[I.isSettled]? = some ⟨5, 5, b_isSettled I⟩
instance {fns : List Fn} {G : List D} {I : Ix} : CoeOut (Lib fns G I) (Lib0 fns G I) := ⟨Lib.toLib0⟩
instance {fns : List Fn} {G : List D} {I : Ix} : CoeOut (Lib0 fns G I) (LibN fns G I) := ⟨Lib0.toLibN⟩
structure Lib2 (fns : List Fn) (I : Ix) : Prop where
  added : fns[I.added]? = some ⟨4, 4, b_added I⟩
  together : fns[I.together]? = some ⟨4, 7, b_together I⟩
end CB
namespace CB
open MP DR Chip
/-! ### nets as values -/
def oneD : D := .tup [.int 1, .int 1]
def tieD (p : Nat × Nat) : D := .tup [.int (p.1 : Int), .int (p.2 : Int), oneD]
def netD (n : Nat) (ts : Ties) : D := .tup [.int (n : Int), .tup (ts.map tieD)]
def rw_ (n : Nat) (f : Nat → Int) : List D := (List.range n).map fun x => .int (f x)
structure Fit (n : Nat) (ts : Ties) : Prop extends Good n ts where
  n12 : n ≤ 12
  t30 : ts.length ≤ 30
section
variable {fns : List Fn} {G : List D} {I : Ix} {W k : Nat} {h : Heap} {n : Nat} {ts : Ties}
theorem numC_int (L : Lib0 fns G I) (i : Int) : callF fns G W (k + 1) I.numC [.int i] h = .ok (.bl true) h := fnc L.numC rfl rfl
theorem numN_int (L : LibN fns G I) (i : Int) : callF fns G W (k + 1) I.numN [.int i] h = .ok (.bl true) h := fnc L.numN rfl rfl
theorem le_in (x y : Int) (h : Heap) : opC .le (.int x) (.int y) h = some (decide (x ≤ y)) := rfl
theorem below_in (L : LibN fns G I) {n x : Int} (h0 : 0 ≤ x) (h1 : x < n) : callF fns G W (k + 2) I.below [.int n, .int x] h = .ok (.bl true) h :=
  fnc L.below rfl (retc (and2t (callc (ar1 rfl) (numN_int L x)) (onec (chnc rfl rfl (by rw [le_in, decide_eq_true h0]) rfl (by rw [lt1, decide_eq_true h1])))))
theorem common_one (L : LibN fns G I) : callF fns G (W + 2) (k + 1) I.common [.int 1, .int 1] h = .ok (.int 1) h := fnc L.common rfl rfl
theorem frac_one (L : LibN fns G I) : callF fns G (W + 2) (k + 2) I.frac [oneD] h = .ok (.bl true) h := by
  refine fnc L.frac rfl ?_
  refine (itef (h1 := h) (or2f (ntc (k := true) rfl) (or2f rfl (or2f (ntc (k := true) (callc (ar1 rfl) (numN_int L 1))) (onec (ntc (k := true) (callc (ar1 rfl) (numN_int L 1)))))))).trans ?_
  exact retc (and2t rfl (onec (cmpc (callc (arc rfl (ar1 rfl)) (common_one L)) rfl rfl)))
theorem tie_in (L : LibN fns G I) {p : Nat × Nat} (h1 : p.1 < n) (h2 : p.2 < n) (h3 : p.1 ≠ p.2) : callF fns G (W + 2) (k + 3) I.tie [.int (n : Int), tieD p] h = .ok (.bl true) h := by
  refine fnc L.tie rfl ?_
  refine (itef (h1 := h) (or2f (ntc (k := true) rfl) (or2f rfl (or2f (ntc (k := true) (callc (arc rfl (ar1 rfl)) (below_in L (by omega) (by omega)))) (or2f (ntc (k := true) (callc (arc rfl (ar1 rfl)) (below_in L (by omega) (by omega)))) (onec (cmpc (x := .int (p.1 : Int)) (y := .int (p.2 : Int)) rfl rfl (by rw [eq1, beq_eq_false_iff_ne.mpr (by omega)])))))))).trans ?_
  exact retc (and2t (callc (ar1 rfl) (frac_one L)) (onec rfl))
theorem net_in (L : LibN fns G I) (F : Fit n ts) : callF fns G (W + 2) (k + 4) I.net [netD n ts] h = .ok (.bl true) h := by
  refine fnc L.net rfl ?_
  refine (itef (h1 := h) ?_).trans ?_
  · exact or2f (ntc (k := true) rfl) (or2f rfl (or2f (ntc (k := true) (callc (ar1 rfl) (numN_int L (n : Int)))) (onec (ntc (k := true) (chnc (x := .int 1) (y := .int (n : Int)) rfl rfl (by rw [le_in, decide_eq_true (by have := F.two; omega)]) (gloc L.gP) (by rw [le_in, decide_eq_true (by have := F.n12; omega)]))))))
  refine retc (and2t rfl (and2t (cmpc (x := .int (ts.length : Int)) (bltc (ar1 (idxc rfl rfl rfl)) (by show R.ok (D.int ((ts.map tieD).length : Nat)) h = _; rw [List.length_map])) (gloc L.gT) (by rw [le_in, decide_eq_true (by have := F.t30; omega)])) (onec ?_)))
  refine bltc (ar1 (lcmap (L := ts) (f := tieD) (g := fun p => .bl ((fun _ => true) p)) rfl rfl (fun p hp => ?_) (Nat.le_trans F.t30 (by decide)))) ((all_map (p := fun _ => true) ts h).trans (by rw [List.all_eq_true.mpr fun _ _ => rfl]))
  obtain ⟨h1, h2, h3⟩ := F.inn p hp
  exact turnT rfl (callc (arc rfl (ar1 rfl)) (tie_in L h1 h2 h3))
end
end CB
namespace CB
open MP DR Chip
section
variable {fns : List Fn} {G : List D} {I : Ix} {W k : Nat} {h : Heap} {n : Nat} {ts : Ties}
/-! ### lots: the parts of a net -/
def mn (a b : Int) : Int := if b < a then b else a
def mxx (a b : Int) : Int := if b > a then b else a
def stp (f : Nat → Int) (p : Nat × Nat) : Nat → Int := fun x => if f x = mxx (f p.1) (f p.2) then mn (f p.1) (f p.2) else f x
def lotF (f : Nat → Int) : Ties → (Nat → Int)
  | [] => f
  | p :: ts => lotF (stp f p) ts
theorem lotF_same {x y : Nat} : ∀ (ts : Ties) {f : Nat → Int}, f x = f y → lotF f ts x = lotF f ts y
  | [], _, h => h
  | p :: ts, f, h => lotF_same ts (by unfold stp; rw [h])
theorem stp_tie (f : Nat → Int) (p : Nat × Nat) : stp f p p.1 = stp f p p.2 := by
  unfold stp mxx mn
  split <;> split <;> split <;> (try split) <;> omega
theorem lotF_tie {p : Nat × Nat} : ∀ {ts : Ties} {f : Nat → Int}, p ∈ ts → lotF f ts p.1 = lotF f ts p.2
  | q :: ts, f, h => by
    rcases List.mem_cons.mp h with e | e
    · subst e
      exact lotF_same ts (stp_tie f p)
    · exact lotF_tie (f := stp f q) e
theorem lotF_zero : ∀ (ts : Ties) {f : Nat → Int}, (∀ x, 0 ≤ f x) → f 0 = 0 → lotF f ts 0 = 0
  | [], f, _, h => h
  | p :: ts, f, h1, h2 => lotF_zero ts (f := stp f p) (fun x => by
      have a := h1 x; have b := h1 p.1; have c := h1 p.2
      unfold stp mn
      split <;> (try split) <;> omega) (by
      have b := h1 p.1; have c := h1 p.2
      unfold stp mxx mn
      rw [h2]
      split <;> split <;> (try split) <;> omega)
theorem lot_all (F : Good n ts) : ∀ x, x < n → lotF (fun x => (x : Int)) ts x = 0 := by
  intro x
  induction x using Nat.strongRecOn with
  | ind x ih =>
    intro hx
    by_cases h0 : x = 0
    · subst h0; exact lotF_zero ts (fun x => by omega) rfl
    · obtain ⟨y, hy, h⟩ := F.tree x (by omega) hx
      have e := ih y hy (by omega)
      rcases h with h | h
      · have := lotF_tie (f := fun x => (x : Int)) h; dsimp only at this; omega
      · have := lotF_tie (f := fun x => (x : Int)) h; dsimp only at this; omega
def pairD (p : Nat × Nat) : D := .tup [.int (p.1 : Int), .int (p.2 : Int)]
theorem rw_at {f : Nat → Int} {x : Nat} (hx : x < n) : opI (.lst (rw_ n f)) (.int (x : Int)) h = some (.int (f x)) := by
  show atI (rw_ n f) (x : Int) = _
  unfold atI ixN rw_
  rw [List.length_map, List.length_range, if_pos (by omega), if_pos (by omega)]
  show ((List.range n).map _)[(x : Int).toNat]? = _
  rw [List.getElem?_map, List.getElem?_range (by omega)]
  simp
theorem rwT_at {f : Nat → Int} {x : Nat} (hx : x < n) : opI (.tup (rw_ n f)) (.int (x : Int)) h = some (.int (f x)) := rw_at (h := h) hx
theorem rw_len {f : Nat → Int} : (rw_ n f).length = n := by unfold rw_; rw [List.length_map, List.length_range]
theorem opB_add (x y : Int) (h : Heap) : opB (.add true) (.int x) (.int y) h = .ok (.int (x + y)) h := rfl
def lotBody (I : Ix) : S := (.cons (.asg (.tup (.cons (.var 5) (.cons (.var 6) .nil))) (.tup (.cons (.blt .min2 (.cons (.idx (.var 2) (.var 3)) (.cons (.idx (.var 2) (.var 4)) .nil))) (.cons (.blt .max2 (.cons (.idx (.var 2) (.var 3)) (.cons (.idx (.var 2) (.var 4)) .nil))) .nil))))
 (.cons (.asg (.var 2) (.lc true (.var 8) .gen (.cons (.var 2) .nil) (.con (.bl true)) (.ite (.cmp .eq (.var 8) (.var 6)) (.var 5) (.var 8))))
 .nil))
theorem lotBody_ok {Φ : Nat → List D → Heap → R D} (hn : n ≤ 64) {f : Nat → Int} {p : Nat × Nat} (h1 : p.1 < n) (h2 : p.2 < n) {d1 d5 d6 d7 d8 : D} :
    eS Φ G W (lotBody I) [.int (n : Int), d1, .lst (rw_ n f), .int (p.1 : Int), .int (p.2 : Int), d5, d6, d7, d8] h = .ok (.nxt [.int (n : Int), d1, .lst (rw_ n (stp f p)), .int (p.1 : Int), .int (p.2 : Int), .int (mn (f p.1) (f p.2)), .int (mxx (f p.1) (f p.2)), d7, d8]) h := by
  unfold lotBody
  refine (asgc (d := .tup [.int (mn (f p.1) (f p.2)), .int (mxx (f p.1) (f p.2))]) (h1 := h) (env' := [.int (n : Int), d1, .lst (rw_ n f), .int (p.1 : Int), .int (p.2 : Int), .int (mn (f p.1) (f p.2)), .int (mxx (f p.1) (f p.2)), d7, d8])
    (arc (bltc (arc (idxc rfl rfl (rw_at h1)) (ar1 (idxc rfl rfl (rw_at h2)))) rfl) (ar1 (bltc (arc (idxc rfl rfl (rw_at h1)) (ar1 (idxc rfl rfl (rw_at h2)))) rfl))) rfl).trans ?_
  refine (asgc (d := .lst (rw_ n (stp f p))) (h1 := h) (env' := [.int (n : Int), d1, .lst (rw_ n (stp f p)), .int (p.1 : Int), .int (p.2 : Int), .int (mn (f p.1) (f p.2)), .int (mxx (f p.1) (f p.2)), d7, d8]) ?_ rfl).trans rfl
  refine lcmap (L := List.range n) (f := fun x => .int (f x)) (g := fun x => .int (stp f p x)) (ds := [.lst (rw_ n f)]) rfl rfl (fun x hx => ?_) (by rw [List.length_range]; exact Nat.le_trans hn (by decide))
  refine turnT (env' := [.int (n : Int), d1, .lst (rw_ n f), .int (p.1 : Int), .int (p.2 : Int), .int (mn (f p.1) (f p.2)), .int (mxx (f p.1) (f p.2)), d7, .int (f x)]) rfl ?_
  by_cases e : f x = mxx (f p.1) (f p.2)
  · have : stp f p x = mn (f p.1) (f p.2) := by unfold stp; rw [if_pos e]
    rw [this]
    exact iteEt (cmpc rfl rfl (by rw [eq1, beq_iff_eq.mpr e])) rfl
  · have : stp f p x = f x := by unfold stp; rw [if_neg e]
    rw [this]
    exact iteEf (cmpc rfl rfl (by rw [eq1, beq_eq_false_iff_ne.mpr e])) rfl
theorem lots_for {Φ : Nat → List D → Heap → R D} (hn : n ≤ 64) {d1 : D} : ∀ (ts : Ties), (∀ p ∈ ts, p.1 < n ∧ p.2 < n) → ∀ {f : Nat → Int} {d3 d4 d5 d6 d7 d8 : D}, ∃ e3 e4 e5 e6,
    forL (fun x env h => R.opt h (bindT (.tup (.cons (.var 3) (.cons (.var 4) .nil))) x env)) (fun env h => eS Φ G W (lotBody I) env h) [] (ts.map pairD) [.int (n : Int), d1, .lst (rw_ n f), d3, d4, d5, d6, d7, d8] h = .ok (.nxt [.int (n : Int), d1, .lst (rw_ n (lotF f ts)), e3, e4, e5, e6, d7, d8]) h
  | [], _, f, d3, d4, d5, d6, d7, d8 => ⟨d3, d4, d5, d6, for0⟩
  | p :: ts, q, f, d3, d4, d5, d6, d7, d8 => by
    obtain ⟨h1, h2⟩ := q p (by simp)
    obtain ⟨e3, e4, e5, e6, e⟩ := lots_for (Φ := Φ) hn ts (fun p hp => q p (by simp [hp])) (f := stp f p) (d3 := .int (p.1 : Int)) (d4 := .int (p.2 : Int)) (d5 := .int (mn (f p.1) (f p.2))) (d6 := .int (mxx (f p.1) (f p.2))) (d7 := d7) (d8 := d8)
    refine ⟨e3, e4, e5, e6, ?_⟩
    rw [List.map_cons, for1 (env1 := [.int (n : Int), d1, .lst (rw_ n f), .int (p.1 : Int), .int (p.2 : Int), d5, d6, d7, d8]) (by rfl) (lotBody_ok hn h1 h2), e]
    rfl
theorem nub_zeros : ∀ (L : List Nat), L ≠ [] → nubI (L.map fun _ => 0) = [0]
  | [x], _ => rfl
  | x :: y :: L, _ => by
    rw [List.map_cons, nubI, nub_zeros (y :: L) (by simp)]
    rfl
theorem fm_some {α β : Type} (g : α → β) : ∀ L : List α, L.filterMap (fun x => some (g x)) = L.map g
  | [] => rfl
  | x :: L => by rw [List.filterMap_cons, List.map_cons, fm_some g L]
theorem lots_in (L : LibN fns G I) (F : Fit n ts) : callF fns G W (k + 1) I.lots [.int (n : Int), .lst (ts.map pairD)] h = .ok (.lst [.tup (rw_ n fun x => (x : Int))]) h := by
  have n64 : n ≤ 64 := Nat.le_trans F.n12 (by decide)
  obtain ⟨e3, e4, e5, e6, e⟩ := lots_for (Φ := callF fns G W k) (G := G) (W := W) (I := I) (h := h) n64 (d1 := .lst (ts.map pairD)) ts (fun p hp => ⟨(F.inn p hp).1, (F.inn p hp).2.1⟩) (f := fun x => (x : Int)) (d3 := .und) (d4 := .und) (d5 := .und) (d6 := .und) (d7 := .und) (d8 := .und)
  have ez : rw_ n (lotF (fun x => (x : Int)) ts) = rw_ n fun _ => 0 := by
    unfold rw_
    apply List.map_congr_left
    intro x hx
    rw [lot_all F.toGood x (List.mem_range.mp hx)]
  rw [ez] at e
  refine fnc L.lots rfl ?_
  refine (asgc (d := .lst (rw_ n fun x => (x : Int))) (h1 := h) (env' := [.int (n : Int), .lst (ts.map pairD), .lst (rw_ n fun x => (x : Int)), .und, .und, .und, .und, .und, .und]) (bltc (ar1 rfl) ?_) rfl).trans ?_
  · show (if big62 (n : Int) && decide ((n : Int) ≤ 4096) then newL true ((rangeI 0 (n : Int)).map .int) h else .bad) = _
    have hb : (big62 (n : Int) && decide ((n : Int) ≤ 4096)) = true := by
      unfold big62
      rw [Bool.and_eq_true, Bool.and_eq_true]
      exact ⟨⟨decide_eq_true (by omega), decide_eq_true (by omega)⟩, decide_eq_true (by omega)⟩
    rw [if_pos hb, rangeI0]
    unfold newL
    rw [if_pos (by rw [List.length_map, List.length_range]; exact Nat.le_trans n64 (by decide)), if_pos rfl]
    rfl
  refine (nxtc (s := .for (.tup (.cons (.var 3) (.cons (.var 4) .nil))) .gen (.cons (.var 1) .nil) (lotBody I)) (h1 := h) (env' := [.int (n : Int), .lst (ts.map pairD), .lst (rw_ n fun _ => 0), e3, e4, e5, e6, .und, .und]) ((forc (ds := [.lst (ts.map pairD)]) (xs := ts.map pairD) rfl rfl).trans e)).trans ?_
  refine retc ?_
  have sset : eE (callF fns G W k) G (.cons (.blt (.sortedSet true) (.cons (.var 2) .nil)) .nil) [.int (n : Int), .lst (ts.map pairD), .lst (rw_ n fun _ => 0), e3, e4, e5, e6, .und, .und] h = .ok (.tup [.lst ([()].map fun _ => .int 0)]) h := by
    refine ar1 (bltc (ar1 rfl) ?_)
    show ((R.opt h (intsOf (rw_ n fun _ => 0))).bind _) = _
    unfold rw_
    rw [intsOf_map, opt1, bind_ok, if_pos (by rw [List.length_map, List.length_range]; exact Nat.lt_of_le_of_lt F.n12 (by decide)), nub_zeros _ (by
      intro z
      have := congrArg List.length z
      rw [List.length_range] at this
      have := F.two
      simp at *
      omega)]
    rfl
  refine lcmap (L := [()]) (f := fun _ => .int 0) (g := fun _ => .tup (rw_ n fun x => (x : Int))) sset rfl (fun _ _ => ?_) (by decide)
  refine turnT (env' := [.int (n : Int), .lst (ts.map pairD), .lst (rw_ n fun _ => 0), e3, e4, e5, e6, .int 0, .und]) rfl ?_
  refine bltc (ar1 (d := .lst ((List.range n).filterMap fun (x : Nat) => some (D.int (x : Int)))) (lcfm (L := List.range n) (f := fun (x : Nat) => .int (x : Int)) (g := fun (x : Nat) => some (D.int (x : Int))) (ds := [.int (n : Int)]) rfl (rng0 (Nat.le_trans n64 (by decide)) h) (fun x hx => ?_) (by rw [List.length_range]; exact Nat.le_trans n64 (by decide)))) ?_
  · exact turnC (env' := [.int (n : Int), .lst (ts.map pairD), .lst (rw_ n fun _ => 0), e3, e4, e5, e6, .int 0, .int (x : Int)]) rfl (cmpc (idxc rfl rfl (rw_at (List.mem_range.mp hx))) rfl rfl) rfl
  · rw [tuplst, fm_some]
    rfl
theorem partsOf_in (L : LibN fns G I) (F : Fit n ts) : callF fns G W (k + 2) I.partsOf [netD n ts] h = .ok (.lst [.tup (rw_ n fun x => (x : Int))]) h := by
  refine fnc L.partsOf rfl ?_
  refine retc (callc (arc (d := .int (n : Int)) (h1 := h) (idxc rfl rfl rfl) (ar1 (d := .lst (ts.map pairD)) (h1 := h) ?_)) (lots_in L F))
  refine lcmap (L := ts) (f := tieD) (g := pairD) rfl rfl (fun p hp => ?_) (Nat.le_trans F.t30 (by decide))
  exact turnT (env' := [netD n ts, tieD p]) rfl rfl
theorem checkNet_in (L : LibN fns G I) (F : Fit n ts) : callF fns G (W + 2) (k + 5) I.checkNet [netD n ts] h = .ok .non h := by
  refine fncN L.checkNet rfl (env := [netD n ts]) ?_
  refine (itef (h1 := h) (ntc (k := true) (callc (ar1 rfl) (net_in L F)))).trans rfl
theorem parts_in (L : Lib0 fns G I) (F : Fit n ts) : callF fns G (W + 2) (k + 6) I.parts [netD n ts] h = .ok (.tup [.tup (rw_ n fun x => (x : Int))]) h := by
  refine fnc L.parts rfl ?_
  refine (expc (d := .non) (h1 := h) (callc (ar1 rfl) (checkNet_in L F))).trans ?_
  exact retc (bltc (ar1 (callc (ar1 rfl) (partsOf_in (k := k + 3) L F))) rfl)
theorem plain_in (L : Lib0 fns G I) (F : Fit n ts) : callF fns G (W + 2) (k + 7) I.plain [netD n ts] h = .ok .non h := by
  refine fncN L.plain rfl (env := [netD n ts, .und, .und, .und]) ?_
  refine (itef (h1 := h) (ntc (k := true) (callc (ar1 rfl) (net_in (k := k + 2) L F)))).trans ?_
  refine (itef (h1 := h) ?_).trans rfl
  refine or2f (cmpc (x := .int (n : Int)) (y := .int 2) (idxc rfl rfl rfl) rfl (by rw [lt1, decide_eq_false (by have := F.two; omega)])) (or2f (ntc (k := true) (bltc (ar1 (lcmap (L := ts) (f := tieD) (g := fun p => .bl ((fun _ => true) p)) rfl rfl (fun p hp => ?_) (Nat.le_trans F.t30 (by decide)))) ((all_map (p := fun _ => true) ts h).trans (by rw [List.all_eq_true.mpr fun _ _ => rfl])))) (onec (cmpc (bltc (ar1 (callc (ar1 rfl) (parts_in L F))) rfl) rfl rfl)))
  exact turnT (env' := [netD n ts, .int (p.1 : Int), .int (p.2 : Int), oneD]) rfl rfl
end
end CB
namespace CB
open MP DR Chip
def tupD (n : Nat) (f : Nat → Int) : D := .tup (rw_ n f)
section
variable {fns : List Fn} {G : List D} {I : Ix} {W k : Nat} {h : Heap} {n : Nat} {ts : Ties}
theorem enum_rng (g : Nat → D) : ∀ (n s : Nat), enumD s ((List.range' s n).map g) = (List.range' s n).map fun x => .tup [.int (x : Int), g x]
  | 0, _ => rfl
  | n + 1, s => by
    rw [List.range'_succ, List.map_cons, List.map_cons, enumD, enum_rng g n (s + 1)]
theorem enum_rw (f : Nat → Int) : enumD 0 (rw_ n f) = (List.range n).map fun x => .tup [.int (x : Int), .int (f x)] := by
  unfold rw_
  rw [List.range_eq_range']
  exact enum_rng (fun x => .int (f x)) n 0
theorem all_true {L : List D} (hL : ∀ d ∈ L, d = .bl true) (h : Heap) : opF .all [.lst L] h = .ok (.bl true) h := by
  have e : L = L.map fun _ => .bl ((fun _ => true) ()) := by
    rw [show (L.map fun _ => D.bl ((fun _ => true) ())) = L.map id from List.map_congr_left fun d hd => (hL d hd).symm, List.map_id]
  rw [e]
  exact (all_map (p := fun _ => true) L h).trans (by rw [List.all_eq_true.mpr fun _ _ => rfl])
theorem len_tup (f : Nat → Int) : opF .len [tupD n f] h = .ok (.int (n : Int)) h := by
  show R.ok (D.int ((rw_ n f).length : Nat)) h = _
  rw [rw_len]
theorem areNum_in (L : Lib0 fns G I) {m : Nat} (hm : m ≤ 64) (f : Nat → Int) : callF fns G W (k + 2) I.areNum [netD n ts, tupD m f] h = .ok (.bl (decide (m = n))) h := by
  refine fnc L.areNum rfl ?_
  refine retc (and2t rfl ?_)
  by_cases e : m = n
  · subst e
    rw [decide_eq_true rfl]
    refine and2t (cmpc (bltc (ar1 rfl) (len_tup f)) (idxc rfl rfl rfl) (by rw [eq1, beq_self_eq_true])) (onec (bltc (ar1 (lcmap (L := List.range m) (f := fun x => .int (f x)) (g := fun x => .bl ((fun _ => true) x)) rfl rfl (fun x hx => ?_) (by rw [List.length_range]; exact Nat.le_trans hm (by decide)))) ((all_map (p := fun _ => true) _ h).trans (by rw [List.all_eq_true.mpr fun _ _ => rfl]))))
    exact turnT (env' := [netD m ts, tupD m f, .int (f x)]) rfl (callc (ar1 rfl) (numC_int L (f x)))
  · rw [decide_eq_false e]
    exact and2f (cmpc (bltc (ar1 rfl) (len_tup f)) (idxc (z := .int (n : Int)) rfl rfl rfl) (by rw [eq1, beq_eq_false_iff_ne.mpr (by omega)]))
theorem areNum_non (L : Lib0 fns G I) : callF fns G W (k + 1) I.areNum [netD n ts, .non] h = .ok (.bl false) h := fnc L.areNum rfl (retc (and2f rfl))
theorem place_in (L : Lib fns G I) {s : Nat} (hs : s < n) : callF fns G W (k + 2) I.place [netD n ts, .int (s : Int)] h = .ok (.bl true) h :=
  fnc L.place rfl (retc (and2t (callc (ar1 rfl) (numC_int L _)) (onec (chnc rfl rfl (by rw [le_in, decide_eq_true (by omega)]) (idxc (z := .int (n : Int)) rfl rfl rfl) (by rw [lt1, decide_eq_true (by omega)])))))
theorem ne_in (x y : Int) (h : Heap) : opC .ne (.int x) (.int y) h = some (!(x == y)) := rfl
theorem areHeaps_in (L : Lib fns G I) (hn : n ≤ 64) {s : Nat} (hs : s < n) {f : Nat → Int} (hf : On n fun x => x ≠ s → 0 ≤ f x) : callF fns G W (k + 3) I.areHeaps [netD n ts, .int (s : Int), tupD n f] h = .ok (.bl true) h := by
  refine fnc L.areHeaps rfl ?_
  refine retc (and2t (callc (arc rfl (ar1 rfl)) (place_in L hs)) (and2t (callc (arc rfl (ar1 rfl)) ((areNum_in L hn f).trans (by rw [decide_eq_true rfl]))) (onec ?_)))
  refine bltc (ar1 (lcfm (L := List.range n) (f := fun x => .tup [.int (x : Int), .int (f x)]) (g := fun x => if x = s then none else some (.bl true)) (ds := [tupD n f]) rfl (by show some (enumD 0 (rw_ n f), []) = _; rw [enum_rw]) (fun x hx => ?_) (by rw [List.length_range]; exact Nat.le_trans hn (by decide)))) (all_true (fun d hd => ?_) h)
  · have hx := List.mem_range.mp hx
    by_cases e : x = s
    · rw [if_pos e]
      exact turnF (env' := [netD n ts, .int (s : Int), tupD n f, .int (x : Int), .int (f x)]) rfl (cmpc rfl rfl (by rw [ne_in, beq_iff_eq.mpr (by omega)]; rfl))
    · rw [if_neg e]
      exact turnC (env' := [netD n ts, .int (s : Int), tupD n f, .int (x : Int), .int (f x)]) rfl (cmpc rfl rfl (by rw [ne_in, beq_eq_false_iff_ne.mpr (by omega)]; rfl)) (cmpc rfl rfl (by rw [ge1, decide_eq_true (hf x hx e)]))
  · obtain ⟨x, _, e⟩ := List.mem_filterMap.mp hd
    split at e
    · cases e
    · exact (Option.some.inj e).symm
theorem checkNum_in (L : Lib fns G I) (F : Fit n ts) (rows : List (Nat → Int)) (hr : rows.length ≤ 64) : callF fns G (W + 2) (k + 8) I.checkNum [netD n ts, .tup (rows.map (tupD n))] h = .ok .non h := by
  refine fncN L.checkNum rfl (env := [netD n ts, .tup (rows.map (tupD n)), .und]) ?_
  refine (itef (h1 := h) (or2f (ntc (k := true) (callc (ar1 rfl) (net_in (k := k + 3) L F))) (onec (ntc (k := true) ?_)))).trans ?_
  · refine bltc (ar1 (lcmap (L := rows) (f := tupD n) (g := fun _ => .bl ((fun _ => true) ())) rfl rfl (fun f _ => ?_) (Nat.le_trans hr (by decide)))) (all_true (fun d hd => ?_) h)
    · exact turnT (env' := [netD n ts, .tup (rows.map (tupD n)), tupD n f]) rfl (callc (arc rfl (ar1 rfl)) ((areNum_in (k := k + 5) L (Nat.le_trans F.n12 (by decide)) f).trans (by rw [decide_eq_true rfl])))
    · obtain ⟨_, _, rfl⟩ := List.mem_map.mp hd; rfl
  · exact (expc (d := .non) (h1 := h) (callc (ar1 rfl) (plain_in L F))).trans rfl
theorem checkHeaps_in (L : Lib fns G I) (F : Fit n ts) {s : Nat} (hs : s < n) (rows : List (Nat → Int)) (hr : rows.length ≤ 64) (hf : ∀ f ∈ rows, On n fun x => x ≠ s → 0 ≤ f x) :
    callF fns G (W + 2) (k + 8) I.checkHeaps [netD n ts, .int (s : Int), .tup (rows.map (tupD n))] h = .ok .non h := by
  refine fncN L.checkHeaps rfl (env := [netD n ts, .int (s : Int), .tup (rows.map (tupD n)), .und]) ?_
  refine (itef (h1 := h) (or2f (ntc (k := true) (callc (ar1 rfl) (net_in (k := k + 3) L F))) (or2f (ntc (k := true) (callc (arc rfl (ar1 rfl)) (place_in (k := k + 5) L hs))) (onec (ntc (k := true) ?_))))).trans ?_
  · refine bltc (ar1 (lcmap (L := rows) (f := tupD n) (g := fun _ => .bl ((fun _ => true) ())) rfl rfl (fun f hm => ?_) (Nat.le_trans hr (by decide)))) (all_true (fun d hd => ?_) h)
    · exact turnT (env' := [netD n ts, .int (s : Int), .tup (rows.map (tupD n)), tupD n f]) rfl (callc (arc rfl (arc rfl (ar1 rfl))) (areHeaps_in (k := k + 4) L (Nat.le_trans F.n12 (by decide)) hs (hf f hm)))
    · obtain ⟨_, _, rfl⟩ := List.mem_map.mp hd; rfl
  · exact (expc (d := .non) (h1 := h) (callc (ar1 rfl) (plain_in L F))).trans rfl
end
end CB
namespace CB
open MP DR Chip
def intsD (l : List Nat) : List D := l.map fun (y : Nat) => D.int (y : Int)
def gR (b n : Nat) : D := .lst ((List.range n).map fun x => .ref (b + x))
def rowsO (n : Nat) (r : Nat → List Nat) : Heap := (List.range n).map fun x => Ob.lst (intsD (r x))
section
variable {fns : List Fn} {G : List D} {I : Ix} {W k : Nat} {h : Heap} {n : Nat} {ts : Ties}
theorem near_app (a b : Ties) (x : Nat) : near (a ++ b) x = near a x ++ near b x := by
  induction a with
  | nil => rfl
  | cons p a ih => rw [List.cons_append, near, near, ih, List.append_assoc]
theorem rows_len (r : Nat → List Nat) : (rowsO n r).length = n := by unfold rowsO; rw [List.length_map, List.length_range]
theorem rows_at (t : Heap) (r : Nat → List Nat) {x : Nat} (hx : x < n) : (h ++ rowsO n r ++ t)[h.length + x]? = some (Ob.lst (intsD (r x))) := by
  rw [List.append_assoc, List.getElem?_append_right (by omega), show h.length + x - h.length = x by omega, List.getElem?_append_left (by rw [rows_len]; exact hx)]
  unfold rowsO
  rw [List.getElem?_map, List.getElem?_range hx]
  rfl
theorem rows_set (t : Heap) (r : Nat → List Nat) {x : Nat} (hx : x < n) (l : List Nat) : (h ++ rowsO n r ++ t).set (h.length + x) (Ob.lst (intsD l)) = h ++ rowsO n (fun z => if z = x then l else r z) ++ t := by
  rw [List.append_assoc, List.set_append_right _ _ (by omega), show h.length + x - h.length = x by omega, List.set_append_left _ _ (by rw [rows_len]; exact hx), List.append_assoc]
  congr 2
  apply List.ext_getElem?
  intro i
  unfold rowsO
  by_cases hi : x = i
  · subst hi
    rw [List.getElem?_set_self (by rw [List.length_map, List.length_range]; exact hx), List.getElem?_map, List.getElem?_range hx]
    simp
  · rw [List.getElem?_set_ne hi, List.getElem?_map, List.getElem?_map]
    by_cases hw : i < n
    · rw [List.getElem?_range hw]
      simp [Ne.symm hi]
    · rw [List.getElem?_eq_none (by rw [List.length_range]; omega)]
      rfl
theorem gR_at (b : Nat) {x : Nat} (hx : x < n) (hh : Heap) : opI (gR b n) (.int (x : Int)) hh = some (.ref (b + x)) := by
  show atI _ _ = _
  unfold atI ixN
  rw [List.length_map, List.length_range, if_pos (by omega), if_pos (by omega)]
  show ((List.range n).map _)[(x : Int).toNat]? = _
  rw [List.getElem?_map, List.getElem?_range (by omega)]
  simp
theorem gR_len (b : Nat) (hh : Heap) : opF .len [gR b n] hh = .ok (.int (n : Int)) hh := by
  show R.ok (D.int (((List.range n).map fun x => D.ref (b + x)).length : Nat)) hh = _
  rw [List.length_map, List.length_range]
/-- many new lists -/
theorem news {Φ : Nat → List D → Heap → R D} {i : Nat} {env : Env} (hi : i < env.length) : ∀ (m s : Nat) (h : Heap), compL (turnL Φ G (.var i) (.con (.bl true)) (.lst false .nil) env) [] ((List.range' s m).map fun (x : Nat) => D.int (x : Int)) h = .ok ((List.range m).map fun x => .ref (h.length + x)) (h ++ List.replicate m (Ob.lst []))
  | 0, s, h => by
    show (if gdOk h [] = true then R.ok [] h else .bad) = _
    rw [if_pos (show gdOk h [] = true from rfl)]
    simp
  | m + 1, s, h => by
    rw [List.range'_succ, List.map_cons]
    show (if gdOk h [] = true then _ else _) = _
    rw [if_pos (show gdOk h [] = true from rfl), turnT (env' := env.set i (.int (s : Int))) (by unfold bindT; rw [if_pos hi]) (show eE Φ G (.lst false .nil) (env.set i (.int (s : Int))) h = .ok (.ref h.length) (h ++ [Ob.lst []]) from rfl), bind_ok, news hi m (s + 1) (h ++ [Ob.lst []]), bind_ok]
    rw [List.length_append, List.append_assoc, List.range_succ_eq_map, List.map_cons, List.map_map]
    congr 1
    show D.ref h.length :: _ = _
    congr 1
    apply List.map_congr_left
    intro x _
    show D.ref (h.length + [Ob.lst []].length + x) = D.ref (h.length + (x + 1))
    congr 1
    simp
    omega
def arBody : S := (.cons (.exp (.mth .append (.idx (.var 1) (.var 2)) (.cons (.var 3) .nil)))
 (.cons (.exp (.mth .append (.idx (.var 1) (.var 3)) (.cons (.var 2) .nil)))
 .nil))
theorem mthc {Φ : Nat → List D → Heap → R D} {m : Mth} {o es : E} {env : Env} {h1 h2 : Heap} {x d : D} {ds : List D} {h3 : Heap} (e1 : eE Φ G o env h = .ok x h1) (e2 : isL h1 x = some ()) (e3 : eE Φ G es env h1 = .ok (.tup ds) h2) (e4 : opM m x ds h2 = .ok d h3) : eE Φ G (.mth m o es) env h = .ok d h3 := by
  rw [eE_mth, e1, bind_ok, e2, opt1, bind_ok, e3, bind_ok]
  exact e4
theorem app1 {m : Nat} {xs : List D} (e : h[m]? = some (.lst xs)) (hl : xs.length < SZ) (d : D) : opM .append (.ref m) [d] h = .ok .non (h.set m (.lst (xs ++ [d]))) := by
  unfold opM
  simp only [e, hl, if_true]
  rfl
theorem isL1 {m : Nat} {xs : List D} (e : h[m]? = some (.lst xs)) : isL h (.ref m) = some () := by
  unfold isL
  simp only [e]
theorem ints_snoc (l : List Nat) (y : Nat) : intsD l ++ [.int (y : Int)] = intsD (l ++ [y]) := by unfold intsD; rw [List.map_append]; rfl
theorem ints_len (l : List Nat) : (intsD l).length = l.length := by unfold intsD; rw [List.length_map]
theorem near_len (a : Ties) (x : Nat) : (near a x).length ≤ a.length := by
  induction a with
  | nil => exact Nat.le_refl 0
  | cons p a ih =>
    rw [near, List.length_append, List.length_cons]
    have : (if p.1 = x then [p.2] else if p.2 = x then [p.1] else []).length ≤ 1 := by
      split
      · exact Nat.le_refl 1
      · split
        · exact Nat.le_refl 1
        · exact Nat.zero_le 1
    omega
theorem near1 (p : Nat × Nat) (hp : p.1 ≠ p.2) (r : Nat → List Nat) : (fun z => if z = p.2 then (fun z => if z = p.1 then r p.1 ++ [p.2] else r z) p.2 ++ [p.1] else (fun z => if z = p.1 then r p.1 ++ [p.2] else r z) z) = fun z => r z ++ near [p] z := by
  funext z
  show _ = r z ++ ((if p.1 = z then [p.2] else if p.2 = z then [p.1] else []) ++ [])
  rw [List.append_nil]
  dsimp only
  by_cases a : z = p.2
  · rw [if_pos a, if_neg (Ne.symm hp), if_neg (by omega), if_pos a.symm, a]
  · rw [if_neg a]
    by_cases b : z = p.1
    · rw [if_pos b, if_pos b.symm, b]
    · rw [if_neg b, if_neg (Ne.symm b), if_neg (Ne.symm a), List.append_nil]
theorem ar_for {Φ : Nat → List D → Heap → R D} {d0 : D} : ∀ (ts : Ties), (∀ p ∈ ts, p.1 < n ∧ p.2 < n ∧ p.1 ≠ p.2) → ∀ {r : Nat → List Nat} (lim : ∀ x, (r x).length + ts.length ≤ 100) {d2 d3 d4 d5 : D}, ∃ e2 e3 e4,
    forL (fun x env h => R.opt h (bindT (.tup (.cons (.var 2) (.cons (.var 3) (.cons (.var 4) .nil)))) x env)) (fun env h => eS Φ G W arBody env h) [] (ts.map tieD) [d0, gR h.length n, d2, d3, d4, d5] (h ++ rowsO n r) = .ok (.nxt [d0, gR h.length n, e2, e3, e4, d5]) (h ++ rowsO n fun x => r x ++ near ts x)
  | [], _, r, lim, d2, d3, d4, d5 => ⟨d2, d3, d4, by
      have : (fun x => r x ++ near [] x) = r := by funext x; exact List.append_nil _
      rw [this]
      exact for0⟩
  | p :: ts, q, r, lim, d2, d3, d4, d5 => by
    obtain ⟨h1, h2, h3⟩ := q p (by simp)
    have lim' : ∀ x, (r x ++ near [p] x).length + ts.length ≤ 100 := fun x => by
      have a := lim x
      have b := near_len [p] x
      rw [List.length_append]
      rw [List.length_cons] at a
      have : [p].length = 1 := rfl
      omega
    obtain ⟨e2, e3, e4, e⟩ := ar_for (Φ := Φ) (d0 := d0) ts (fun p hp => q p (by simp [hp])) (r := fun x => r x ++ near [p] x) lim' (d2 := .int (p.1 : Int)) (d3 := .int (p.2 : Int)) (d4 := oneD) (d5 := d5)
    refine ⟨e2, e3, e4, ?_⟩
    have step : eS Φ G W arBody [d0, gR h.length n, .int (p.1 : Int), .int (p.2 : Int), oneD, d5] (h ++ rowsO n r) = .ok (.nxt [d0, gR h.length n, .int (p.1 : Int), .int (p.2 : Int), oneD, d5]) (h ++ rowsO n fun x => r x ++ near [p] x) := by
      unfold arBody
      have a1 : (h ++ rowsO n r)[h.length + p.1]? = some (Ob.lst (intsD (r p.1))) := by simpa using rows_at (h := h) [] r h1
      have s1 : (h ++ rowsO n r).set (h.length + p.1) (Ob.lst (intsD (r p.1 ++ [p.2]))) = h ++ rowsO n (fun z => if z = p.1 then r p.1 ++ [p.2] else r z) := by simpa using rows_set (h := h) [] r h1 (r p.1 ++ [p.2])
      have a2 : (h ++ rowsO n (fun z => if z = p.1 then r p.1 ++ [p.2] else r z))[h.length + p.2]? = some (Ob.lst (intsD ((fun z => if z = p.1 then r p.1 ++ [p.2] else r z) p.2))) := by simpa using rows_at (h := h) [] (fun z => if z = p.1 then r p.1 ++ [p.2] else r z) h2
      have s2 := rows_set (h := h) [] (fun z => if z = p.1 then r p.1 ++ [p.2] else r z) h2 ((fun z => if z = p.1 then r p.1 ++ [p.2] else r z) p.2 ++ [p.1])
      rw [List.append_nil, List.append_nil, near1 p h3 r] at s2
      refine (expc (d := .non) (h1 := h ++ rowsO n (fun z => if z = p.1 then r p.1 ++ [p.2] else r z)) (mthc (idxc rfl rfl (gR_at h.length h1 _)) (isL1 a1) (ar1 rfl) ?_)).trans ?_
      · have l1 := lim p.1
        rw [app1 a1 (by rw [ints_len]; exact Nat.lt_of_le_of_lt (by omega : (r p.1).length ≤ 100) (by decide)), ints_snoc, s1]
      · refine (expc (d := .non) (h1 := h ++ rowsO n fun x => r x ++ near [p] x) (mthc (idxc rfl rfl (gR_at h.length h2 _)) (isL1 a2) (ar1 rfl) ?_)).trans rfl
        have l2 := lim p.2
        rw [app1 a2 (by
          rw [ints_len]
          have : (if p.2 = p.1 then r p.1 ++ [p.2] else r p.2).length ≤ 100 := by rw [if_neg (Ne.symm h3)]; omega
          exact Nat.lt_of_le_of_lt this (by decide)), ints_snoc, s2]
    rw [List.map_cons, for1 (env1 := [d0, gR h.length n, .int (p.1 : Int), .int (p.2 : Int), oneD, d5]) (by rfl) step, e]
    have : (fun x => (fun x => r x ++ near [p] x) x ++ near ts x) = fun x => r x ++ near (p :: ts) x := by
      funext x
      rw [show (p :: ts) = [p] ++ ts from rfl, near_app, List.append_assoc]
    rw [this]
theorem around_in (L : Lib0 fns G I) (F : Fit n ts) : callF fns G W (k + 1) I.around [netD n ts] h = .ok (gR h.length n) (h ++ rowsO n (near ts)) := by
  obtain ⟨e2, e3, e4, e⟩ := ar_for (Φ := callF fns G W k) (G := G) (W := W) (h := h) (d0 := netD n ts) ts F.inn (r := fun _ => []) (fun x => by have := F.t30; simp; omega) (d2 := .und) (d3 := .und) (d4 := .und) (d5 := .und)
  rw [call_eq L.around rfl]
  show MP.back h.length (eS (callF fns G W k) G W (b_around I) [netD n ts, .und, .und, .und, .und, .und] h) = _
  have e0 : rowsO n (fun _ => []) = List.replicate n (Ob.lst []) := by
    apply List.ext_getElem?
    intro i
    unfold rowsO
    rw [List.getElem?_map]
    by_cases hi : i < n
    · rw [List.getElem?_range hi, List.getElem?_replicate, if_pos hi]; rfl
    · rw [List.getElem?_eq_none (by rw [List.length_range]; omega), List.getElem?_replicate, if_neg hi]; rfl
  have eb : eS (callF fns G W k) G W (b_around I) [netD n ts, .und, .und, .und, .und, .und] h = .ok (.ret (gR h.length n)) (h ++ rowsO n (near ts)) := by
    refine (nxtc (s := .asg (.var 1) (.lc true (.var 5) .rng (.cons (.idx (.var 0) (.con (.int 0))) .nil) (.con (.bl true)) (.lst false .nil))) (h1 := h ++ rowsO n (fun _ => [])) (env' := [netD n ts, gR h.length n, .und, .und, .und, .und]) ?_).trans ?_
    · rw [eS_asg, eE_lc]
      show R.bind (R.bind (R.ok (D.tup [.int (n : Int)]) h) _) _ = _
      rw [bind_ok]
      have it : iterOf .rng (args (.tup [D.int (n : Int)])) h = _ := rng0 (Nat.le_trans F.n12 (by decide)) h
      rw [it]
      show R.bind (R.bind (compL (turnL (callF fns G W k) G (.var 5) (.con (.bl true)) (.lst false .nil) [netD n ts, .und, .und, .und, .und, .und]) [] ((List.range n).map fun (x : Nat) => D.int (x : Int)) h) _) _ = _
      rw [List.range_eq_range', news (by decide : 5 < 6) n 0 h, bind_ok, e0]
      unfold newL
      rw [if_pos (by rw [List.length_map, List.length_range]; exact Nat.le_trans F.n12 (by decide)), if_pos rfl]
      rfl
    · refine (nxtc (s := .for (.tup (.cons (.var 2) (.cons (.var 3) (.cons (.var 4) .nil)))) .gen (.cons (.idx (.var 0) (.con (.int 1))) .nil) arBody) (h1 := h ++ rowsO n fun x => [] ++ near ts x) (env' := [netD n ts, gR h.length n, e2, e3, e4, .und]) ((forc (ds := [.tup (ts.map tieD)]) (xs := ts.map tieD) (h1 := h ++ rowsO n (fun _ => [])) rfl rfl).trans e)).trans ?_
      exact retc rfl
  rw [eb]
  show (if ((gR h.length n).low h.length && ((h ++ rowsO n (near ts)).take h.length).all (Ob.low h.length)) = true then _ else _) = _
  have low : (gR h.length n).low h.length = false := by
    obtain ⟨m, rfl⟩ : ∃ m, n = m + 1 := ⟨n - 1, by have := F.two; omega⟩
    unfold gR
    rw [List.range_succ_eq_map, List.map_cons, D.low, D.lows, D.low]
    simp
  rw [low]
  rfl
end
end CB
namespace CB
open MP DR Chip
def up1 (f : Nat → Int) (x : Nat) (v : Int) : Nat → Int := fun z => if z = x then v else f z
def HE (h : Heap) (n : Nat) (r : Nat → List Nat) (out cnt : Nat → Int) : Heap := h ++ rowsO n r ++ [Ob.lst (rw_ n out), Ob.lst (rw_ n cnt)]
section
variable {fns : List Fn} {G : List D} {I : Ix} {W k : Nat} {h : Heap} {n : Nat} {ts : Ties} {r : Nat → List Nat} {out cnt : Nat → Int}
theorem beqs_ints : ∀ l : List Nat, D.beqs (intsD l) (intsD l) = true
  | [] => by unfold intsD; rw [List.map_nil, D.beqs]
  | x :: l => by
    have := beqs_ints l
    unfold intsD at *
    rw [List.map_cons, D.beqs, this, D.beq]
    simp
theorem rw_on {f g : Nat → Int} (e : On n fun x => f x = g x) : rw_ n f = rw_ n g := by
  unfold rw_
  apply List.map_congr_left
  intro x hx
  rw [e x (List.mem_range.mp hx)]
theorem rw_set {f : Nat → Int} {x : Nat} (hx : x < n) (v : Int) : (rw_ n f).set x (.int v) = rw_ n (up1 f x v) := by
  apply List.ext_getElem?
  intro i
  unfold rw_
  by_cases hi : x = i
  · subst hi
    rw [List.getElem?_set_self (by rw [List.length_map, List.length_range]; exact hx), List.getElem?_map, List.getElem?_range hx]
    simp [up1]
  · rw [List.getElem?_set_ne hi, List.getElem?_map, List.getElem?_map]
    by_cases hw : i < n
    · rw [List.getElem?_range hw]
      simp [up1, Ne.symm hi]
    · rw [List.getElem?_eq_none (by rw [List.length_range]; omega)]
      rfl
theorem HE_row {x : Nat} (hx : x < n) : (HE h n r out cnt)[h.length + x]? = some (Ob.lst (intsD (r x))) := rows_at _ r hx
theorem HE_out : (HE h n r out cnt)[h.length + n]? = some (Ob.lst (rw_ n out)) := by
  unfold HE
  rw [List.getElem?_append_right (by rw [List.length_append, rows_len]; omega), List.length_append, rows_len, Nat.sub_self]
  rfl
theorem HE_cnt : (HE h n r out cnt)[h.length + n + 1]? = some (Ob.lst (rw_ n cnt)) := by
  unfold HE
  rw [List.getElem?_append_right (by rw [List.length_append, rows_len]; omega), List.length_append, rows_len, show h.length + n + 1 - (h.length + n) = 1 by omega]
  rfl
theorem HE_setO (o : Nat → Int) : (HE h n r out cnt).set (h.length + n) (Ob.lst (rw_ n o)) = HE h n r o cnt := by
  unfold HE
  rw [List.set_append_right _ _ (by rw [List.length_append, rows_len]; omega), List.length_append, rows_len, Nat.sub_self]
  rfl
theorem HE_setC (o : Nat → Int) : (HE h n r out cnt).set (h.length + n + 1) (Ob.lst (rw_ n o)) = HE h n r out o := by
  unfold HE
  rw [List.set_append_right _ _ (by rw [List.length_append, rows_len]; omega), List.length_append, rows_len, show h.length + n + 1 - (h.length + n) = 1 by omega]
  rfl
theorem ref_at {m : Nat} {f : Nat → Int} (e : h[m]? = some (Ob.lst (rw_ n f))) {x : Nat} (hx : x < n) : opI (.ref m) (.int (x : Int)) h = some (.int (f x)) := by
  unfold opI
  simp only [e]
  exact rw_at (h := h) hx
theorem ref_put {m : Nat} {f : Nat → Int} (e : h[m]? = some (Ob.lst (rw_ n f))) {x : Nat} (hx : x < n) (v : Int) : setL (.ref m) (.int (x : Int)) (.int v) h = .ok () (h.set m (Ob.lst (rw_ n (up1 f x v)))) := by
  have ix : ixN n (x : Int) = some x := by
    unfold ixN
    rw [if_pos (by omega), if_pos (by omega)]
    simp
  unfold setL
  simp only [e, rw_len, ix]
  unfold MP.setO
  rw [rw_set hx]
theorem ref_len {m : Nat} {xs : List D} (e : h[m]? = some (Ob.lst xs)) : opF .len [.ref m] h = .ok (.int (xs.length : Nat)) h := by
  show (match h[m]? with
    | some (.dic kvs) => R.ok (D.int kvs.length) h
    | some (.dct kvs) => R.ok (D.int kvs.length) h
    | _ => (R.opt h (items h (.ref m))).bind fun ys h => R.ok (D.int ys.length) h) = _
  have : items h (.ref m) = some xs := by unfold items; simp only [e]
  rw [e, this]
  rfl
theorem asgI {Φ : Nat → List D → Heap → R D} {a b e : E} {r : S} {env : Env} {m : Nat} {x v : Int} {h' : Heap} (e1 : eE Φ G e env h = .ok (.int v) h) (e2 : eE Φ G a env h = .ok (.ref m) h) (e3 : eE Φ G b env h = .ok (.int x) h) (e4 : setL (.ref m) (.int x) (.int v) h = .ok () h') : eS Φ G W (.cons (.asg (.idx a b) e) r) env h = eS Φ G W r env h' := by
  refine nxtc ?_
  rw [eS_asg, e1, bind_ok]
  show R.bind (R.bind (eE Φ G a env h) _) _ = _
  rw [e2, bind_ok]
  show R.bind (R.bind (eE Φ G b env h) _) _ = _
  rw [e3, bind_ok, setJ_of e4, bind_ok, bind_ok]
theorem forG1 {t : D → Env → Heap → R Env} {b : Env → Heap → R Fl} {g : Gd} {x : D} {xs : List D} {env env1 env2 : Env} {h h1 : Heap} (hg : gdOk h g = true) (e1 : t x env h = .ok env1 h) (e2 : b env1 h = .ok (.nxt env2) h1) : forL t b g (x :: xs) env h = forL t b g xs env2 h1 := by
  rw [forL]
  rw [if_pos hg, e1, bind_ok, e2, bind_ok]
theorem forG0 {t : D → Env → Heap → R Env} {b : Env → Heap → R Fl} {g : Gd} {env : Env} {h : Heap} (hg : gdOk h g = true) : forL t b g [] env h = .ok (.nxt env) h := by
  rw [forL, if_pos hg]
theorem HE_gd {x : Nat} (hx : x < n) : gdOk (HE h n r out cnt) [(h.length + x, intsD (r x))] = true := by
  unfold gdOk
  simp only [List.all_cons, List.all_nil, HE_row hx, beqs_ints, Bool.and_self]
theorem HE_it {x : Nat} (hx : x < n) : iterOf .gen [.ref (h.length + x)] (HE h n r out cnt) = some (intsD (r x), [(h.length + x, intsD (r x))]) := by
  show (items _ _).map (fun xs => (xs, gdOf _ _)) = _
  have : items (HE h n r out cnt) (.ref (h.length + x)) = some (intsD (r x)) := by unfold items; simp only [HE_row hx]
  rw [this]
  unfold gdOf
  simp only [HE_row hx]
  rfl
def addL (out : Nat → Int) : List Nat → Int → (Nat → Int)
  | [], _ => out
  | y :: l, m => addL (up1 out y (out y + m)) l m
theorem addL_at (m : Int) (z : Nat) : ∀ (l : List Nat) (out : Nat → Int), addL out l m z = out z + m * (l.count z : Nat)
  | [], out => by simp [addL]
  | y :: l, out => by
    rw [addL, addL_at m z l, List.count_cons]
    unfold up1
    by_cases e : z = y
    · subst e
      simp only [if_true, beq_self_eq_true]
      rw [show ((l.count z + 1 : Nat) : Int) = (l.count z : Nat) + 1 by omega, Int.mul_add]
      omega
    · have : (y == z) = false := beq_eq_false_iff_ne.mpr (Ne.symm e)
      simp only [e, if_false, this, Bool.false_eq_true]
      rfl
def inB : S := (.cons (.asg (.idx (.var 4) (.var 8)) (.bin (.add true) (.idx (.var 4) (.var 8)) (.var 7)))
 .nil)
theorem in_for {Φ : Nat → List D → Heap → R D} {d0 d1 d2 d3 d5 d6 : D} {many : Int} {g : Gd} (hg : ∀ o, gdOk (HE h n r o cnt) g = true) : ∀ (l : List Nat), (∀ y ∈ l, y < n) → ∀ {out : Nat → Int} {d8 : D}, ∃ e8,
    forL (fun x env h => R.opt h (bindT (.var 8) x env)) (fun env h => eS Φ G W inB env h) g (intsD l) [d0, d1, d2, d3, .ref (h.length + n), d5, d6, .int many, d8] (HE h n r out cnt) = .ok (.nxt [d0, d1, d2, d3, .ref (h.length + n), d5, d6, .int many, e8]) (HE h n r (addL out l many) cnt)
  | [], _, out, d8 => ⟨d8, forG0 (hg out)⟩
  | y :: l, q, out, d8 => by
    have hy := q y (by simp)
    obtain ⟨e8, e⟩ := in_for (Φ := Φ) (d0 := d0) (d1 := d1) (d2 := d2) (d3 := d3) (d5 := d5) (d6 := d6) hg l (fun z hz => q z (by simp [hz])) (out := up1 out y (out y + many)) (d8 := .int (y : Int))
    refine ⟨e8, ?_⟩
    show forL _ _ g (D.int (y : Int) :: intsD l) _ _ = _
    rw [forG1 (hg out) (env1 := [d0, d1, d2, d3, .ref (h.length + n), d5, d6, .int many, .int (y : Int)]) (env2 := [d0, d1, d2, d3, .ref (h.length + n), d5, d6, .int many, .int (y : Int)]) (h1 := HE h n r (up1 out y (out y + many)) cnt) (by rfl) ?_, e]
    · rfl
    · unfold inB
      refine (asgI (m := h.length + n) (x := (y : Int)) (v := out y + many) (h' := HE h n r (up1 out y (out y + many)) cnt) (binc (idxc rfl rfl (ref_at HE_out hy)) rfl rfl) rfl rfl ?_).trans rfl
      rw [ref_put HE_out hy, HE_setO]
/-- one point's turn -/
def ptB : S := (.cons (.asg (.var 7) (.bin .fdiv (.idx (.var 4) (.var 6)) (.blt .len (.cons (.idx (.var 0) (.var 6)) .nil))))
 (.cons (.ite (.and2 (.cmp .ne (.var 6) (.var 1)) (.one (.cmp .gt (.var 7) (.con (.int 0)))))
 (.cons (.asg (.var 3) (.con (.bl true)))
 (.cons (.asg (.idx (.var 5) (.var 6)) (.bin (.add true) (.idx (.var 5) (.var 6)) (.var 7)))
 (.cons (.asg (.idx (.var 4) (.var 6)) (.bin .sub (.idx (.var 4) (.var 6)) (.bin (.mul true) (.var 7) (.blt .len (.cons (.idx (.var 0) (.var 6)) .nil)))))
 (.cons (.for (.var 8) .gen (.cons (.idx (.var 0) (.var 6)) .nil) inB)
 .nil))))
 .nil)
 .nil))
theorem pt_ok {Φ : Nat → List D → Heap → R D} (F : Fit n ts) {s x : Nat} (hs : s < n) (hx : x < n) {d2 d7 d8 : D} {mv : Bool} : ∃ d7' d8',
    eS Φ G W ptB [gR h.length n, .int (s : Int), d2, .bl mv, .ref (h.length + n), .ref (h.length + n + 1), .int (x : Int), d7, d8] (HE h n (near ts) out cnt) =
      if x ≠ s ∧ 0 < out x / deg ts x then .ok (.nxt [gR h.length n, .int (s : Int), d2, .bl true, .ref (h.length + n), .ref (h.length + n + 1), .int (x : Int), d7', d8']) (HE h n (near ts) (firedC ts out x (out x / deg ts x)) fun z => cnt z + at1 x (out x / deg ts x) z)
      else .ok (.nxt [gR h.length n, .int (s : Int), d2, .bl mv, .ref (h.length + n), .ref (h.length + n + 1), .int (x : Int), d7', d8']) (HE h n (near ts) out cnt) := by
  have dp := F.deg_pos hx
  have dl : deg ts x ≤ 30 := by
    have a := near_len ts x
    have b := F.t30
    unfold deg
    omega
  generalize hm : out x / deg ts x = many
  obtain ⟨e8, ef⟩ := in_for (Φ := Φ) (G := G) (W := W) (h := h) (n := n) (r := near ts) (cnt := fun z => cnt z + at1 x many z) (d0 := gR h.length n) (d1 := .int (s : Int)) (d2 := d2) (d3 := .bl true) (d5 := .ref (h.length + n + 1)) (d6 := .int (x : Int)) (many := many) (g := [(h.length + x, intsD (near ts x))]) (fun o => HE_gd hx) (near ts x) (fun y hy => (near_in F.inn hy).1) (out := up1 out x (out x - many * deg ts x)) (d8 := d8)
  have len : ∀ (o c : Nat → Int), eE Φ G (.blt .len (.cons (.idx (.var 0) (.var 6)) .nil)) [gR h.length n, .int (s : Int), d2, .bl true, .ref (h.length + n), .ref (h.length + n + 1), .int (x : Int), .int many, d8] (HE h n (near ts) o c) = .ok (.int (deg ts x)) (HE h n (near ts) o c) := fun o c =>
    bltc (ar1 (idxc rfl rfl (gR_at _ hx _))) ((ref_len (HE_row hx)).trans (by rw [ints_len]; rfl))
  have s1 : eS Φ G W ptB [gR h.length n, .int (s : Int), d2, .bl mv, .ref (h.length + n), .ref (h.length + n + 1), .int (x : Int), d7, d8] (HE h n (near ts) out cnt) = eS Φ G W (.cons (.ite (.and2 (.cmp .ne (.var 6) (.var 1)) (.one (.cmp .gt (.var 7) (.con (.int 0)))))
 (.cons (.asg (.var 3) (.con (.bl true)))
 (.cons (.asg (.idx (.var 5) (.var 6)) (.bin (.add true) (.idx (.var 5) (.var 6)) (.var 7)))
 (.cons (.asg (.idx (.var 4) (.var 6)) (.bin .sub (.idx (.var 4) (.var 6)) (.bin (.mul true) (.var 7) (.blt .len (.cons (.idx (.var 0) (.var 6)) .nil)))))
 (.cons (.for (.var 8) .gen (.cons (.idx (.var 0) (.var 6)) .nil) inB)
 .nil))))
 .nil)
 .nil) [gR h.length n, .int (s : Int), d2, .bl mv, .ref (h.length + n), .ref (h.length + n + 1), .int (x : Int), .int many, d8] (HE h n (near ts) out cnt) := by
    refine asgc (d := .int many) (h1 := HE h n (near ts) out cnt) (binc (idxc rfl rfl (ref_at HE_out hx)) (bltc (ar1 (idxc rfl rfl (gR_at _ hx _))) ((ref_len (HE_row hx)).trans (by rw [ints_len]))) ?_) rfl
    show (if 0 < deg ts x ∧ deg ts x < 1073741824 then R.ok (D.int (out x / deg ts x)) _ else if 0 < deg ts x ∧ (deg ts x).natAbs < 2 ^ 8999 then R.ok (D.int (out x / deg ts x)) _ else .bad) = _
    rw [if_pos ⟨by omega, by omega⟩, hm]
  rw [s1]
  by_cases c : x ≠ s ∧ 0 < many
  · refine ⟨.int many, e8, ?_⟩
    rw [if_pos c]
    refine (nxtc (itet (h1 := HE h n (near ts) out cnt) (f := .nxt [gR h.length n, .int (s : Int), d2, .bl true, .ref (h.length + n), .ref (h.length + n + 1), .int (x : Int), .int many, e8]) (h2 := HE h n (near ts) (firedC ts out x many) fun z => cnt z + at1 x many z) (and2t (cmpc rfl rfl (by rw [ne_in, beq_eq_false_iff_ne.mpr (by have := c.1; omega)]; rfl)) (onec (cmpc rfl rfl (by rw [gt1, decide_eq_true c.2])))) ?_)).trans rfl
    refine (asgc (d := .bl true) (h1 := HE h n (near ts) out cnt) (env' := [gR h.length n, .int (s : Int), d2, .bl true, .ref (h.length + n), .ref (h.length + n + 1), .int (x : Int), .int many, d8]) rfl rfl).trans ?_
    refine (asgI (m := h.length + n + 1) (x := (x : Int)) (v := cnt x + many) (h' := HE h n (near ts) out fun z => cnt z + at1 x many z) (binc (idxc rfl rfl (ref_at HE_cnt hx)) rfl rfl) rfl rfl ?_).trans ?_
    · rw [ref_put HE_cnt hx, HE_setC]
      have : up1 cnt x (cnt x + many) = fun z => cnt z + at1 x many z := by
        funext z
        unfold up1 at1
        by_cases e : z = x
        · rw [if_pos e, if_pos e, e]
        · rw [if_neg e, if_neg e]; omega
      rw [this]
    refine (asgI (m := h.length + n) (x := (x : Int)) (v := out x - many * deg ts x) (h' := HE h n (near ts) (up1 out x (out x - many * deg ts x)) fun z => cnt z + at1 x many z) (binc (y := .int (many * deg ts x)) (idxc rfl rfl (ref_at HE_out hx)) (binc rfl (len _ _) ?_) rfl) rfl rfl ?_).trans ?_
    · show (if mulOk many (deg ts x) = true then R.ok (D.int (many * deg ts x)) _ else .bad) = _
      rw [if_pos]
      unfold mulOk
      have : smallI (deg ts x) = true := by
        unfold smallI
        rw [Bool.and_eq_true]
        exact ⟨decide_eq_true (by omega), decide_eq_true (by omega)⟩
      rw [this]
      simp
    · rw [ref_put HE_out hx, HE_setO]
    refine (nxtc (s := .for (.var 8) .gen (.cons (.idx (.var 0) (.var 6)) .nil) inB) (h1 := HE h n (near ts) (firedC ts out x many) fun z => cnt z + at1 x many z) (env' := [gR h.length n, .int (s : Int), d2, .bl true, .ref (h.length + n), .ref (h.length + n + 1), .int (x : Int), .int many, e8]) ?_).trans rfl
    rw [eS_for, ar1 (d := .ref (h.length + x)) (h1 := HE h n (near ts) (up1 out x (out x - many * deg ts x)) fun z => cnt z + at1 x many z) (idxc rfl rfl (gR_at _ hx _)), bind_ok]
    have it := HE_it (h := h) (n := n) (r := near ts) (out := up1 out x (out x - many * deg ts x)) (cnt := fun z => cnt z + at1 x many z) hx
    have it' : iterOf .gen (args (.tup [.ref (h.length + x)])) (HE h n (near ts) (up1 out x (out x - many * deg ts x)) fun z => cnt z + at1 x many z) = _ := it
    rw [it']
    refine ef.trans ?_
    have : addL (up1 out x (out x - many * deg ts x)) (near ts x) many = firedC ts out x many := by
      funext z
      rw [addL_at]
      unfold firedC up1
      by_cases e : z = x
      · rw [if_pos e, if_pos e, e]
      · rw [if_neg e, if_neg e]
    rw [this]
  · refine ⟨.int many, d8, ?_⟩
    rw [if_neg c]
    refine (itef (h1 := HE h n (near ts) out cnt) ?_).trans rfl
    by_cases e : x = s
    · exact and2f (cmpc rfl rfl (by rw [ne_in, beq_iff_eq.mpr (by omega)]; rfl))
    · exact and2t (cmpc rfl rfl (by rw [ne_in, beq_eq_false_iff_ne.mpr (by omega)]; rfl)) (onec (cmpc rfl rfl (by rw [gt1, decide_eq_false (by omega)])))
end
end CB
namespace CB
open MP DR Chip
section
variable {fns : List Fn} {G : List D} {I : Ix} {W k : Nat} {h : Heap} {n : Nat} {ts : Ties} {s : Nat} {c0 : Nat → Int}
structure Stp (n : Nat) (ts : Ties) (s : Nat) (c0 : Nat → Int) (mv : Bool) (out u : Nat → Int) (mv' : Bool) (out' u' : Nat → Int) : Prop where
  inv : Inv n ts s c0 out' u'
  le : On n fun x => u x ≤ u' x
  mon : mv' = true → mv = true ∨ sm n u < sm n u'
  no : mv' = false → mv = false ∧ out' = out ∧ u' = u
theorem Stp.trans {a b c : Bool} {o1 u1 o2 u2 o3 u3 : Nat → Int} (x : Stp n ts s c0 a o1 u1 b o2 u2) (y : Stp n ts s c0 b o2 u2 c o3 u3) : Stp n ts s c0 a o1 u1 c o3 u3 where
  inv := y.inv
  le := fun i hi => Int.le_trans (x.le i hi) (y.le i hi)
  mon := fun e => by
    have l1 := sm_le x.le
    have l2 := sm_le y.le
    rcases y.mon e with z | z
    · rcases x.mon z with w | w
      · exact .inl w
      · exact .inr (by omega)
    · exact .inr (by omega)
  no := fun e => by
    obtain ⟨z, e1, e2⟩ := y.no e
    obtain ⟨w, e3, e4⟩ := x.no z
    exact ⟨w, e1.trans e3, e2.trans e4⟩
theorem below_deg {a d : Int} (hd : 1 ≤ d) (h : ¬ 0 < a / d) : a < d := by
  have e := Int.mul_ediv_add_emod a d
  have l := Int.emod_lt_of_pos a (show 0 < d by omega)
  have m : d * (a / d) ≤ d * 0 := Int.mul_le_mul_of_nonneg_left (by omega) (by omega)
  omega
def swB : S := ptB
theorem sweep {Φ : Nat → List D → Heap → R D} (F : Fit n ts) (hs : s < n) {d2 : D} : ∀ (L : List Nat), (∀ x ∈ L, x < n) → ∀ {out u : Nat → Int} {mv : Bool} {d6 d7 d8 : D}, Inv n ts s c0 out u →
    ∃ out' u' mv' e6 e7 e8, forL (fun x env h => R.opt h (bindT (.var 6) x env)) (fun env h => eS Φ G W ptB env h) [] (L.map fun (x : Nat) => D.int (x : Int)) [gR h.length n, .int (s : Int), d2, .bl mv, .ref (h.length + n), .ref (h.length + n + 1), d6, d7, d8] (HE h n (near ts) out u) =
      .ok (.nxt [gR h.length n, .int (s : Int), d2, .bl mv', .ref (h.length + n), .ref (h.length + n + 1), e6, e7, e8]) (HE h n (near ts) out' u') ∧ Stp n ts s c0 mv out u mv' out' u' ∧ (mv' = false → ∀ x ∈ L, x ≠ s → out x < deg ts x)
  | [], _, out, u, mv, d6, d7, d8, I0 => ⟨out, u, mv, d6, d7, d8, for0, ⟨I0, fun _ _ => Int.le_refl _, .inl, fun e => ⟨e, rfl, rfl⟩⟩, fun _ x hx => by simp at hx⟩
  | x :: L, q, out, u, mv, d6, d7, d8, I0 => by
    have hx := q x (by simp)
    obtain ⟨e7, e8, ep⟩ := pt_ok (Φ := Φ) (G := G) (W := W) (h := h) (out := out) (cnt := u) F hs hx (d2 := d2) (d7 := d7) (d8 := d8) (mv := mv)
    by_cases c : x ≠ s ∧ 0 < out x / deg ts x
    · rw [if_pos c] at ep
      have dp := F.deg_pos hx
      have I1 := I0.fire F.toGood hx c.1 (many := out x / deg ts x) (by omega) (Int.mul_ediv_self_le (by omega))
      have st : Stp n ts s c0 mv out u true (firedC ts out x (out x / deg ts x)) fun z => u z + at1 x (out x / deg ts x) z := by
        refine ⟨I1, fun z _ => ?_, fun _ => .inr ?_, fun e => by cases e⟩
        · show u z ≤ u z + at1 x (out x / deg ts x) z
          unfold at1
          split <;> omega
        · refine sm_lt (k := x) (fun z _ => ?_) hx ?_
          · show u z ≤ u z + at1 x (out x / deg ts x) z
            unfold at1
            split <;> omega
          · show u x < u x + at1 x (out x / deg ts x) x
            unfold at1
            rw [if_pos rfl]
            omega
      obtain ⟨out', u', mv', f6, f7, f8, ef, s2, n2⟩ := sweep (Φ := Φ) F hs (d2 := d2) L (fun y hy => q y (by simp [hy])) (mv := true) (d6 := .int (x : Int)) (d7 := e7) (d8 := e8) I1
      refine ⟨out', u', mv', f6, f7, f8, ?_, st.trans s2, fun z y hy hne => ?_⟩
      · rw [List.map_cons, for1 (by rfl) ep]
        exact ef
      · obtain ⟨w, _⟩ := s2.no z
        cases w
    · rw [if_neg c] at ep
      obtain ⟨out', u', mv', f6, f7, f8, ef, s2, n2⟩ := sweep (Φ := Φ) F hs (d2 := d2) L (fun y hy => q y (by simp [hy])) (mv := mv) (d6 := .int (x : Int)) (d7 := e7) (d8 := e8) I0
      refine ⟨out', u', mv', f6, f7, f8, ?_, s2, fun z y hy hne => ?_⟩
      · rw [List.map_cons, for1 (by rfl) ep]
        exact ef
      · rcases List.mem_cons.mp hy with e | e
        · subst e
          exact below_deg (F.deg_pos hx) fun w => c ⟨hne, w⟩
        · exact n2 z y e hne
theorem loop_step {c : Env → Heap → R Bool} {b : Env → Heap → R Fl} {m : Nat} {env env' : Env} {h h' : Heap} (ec : c env h = .ok true h) (eb : b env h = .ok (.nxt env') h') : loop c b (m + 1) env h = loop c b m env' h' := by
  rw [loop, ec, bind_ok, if_pos rfl, eb, bind_ok]
theorem loop_end {c : Env → Heap → R Bool} {b : Env → Heap → R Fl} {m : Nat} {env : Env} {h : Heap} (ec : c env h = .ok false h) : loop c b (m + 1) env h = .ok (.nxt env) h := by
  rw [loop, ec, bind_ok, if_neg (by decide)]
def whB : S := (.cons (.asg (.var 3) (.con (.bl false)))
 (.cons (.for (.var 6) .rng (.cons (.blt .len (.cons (.var 0) .nil)) .nil) ptB)
 .nil))
theorem while_ok {Φ : Nat → List D → Heap → R D} (F : Fit n ts) (hs : s < n) {C : Int} (hC : 0 ≤ C) (hc : On n fun x => x ≠ s → c0 x ≤ C) {d2 : D} : ∀ (m : Nat) {out u : Nat → Int} {d6 d7 d8 : D}, Inv n ts s c0 out u → (n : Int) * ((n + n) * (n * C)) - sm n u + 2 ≤ m →
    ∃ out' u' e6 e7 e8, loop (fun env h => (eE Φ G (.var 3) env h).bind fun x h1 => tru x h1) (fun env h => eS Φ G W whB env h) m [gR h.length n, .int (s : Int), d2, .bl true, .ref (h.length + n), .ref (h.length + n + 1), d6, d7, d8] (HE h n (near ts) out u) =
      .ok (.nxt [gR h.length n, .int (s : Int), d2, .bl false, .ref (h.length + n), .ref (h.length + n + 1), e6, e7, e8]) (HE h n (near ts) out' u') ∧ Inv n ts s c0 out' u' ∧ (On n fun x => x ≠ s → out' x < deg ts x)
  | 0, out, u, d6, d7, d8, I0, hm => by have := I0.all F.toGood hs hC hc; omega
  | m + 1, out, u, d6, d7, d8, I0, hm => by
    obtain ⟨out', u', mv', e6, e7, e8, ef, st, no⟩ := sweep (Φ := Φ) (G := G) (W := W) (h := h) F hs (d2 := d2) (List.range n) (fun x hx => List.mem_range.mp hx) (mv := false) (d6 := d6) (d7 := d7) (d8 := d8) I0
    have body : eS Φ G W whB [gR h.length n, .int (s : Int), d2, .bl true, .ref (h.length + n), .ref (h.length + n + 1), d6, d7, d8] (HE h n (near ts) out u) = .ok (.nxt [gR h.length n, .int (s : Int), d2, .bl mv', .ref (h.length + n), .ref (h.length + n + 1), e6, e7, e8]) (HE h n (near ts) out' u') := by
      refine (asgc (d := .bl false) (h1 := HE h n (near ts) out u) (env' := [gR h.length n, .int (s : Int), d2, .bl false, .ref (h.length + n), .ref (h.length + n + 1), d6, d7, d8]) rfl rfl).trans ?_
      refine (nxtc (s := .for (.var 6) .rng (.cons (.blt .len (.cons (.var 0) .nil)) .nil) ptB) (h1 := HE h n (near ts) out' u') (env' := [gR h.length n, .int (s : Int), d2, .bl mv', .ref (h.length + n), .ref (h.length + n + 1), e6, e7, e8]) ((forc (ds := [.int (n : Int)]) (h1 := HE h n (near ts) out u) (ar1 (bltc (ar1 rfl) (gR_len _ _))) (rng0 (Nat.le_trans F.n12 (by decide)) _)).trans ef)).trans rfl
    have cond : ∀ (b : Bool) (x y z : D) (hh : Heap), ((eE Φ G (.var 3) [gR h.length n, .int (s : Int), d2, .bl b, .ref (h.length + n), .ref (h.length + n + 1), x, y, z] hh).bind fun x h1 => tru x h1) = .ok b hh := fun _ _ _ _ _ => rfl
    have most := I0.all F.toGood hs hC hc
    cases mv' with
    | true =>
      have grow : sm n u < sm n u' := by
        rcases st.mon rfl with z | z
        · cases z
        · exact z
      obtain ⟨out2, u2, f6, f7, f8, e, I2, n2⟩ := while_ok (Φ := Φ) F hs hC hc (d2 := d2) m (d6 := e6) (d7 := e7) (d8 := e8) st.inv (by omega)
      exact ⟨out2, u2, f6, f7, f8, (loop_step (cond true _ _ _ _) body).trans e, I2, n2⟩
    | false =>
      obtain ⟨_, e1, e2⟩ := st.no rfl
      obtain ⟨m', rfl⟩ : ∃ m', m = m' + 1 := ⟨m - 1, by omega⟩
      refine ⟨out', u', e6, e7, e8, (loop_step (cond true _ _ _ _) body).trans (loop_end (cond false _ _ _ _)), st.inv, fun x hx hne => ?_⟩
      rw [e1]
      exact no rfl x (List.mem_range.mpr hx) hne
theorem lows_rw (m : Nat) (f : Nat → Int) : D.lows m (rw_ n f) = true := by
  unfold rw_
  generalize List.range n = L
  induction L with
  | nil => rfl
  | cons x L ih => rw [List.map_cons, D.lows, ih]; rfl
theorem lows_ints (m : Nat) (l : List Nat) : D.lows m (intsD l) = true := by
  unfold intsD
  induction l with
  | nil => rfl
  | cons x L ih => rw [List.map_cons, D.lows, ih]; rfl
theorem rows_low (m : Nat) (r : Nat → List Nat) : (rowsO n r).all (Ob.low m) = true := by
  rw [List.all_eq_true]
  intro o ho
  obtain ⟨x, _, rfl⟩ := List.mem_map.mp ho
  exact lows_ints m _
mutual
theorem low_d {m m' : Nat} (hm : m ≤ m') : ∀ d : D, d.low m = true → d.low m' = true
  | .ref k, e => by rw [D.low, decide_eq_true_eq] at *; omega
  | .tup xs, e => by rw [D.low] at *; exact low_ds hm xs e
  | .lst xs, e => by rw [D.low] at *; exact low_ds hm xs e
  | .frz xs, e => by rw [D.low] at *; exact low_ds hm xs e
  | .clo j xs, e => by rw [D.low] at *; exact low_ds hm xs e
  | .und, _ => rfl
  | .non, _ => rfl
  | .bl _, _ => rfl
  | .int _, _ => rfl
  | .str _, _ => rfl
theorem low_ds {m m' : Nat} (hm : m ≤ m') : ∀ ds : List D, D.lows m ds = true → D.lows m' ds = true
  | [], _ => rfl
  | x :: xs, e => by
    rw [D.lows, Bool.and_eq_true] at *
    exact ⟨low_d hm x e.1, low_ds hm xs e.2⟩
end
/-- no place in what stands in the heap -/
def Pure (h : Heap) : Prop := h.all (Ob.low 0) = true
theorem Pure.low {h : Heap} (p : Pure h) (m : Nat) : h.all (Ob.low m) = true := by
  rw [List.all_eq_true]
  intro o ho
  have q := (List.all_eq_true.mp p) o ho
  cases o with
  | lst xs => exact low_ds (Nat.zero_le m) xs q
  | set xs => exact low_ds (Nat.zero_le m) xs q
  | hid => rfl
  | dic kvs =>
    show (kvs.all fun p => D.low m p.1 && D.low m p.2) = true
    rw [List.all_eq_true]
    intro p hp
    have z := (List.all_eq_true.mp q) p hp
    rw [Bool.and_eq_true] at *
    exact ⟨low_d (Nat.zero_le m) _ z.1, low_d (Nat.zero_le m) _ z.2⟩
  | dct kvs =>
    show (kvs.all fun p => D.low m p.1 && D.low m p.2) = true
    rw [List.all_eq_true]
    intro p hp
    have z := (List.all_eq_true.mp q) p hp
    rw [Bool.and_eq_true] at *
    exact ⟨low_d (Nat.zero_le m) _ z.1, low_d (Nat.zero_le m) _ z.2⟩
theorem Pure.rows {h : Heap} (p : Pure h) (r : Nat → List Nat) : Pure (h ++ rowsO n r) := by
  unfold Pure
  rw [List.all_append, p, rows_low]
  rfl
theorem tup_low (m : Nat) (f : Nat → Int) : (tupD n f).low m = true := by
  unfold tupD
  rw [D.low]
  exact lows_rw m f
/-- ended -/
theorem ended_in (L : Lib fns G I) (F : Fit n ts) (hs : s < n) (hp : Pure h) {c : Nat → Int} {dc : D} (hd : ∀ hh, items hh dc = some (rw_ n c)) (hdu : ∀ hh, eE (callF fns G W k) G (.var 2) [gR h.length n, .int (s : Int), dc, .und, .und, .und, .und, .und, .und] hh = .ok dc hh) {C : Int} (hC : 0 ≤ C) (hc : On n fun x => x ≠ s → 0 ≤ c x ∧ c x ≤ C) (hW : (n : Int) * ((n + n) * (n * C)) + 2 ≤ W) :
    ∃ out u, callF fns G W (k + 1) I.ended [gR h.length n, .int (s : Int), dc] (h ++ rowsO n (near ts)) = .ok (.tup [tupD n out, tupD n u]) (h ++ rowsO n (near ts)) ∧ Least n ts s c u ∧ (On n fun x => out x = aft ts c u x) ∧ (On n fun x => x ≠ s → 0 ≤ out x ∧ out x < deg ts x) := by
  have z0 : sm n (fun _ => 0) = 0 := by rw [sm_const]; omega
  obtain ⟨out, u, e6, e7, e8, ew, Iv, rest⟩ := while_ok (Φ := callF fns G W k) (G := G) (W := W) (h := h) F hs hC (fun x hx hne => (hc x hx hne).2) (d2 := dc) W (d6 := .und) (d7 := .und) (d8 := .und) (inv0 c fun x hx hne => (hc x hx hne).1) (by rw [z0]; omega)
  refine ⟨out, u, ?_, Iv.least rest, Iv.aft_, fun x hx hne => ⟨Iv.nn x hx hne, rest x hx hne⟩⟩
  have hn1 : 1 ≤ n := by have := F.two; omega
  have eb : eS (callF fns G W k) G W (b_ended I) [gR h.length n, .int (s : Int), dc, .und, .und, .und, .und, .und, .und] (h ++ rowsO n (near ts)) = .ok (.ret (.tup [tupD n out, tupD n u])) (HE h n (near ts) out u) := by
    have el : (h ++ rowsO n (near ts)).length = h.length + n := by rw [List.length_append, rows_len]
    have el2 : (h ++ rowsO n (near ts) ++ [Ob.lst (rw_ n c)]).length = h.length + n + 1 := by rw [List.length_append, el]; rfl
    refine (nxtc (h1 := HE h n (near ts) c fun _ => 0) (env' := [gR h.length n, .int (s : Int), dc, .und, .ref (h.length + n), .ref (h.length + n + 1), .und, .und, .und]) ?_).trans ?_
    · rw [eS_par, arc (d := .ref (h.length + n)) (h1 := h ++ rowsO n (near ts) ++ [Ob.lst (rw_ n c)]) (ds := [.ref (h.length + n + 1)]) (h2 := HE h n (near ts) c fun _ => 0) (bltc (ar1 (hdu _)) ?_) (ar1 (binc rfl (bltc (ar1 rfl) (gR_len _ _)) ?_)), bind_ok]
      · rfl
      · show ((R.opt _ (items _ dc)).bind fun ys h => newL false ys h) = _
        rw [hd, opt1, bind_ok]
        unfold newL
        rw [if_pos (by rw [rw_len]; exact Nat.le_trans F.n12 (by decide)), if_neg (by decide), el]
      · show (if decide ((n : Int) ≤ 4096) && decide (-4096 ≤ (n : Int)) && decide ([D.int 0].length ≤ 4096) then newL false (rep (n : Int).toNat [D.int 0]) (h ++ rowsO n (near ts) ++ [Ob.lst (rw_ n c)]) else .bad) = _
        have cnd : (decide ((n : Int) ≤ 4096) && decide (-4096 ≤ (n : Int)) && decide ([D.int 0].length ≤ 4096)) = true := by
          have := F.n12
          rw [Bool.and_eq_true, Bool.and_eq_true]
          exact ⟨⟨decide_eq_true (by omega), decide_eq_true (by omega)⟩, rfl⟩
        have er : rep (n : Int).toNat [D.int 0] = rw_ n fun _ => 0 := by
          rw [Int.toNat_natCast]
          unfold rep rw_
          generalize n = m
          induction m with
          | zero => rfl
          | succ m ih => rw [List.replicate_succ', List.flatten_append, ih, List.range_succ, List.map_append]; rfl
        rw [if_pos cnd, er]
        unfold newL
        rw [if_pos (by rw [rw_len]; exact Nat.le_trans F.n12 (by decide)), if_neg (by decide), el2]
        unfold HE
        rw [List.append_assoc (h ++ rowsO n (near ts))]
        rfl
    refine (asgc (d := .bl true) (h1 := HE h n (near ts) c fun _ => 0) (env' := [gR h.length n, .int (s : Int), dc, .bl true, .ref (h.length + n), .ref (h.length + n + 1), .und, .und, .und]) rfl rfl).trans ?_
    refine (nxtc (s := .whl (.var 3) whB) (h1 := HE h n (near ts) out u) (env' := [gR h.length n, .int (s : Int), dc, .bl false, .ref (h.length + n), .ref (h.length + n + 1), e6, e7, e8]) ((eS_whl ..).trans ew)).trans ?_
    have t1 : opF .tuple [.ref (h.length + n)] (HE h n (near ts) out u) = .ok (tupD n out) (HE h n (near ts) out u) := by
      show ((R.opt _ (items _ (.ref _))).bind fun ys h => R.ok (D.tup ys) h) = _
      have : items (HE h n (near ts) out u) (.ref (h.length + n)) = some (rw_ n out) := by unfold items; simp only [HE_out]
      rw [this]
      rfl
    have t2 : opF .tuple [.ref (h.length + n + 1)] (HE h n (near ts) out u) = .ok (tupD n u) (HE h n (near ts) out u) := by
      show ((R.opt _ (items _ (.ref _))).bind fun ys h => R.ok (D.tup ys) h) = _
      have : items (HE h n (near ts) out u) (.ref (h.length + n + 1)) = some (rw_ n u) := by unfold items; simp only [HE_cnt]
      rw [this]
      rfl
    exact retc (arc (bltc (ar1 rfl) t1) (ar1 (bltc (ar1 rfl) t2)))
  refine fncT L.ended rfl (t := [Ob.lst (rw_ n out), Ob.lst (rw_ n u)]) eb ?_ ((hp.rows _).low _)
  rw [D.low, D.lows, tup_low, D.lows, tup_low]
  rfl
theorem settle_in (L : Lib fns G I) (F : Fit n ts) (hs : s < n) (hp : Pure h) {c : Nat → Int} {C : Int} (hC : 0 ≤ C) (hc : On n fun x => x ≠ s → 0 ≤ c x ∧ c x ≤ C) (hW : (n : Int) * ((n + n) * (n * C)) + 2 ≤ ((W + 2 : Nat) : Int)) :
    ∃ out u, callF fns G (W + 2) (k + 9) I.settle [netD n ts, .int (s : Int), tupD n c] h = .ok (.tup [tupD n out, tupD n u]) h ∧ Least n ts s c u ∧ (On n fun x => out x = aft ts c u x) ∧ (On n fun x => x ≠ s → 0 ≤ out x ∧ out x < deg ts x) := by
  obtain ⟨out, u, e, a, b, d⟩ := ended_in (k := k + 7) L F hs hp (dc := tupD n c) (fun _ => rfl) (fun _ => rfl) hC hc hW
  refine ⟨out, u, ?_, a, b, d⟩
  refine fncT L.settle rfl (t := rowsO n (near ts)) ?_ (by rw [D.low, D.lows, tup_low, D.lows, tup_low]; rfl) (hp.low _)
  refine (expc (d := .non) (h1 := h) (callc (arc rfl (arc rfl (ar1 rfl))) (checkHeaps_in (k := k) L F hs [c] (show 1 ≤ 64 by decide) fun f hf => by rw [List.mem_singleton.mp hf]; exact fun x hx hne => (hc x hx hne).1))).trans ?_
  exact retc (callc (arc (callc (ar1 rfl) (around_in (k := k + 7) L F)) (arc rfl (ar1 rfl))) e)
end
end CB
namespace CB
open MP DR Chip
section
variable {fns : List Fn} {G : List D} {I : Ix} {W k : Nat} {h : Heap} {n : Nat} {ts : Ties} {s : Nat}
/-! ### firing, point by point -/
def fireN (ts : Ties) (c u : Nat → Int) : Nat → (Nat → Int)
  | 0 => c
  | m + 1 => firedC ts (fireN ts c u m) m (u m)
theorem sl_sm (u : Nat → Int) : ∀ {l : List Nat}, (∀ x ∈ l, x < n) → sl u l = sm n fun x => u x * (l.count x : Nat)
  | [], _ => by
    have : (fun x => u x * (([] : List Nat).count x : Nat)) = fun _ => 0 := by funext x; simp
    rw [this, sm_const, sl]; omega
  | y :: l, h => by
    have e : (fun x => u x * ((y :: l).count x : Nat)) = fun x => u x * at1 y 1 x + u x * (l.count x : Nat) := by
      funext x
      rw [List.count_cons]
      unfold at1
      by_cases q : x = y
      · subst q
        simp only [if_true, beq_self_eq_true]
        rw [show ((l.count x + 1 : Nat) : Int) = (l.count x : Nat) + 1 by omega, Int.mul_add]
        omega
      · have : (y == x) = false := beq_eq_false_iff_ne.mpr (Ne.symm q)
        simp only [q, if_false, this, Bool.false_eq_true]
        rw [show ((l.count x + 0 : Nat) : Int) = (l.count x : Nat) by omega]
        omega
    rw [e, sm_add, sm_at u 1 (h y (by simp)), sl, sl_sm u fun x hx => h x (by simp [hx])]
    omega
theorem fireN_eq (c u : Nat → Int) (z : Nat) : ∀ m, fireN ts c u m z = c z - (if z < m then deg ts z * u z else 0) + sm m fun x => u x * ((near ts x).count z : Nat)
  | 0 => by rw [fireN, sm]; simp
  | m + 1 => by
    rw [fireN, sm]
    unfold firedC
    rw [fireN_eq c u z m]
    by_cases e : z = m
    · subst e
      rw [if_pos rfl, if_neg (by omega), if_pos (by omega), Int.mul_comm (u z) (deg ts z)]
      omega
    · rw [if_neg e]
      by_cases q : z < m
      · rw [if_pos q, if_pos (by omega)]; omega
      · rw [if_neg q, if_neg (by omega)]; omega
theorem fireN_aft (F : Good n ts) (c u : Nat → Int) : On n fun z => fireN ts c u n z = aft ts c u z := fun z hz => by
  show fireN ts c u n z = aft ts c u z
  rw [fireN_eq, if_pos hz]
  unfold aft nb
  rw [sl_sm (n := n) u fun x hx => (near_in F.inn hx).1]
  congr 2
  funext x
  rw [count_sym F.inn]
def HF (h : Heap) (n : Nat) (r : Nat → List Nat) (out : Nat → Int) : Heap := h ++ rowsO n r ++ [Ob.lst (rw_ n out)]
theorem HF_row {r : Nat → List Nat} {out : Nat → Int} {x : Nat} (hx : x < n) : (HF h n r out)[h.length + x]? = some (Ob.lst (intsD (r x))) := rows_at _ r hx
theorem HF_out {r : Nat → List Nat} {out : Nat → Int} : (HF h n r out)[h.length + n]? = some (Ob.lst (rw_ n out)) := by
  unfold HF
  rw [List.getElem?_append_right (by rw [List.length_append, rows_len]; omega), List.length_append, rows_len, Nat.sub_self]
  rfl
theorem HF_set {r : Nat → List Nat} {out : Nat → Int} (o : Nat → Int) : (HF h n r out).set (h.length + n) (Ob.lst (rw_ n o)) = HF h n r o := by
  unfold HF
  rw [List.set_append_right _ _ (by rw [List.length_append, rows_len]; omega), List.length_append, rows_len, Nat.sub_self]
  rfl
theorem HF_gd {r : Nat → List Nat} {out : Nat → Int} {x : Nat} (hx : x < n) : gdOk (HF h n r out) [(h.length + x, intsD (r x))] = true := by
  unfold gdOk
  simp only [List.all_cons, List.all_nil, HF_row hx, beqs_ints, Bool.and_self]
theorem HF_it {r : Nat → List Nat} {out : Nat → Int} {x : Nat} (hx : x < n) : iterOf .gen [.ref (h.length + x)] (HF h n r out) = some (intsD (r x), [(h.length + x, intsD (r x))]) := by
  show (items _ _).map (fun xs => (xs, gdOf _ _)) = _
  have : items (HF h n r out) (.ref (h.length + x)) = some (intsD (r x)) := by unfold items; simp only [HF_row hx]
  rw [this]
  unfold gdOf
  simp only [HF_row hx]
  rfl
def fiB : S := (.cons (.asg (.idx (.var 3) (.var 6)) (.bin (.add true) (.idx (.var 3) (.var 6)) (.var 5)))
 .nil)
theorem fi_for {Φ : Nat → List D → Heap → R D} {r : Nat → List Nat} {d0 d1 d2 d4 : D} {many : Int} {g : Gd} (hg : ∀ o, gdOk (HF h n r o) g = true) : ∀ (l : List Nat), (∀ y ∈ l, y < n) → ∀ {out : Nat → Int} {d6 : D}, ∃ e6,
    forL (fun x env h => R.opt h (bindT (.var 6) x env)) (fun env h => eS Φ G W fiB env h) g (intsD l) [d0, d1, d2, .ref (h.length + n), d4, .int many, d6] (HF h n r out) = .ok (.nxt [d0, d1, d2, .ref (h.length + n), d4, .int many, e6]) (HF h n r (addL out l many))
  | [], _, out, d6 => ⟨d6, forG0 (hg out)⟩
  | y :: l, q, out, d6 => by
    have hy := q y (by simp)
    obtain ⟨e6, e⟩ := fi_for (Φ := Φ) (d0 := d0) (d1 := d1) (d2 := d2) (d4 := d4) hg l (fun z hz => q z (by simp [hz])) (out := up1 out y (out y + many)) (d6 := .int (y : Int))
    refine ⟨e6, ?_⟩
    show forL _ _ g (D.int (y : Int) :: intsD l) _ _ = _
    rw [forG1 (hg out) (env1 := [d0, d1, d2, .ref (h.length + n), d4, .int many, .int (y : Int)]) (env2 := [d0, d1, d2, .ref (h.length + n), d4, .int many, .int (y : Int)]) (h1 := HF h n r (up1 out y (out y + many))) (by rfl) ?_, e]
    · rfl
    · unfold fiB
      refine (asgI (m := h.length + n) (x := (y : Int)) (v := out y + many) (h' := HF h n r (up1 out y (out y + many))) (binc (idxc rfl rfl (ref_at HF_out hy)) rfl rfl) rfl rfl ?_).trans rfl
      rw [ref_put HF_out hy, HF_set]
def fxB : S := (.cons (.asg (.idx (.var 3) (.var 4)) (.bin .sub (.idx (.var 3) (.var 4)) (.bin (.mul true) (.var 5) (.blt .len (.cons (.idx (.var 0) (.var 4)) .nil)))))
 (.cons (.for (.var 6) .gen (.cons (.idx (.var 0) (.var 4)) .nil) fiB)
 .nil))
theorem mul_deg {many : Int} {d : Int} (h0 : 0 ≤ d) (h1 : d ≤ 30) (hh : Heap) : opB (.mul true) (.int many) (.int d) hh = .ok (.int (many * d)) hh := by
  show (if mulOk many d = true then R.ok (D.int (many * d)) _ else .bad) = _
  rw [if_pos]
  unfold mulOk
  have : smallI d = true := by
    unfold smallI
    rw [Bool.and_eq_true]
    exact ⟨decide_eq_true (by omega), decide_eq_true (by omega)⟩
  rw [this]
  simp
theorem fx_for {Φ : Nat → List D → Heap → R D} (F : Fit n ts) {d1 d2 : D} {c u : Nat → Int} : ∀ (m j : Nat), j + m = n → ∀ {d4 d5 d6 : D}, ∃ e4 e5 e6,
    forL (fun x env h => R.opt h (bindT (.tup (.cons (.var 4) (.cons (.var 5) .nil))) x env)) (fun env h => eS Φ G W fxB env h) [] ((List.range' j m).map fun (x : Nat) => D.tup [.int (x : Int), .int (u x)]) [gR h.length n, d1, d2, .ref (h.length + n), d4, d5, d6] (HF h n (near ts) (fireN ts c u j)) = .ok (.nxt [gR h.length n, d1, d2, .ref (h.length + n), e4, e5, e6]) (HF h n (near ts) (fireN ts c u n))
  | 0, j, e, d4, d5, d6 => ⟨d4, d5, d6, by
      have : j = n := by omega
      subst this
      exact for0⟩
  | m + 1, x, e, d4, d5, d6 => by
    have hx : x < n := by omega
    have dp := F.deg_pos hx
    have dl : deg ts x ≤ 30 := by
      have a := near_len ts x
      have b := F.t30
      unfold deg
      omega
    generalize ho : fireN ts c u x = out
    obtain ⟨e6, ef⟩ := fi_for (Φ := Φ) (G := G) (W := W) (h := h) (n := n) (r := near ts) (d0 := gR h.length n) (d1 := d1) (d2 := d2) (d4 := .int (x : Int)) (many := u x) (g := [(h.length + x, intsD (near ts x))]) (fun o => HF_gd hx) (near ts x) (fun y hy => (near_in F.inn hy).1) (out := up1 out x (out x - u x * deg ts x)) (d6 := d6)
    obtain ⟨f4, f5, f6, e2⟩ := fx_for (Φ := Φ) F (d1 := d1) (d2 := d2) (c := c) (u := u) m (x + 1) (by omega) (d4 := .int (x : Int)) (d5 := .int (u x)) (d6 := e6)
    refine ⟨f4, f5, f6, ?_⟩
    have step : eS Φ G W fxB [gR h.length n, d1, d2, .ref (h.length + n), .int (x : Int), .int (u x), d6] (HF h n (near ts) out) = .ok (.nxt [gR h.length n, d1, d2, .ref (h.length + n), .int (x : Int), .int (u x), e6]) (HF h n (near ts) (fireN ts c u (x + 1))) := by
      refine (asgI (m := h.length + n) (x := (x : Int)) (v := out x - u x * deg ts x) (h' := HF h n (near ts) (up1 out x (out x - u x * deg ts x))) (binc (y := .int (u x * deg ts x)) (idxc rfl rfl (ref_at HF_out hx)) (binc rfl (bltc (ar1 (idxc rfl rfl (gR_at _ hx _))) ((ref_len (HF_row hx)).trans (by rw [ints_len]; rfl))) (mul_deg (by omega) dl _)) rfl) rfl rfl ?_).trans ?_
      · rw [ref_put HF_out hx, HF_set]
      refine (nxtc (s := .for (.var 6) .gen (.cons (.idx (.var 0) (.var 4)) .nil) fiB) (h1 := HF h n (near ts) (fireN ts c u (x + 1))) (env' := [gR h.length n, d1, d2, .ref (h.length + n), .int (x : Int), .int (u x), e6]) ?_).trans rfl
      rw [eS_for, ar1 (d := .ref (h.length + x)) (h1 := HF h n (near ts) (up1 out x (out x - u x * deg ts x))) (idxc rfl rfl (gR_at _ hx _)), bind_ok]
      have it := HF_it (h := h) (n := n) (r := near ts) (out := up1 out x (out x - u x * deg ts x)) hx
      have it' : iterOf .gen (args (.tup [.ref (h.length + x)])) (HF h n (near ts) (up1 out x (out x - u x * deg ts x))) = _ := it
      rw [it']
      refine ef.trans ?_
      have : addL (up1 out x (out x - u x * deg ts x)) (near ts x) (u x) = fireN ts c u (x + 1) := by
        funext z
        rw [addL_at, fireN, ho]
        unfold firedC up1
        by_cases e : z = x
        · rw [if_pos e, if_pos e, e]
        · rw [if_neg e, if_neg e]
      rw [this]
    rw [List.range'_succ, List.map_cons, for1 (env1 := [gR h.length n, d1, d2, .ref (h.length + n), .int (x : Int), .int (u x), d6]) (by rfl) step, e2]
theorem fired_in (L : Lib fns G I) (F : Fit n ts) (hp : Pure h) (c u : Nat → Int) : callF fns G (W + 2) (k + 9) I.fired [netD n ts, tupD n c, tupD n u] h = .ok (tupD n (aft ts c u)) h := by
  have fire : callF fns G (W + 2) (k + 8) I.fire [gR h.length n, tupD n c, tupD n u] (h ++ rowsO n (near ts)) = .ok (tupD n (aft ts c u)) (h ++ rowsO n (near ts)) := by
    obtain ⟨e4, e5, e6, e⟩ := fx_for (Φ := callF fns G (W + 2) (k + 7)) (G := G) (W := W + 2) (h := h) F (d1 := tupD n c) (d2 := tupD n u) (c := c) (u := u) n 0 (by omega) (d4 := .und) (d5 := .und) (d6 := .und)
    have el : (h ++ rowsO n (near ts)).length = h.length + n := by rw [List.length_append, rows_len]
    have eo : rw_ n (fireN ts c u n) = rw_ n (aft ts c u) := rw_on (fireN_aft F.toGood c u)
    refine fncT L.fire rfl (t := [Ob.lst (rw_ n (aft ts c u))]) ?_ (tup_low _ _) ((hp.rows _).low _)
    refine (asgc (d := .ref (h.length + n)) (h1 := HF h n (near ts) c) (env' := [gR h.length n, tupD n c, tupD n u, .ref (h.length + n), .und, .und, .und]) (bltc (ar1 rfl) ?_) rfl).trans ?_
    · show newL false (rw_ n c) (h ++ rowsO n (near ts)) = _
      unfold newL
      rw [if_pos (by rw [rw_len]; exact Nat.le_trans F.n12 (by decide)), if_neg (by decide), el]
      rfl
    refine (nxtc (s := .for (.tup (.cons (.var 4) (.cons (.var 5) .nil))) .enum (.cons (.var 2) .nil) fxB) (h1 := HF h n (near ts) (fireN ts c u n)) (env' := [gR h.length n, tupD n c, tupD n u, .ref (h.length + n), e4, e5, e6]) ?_).trans ?_
    · refine (forc (ds := [tupD n u]) (xs := (List.range n).map fun (x : Nat) => D.tup [.int (x : Int), .int (u x)]) (h1 := HF h n (near ts) c) rfl (by show some (enumD 0 (rw_ n u), []) = _; rw [enum_rw])).trans ?_
      rw [List.range_eq_range']
      exact e
    refine (retc (d := tupD n (aft ts c u)) (h1 := HF h n (near ts) (fireN ts c u n)) (bltc (ar1 rfl) ?_)).trans ?_
    · show ((R.opt _ (items _ (.ref _))).bind fun ys h => R.ok (D.tup ys) h) = _
      have : items (HF h n (near ts) (fireN ts c u n)) (.ref (h.length + n)) = some (rw_ n (fireN ts c u n)) := by unfold items; simp only [HF_out]
      rw [this, eo]
      rfl
    · unfold HF
      rw [eo]
  refine fncT L.fired rfl (t := rowsO n (near ts)) ?_ (tup_low _ _) (hp.low _)
  refine (expc (d := .non) (h1 := h) (callc (arc rfl (ar1 (arc rfl (ar1 rfl)))) (checkNum_in (k := k) L F [c, u] (show 2 ≤ 64 by decide)))).trans ?_
  exact retc (callc (arc (callc (ar1 rfl) (around_in (k := k + 7) L F)) (arc rfl (ar1 rfl))) fire)
end
end CB
namespace CB
open MP DR Chip
section
variable {fns : List Fn} {G : List D} {I : Ix} {W k : Nat} {h : Heap} {n : Nat} {ts : Ties} {s : Nat}
/-! ### equality -/
theorem tupD_on {f g : Nat → Int} (e : On n fun x => f x = g x) : tupD n f = tupD n g := by unfold tupD; rw [rw_on e]
theorem tup_flat {f : Nat → Int} (m : Nat) : (tupD n f).flat (m + 1) = true := by
  unfold tupD rw_
  rw [D.flat]
  exact flats_map fun x _ => rfl
theorem eqvs_ints {f g : Nat → Int} : ∀ L : List Nat, D.eqvs (L.map fun x => .int (f x)) (L.map fun x => .int (g x)) = L.all fun x => f x == g x
  | [] => rfl
  | x :: L => by rw [List.map_cons, List.map_cons, D.eqvs, eqvs_ints L, D.eqv, List.all_cons]
theorem tup_eqv {f g : Nat → Int} : D.eqv (tupD n f) (tupD n g) = (List.range n).all fun x => f x == g x := by
  unfold tupD rw_
  rw [D.eqv, eqvs_ints]
theorem all_on {f g : Nat → Int} (e : On n fun x => f x = g x) : ((List.range n).all fun x => f x == g x) = true := by
  rw [List.all_eq_true]
  intro x hx
  exact beq_iff_eq.mpr (e x (List.mem_range.mp hx))
theorem all_off {f g : Nat → Int} {x : Nat} (hx : x < n) (e : f x ≠ g x) : ((List.range n).all fun x => f x == g x) = false := by
  rw [Bool.eq_false_iff]
  intro z
  rw [List.all_eq_true] at z
  exact e (beq_iff_eq.mp (z x (List.mem_range.mpr hx)))
theorem tup_ne {f g : Nat → Int} (e : On n fun x => f x = g x) : opC .ne (tupD n f) (tupD n g) h = some false := by
  show (eqD h _ _).map (!·) = _
  rw [eqD_flat (tup_flat 11) (tup_flat 11), tup_eqv, all_on e]
  rfl
theorem tup_eq {f g : Nat → Int} (e : On n fun x => f x = g x) : opC .eq (tupD n f) (tupD n g) h = some true := by
  show eqD h _ _ = _
  rw [eqD_flat (tup_flat 11) (tup_flat 11), tup_eqv, all_on e]
theorem pair_flat {a b : Nat → Int} : (D.tup [tupD n a, tupD n b]).flat DEEP = true := by
  show D.flat 12 _ = true
  rw [D.flat, D.flats, tup_flat 10, D.flats, tup_flat 10, D.flats]
  rfl
theorem pair_eq {a b c d : Nat → Int} : opC .eq (.tup [tupD n a, tupD n b]) (.tup [tupD n c, tupD n d]) h = some (((List.range n).all fun x => a x == c x) && ((List.range n).all fun x => b x == d x)) := by
  show eqD h _ _ = _
  rw [eqD_flat pair_flat pair_flat, D.eqv, D.eqvs, tup_eqv, D.eqvs, tup_eqv, D.eqvs, Bool.and_true]
theorem pair_ne {a b c d : Nat → Int} (e1 : On n fun x => a x = c x) (e2 : On n fun x => b x = d x) : opC .ne (.tup [tupD n a, tupD n b]) (.tup [tupD n c, tupD n d]) h = some false := by
  show (eqD h _ _).map (!·) = _
  rw [eqD_flat pair_flat pair_flat, D.eqv, D.eqvs, tup_eqv, D.eqvs, tup_eqv, D.eqvs, all_on e1, all_on e2]
  rfl
/-! ### is_settled -/
theorem settled_yes (L : Lib fns G I) (F : Fit n ts) (hs : s < n) (hp : Pure h) {c e q : Nat → Int} {C : Int} (hC : 0 ≤ C) (hc : On n fun x => x ≠ s → 0 ≤ c x ∧ c x ≤ C) (hW : (n : Int) * ((n + n) * (n * C)) + 2 ≤ ((W + 2 : Nat) : Int)) :
    ∃ (out u : Nat → Int), callF fns G (W + 2) (k + 9) I.isSettled [netD n ts, .int (s : Int), tupD n c, tupD n e, tupD n q] h = .ok (.bl (((List.range n).all fun x => e x == out x) && ((List.range n).all fun x => q x == u x))) h ∧ Least n ts s c u ∧ (On n fun x => out x = aft ts c u x) := by
  obtain ⟨out, u, e1, a, b, d⟩ := ended_in (k := k + 7) L F hs hp (dc := tupD n c) (fun _ => rfl) (fun _ => rfl) hC hc hW
  refine ⟨out, u, ?_, a, b⟩
  refine fncT L.isSettled rfl (t := rowsO n (near ts)) ?_ rfl (hp.low _)
  refine (expc (d := .non) (h1 := h) (callc (arc rfl (arc rfl (ar1 rfl))) (checkHeaps_in (k := k) L F hs [c] (show 1 ≤ 64 by decide) fun f hf => by rw [List.mem_singleton.mp hf]; exact fun x hx hne => (hc x hx hne).1))).trans ?_
  have n64 : n ≤ 64 := Nat.le_trans F.n12 (by decide)
  refine (itef (h1 := h) (or2f (ntc (k := true) (callc (arc rfl (ar1 rfl)) ((areNum_in (k := k + 6) L n64 e).trans (by rw [decide_eq_true rfl])))) (onec (ntc (k := true) (callc (arc rfl (ar1 rfl)) ((areNum_in (k := k + 6) L n64 q).trans (by rw [decide_eq_true rfl]))))))).trans ?_
  exact retc (cmpc (x := .tup [tupD n e, tupD n q]) rfl (callc (arc (callc (ar1 rfl) (around_in (k := k + 7) L F)) (arc rfl (ar1 rfl))) e1) pair_eq)
/-- what has no right form is not taken -/
theorem settled_no (L : Lib fns G I) (F : Fit n ts) (hs : s < n) {c : Nat → Int} (hc : On n fun x => x ≠ s → 0 ≤ c x) {de dq : D} (vu : de ≠ .und ∧ dq ≠ .und)
    (hq : callF fns G (W + 2) (k + 8) I.areNum [netD n ts, de] h = .ok (.bl false) h ∨ (callF fns G (W + 2) (k + 8) I.areNum [netD n ts, de] h = .ok (.bl true) h ∧ callF fns G (W + 2) (k + 8) I.areNum [netD n ts, dq] h = .ok (.bl false) h)) :
    callF fns G (W + 2) (k + 9) I.isSettled [netD n ts, .int (s : Int), tupD n c, de, dq] h = .ok (.bl false) h := by
  have v3 : eE (callF fns G (W + 2) (k + 8)) G (.var 3) [netD n ts, .int (s : Int), tupD n c, de, dq] h = .ok de h := by
    cases de <;> first | rfl | exact absurd rfl vu.1
  have v4 : eE (callF fns G (W + 2) (k + 8)) G (.var 4) [netD n ts, .int (s : Int), tupD n c, de, dq] h = .ok dq h := by
    cases dq <;> first | rfl | exact absurd rfl vu.2
  refine fnc L.isSettled rfl ?_
  refine (expc (d := .non) (h1 := h) (callc (arc rfl (arc rfl (ar1 rfl))) (checkHeaps_in (k := k) L F hs [c] (show 1 ≤ 64 by decide) fun f hf => by rw [List.mem_singleton.mp hf]; exact hc))).trans ?_
  have go : ∀ {cnd : E} {r : S}, eE (callF fns G (W + 2) (k + 8)) G cnd [netD n ts, .int (s : Int), tupD n c, de, dq] h = .ok (.bl true) h → eS (callF fns G (W + 2) (k + 8)) G (W + 2) (.cons (.ite cnd (.cons (.ret (.con (.bl false))) .nil) .nil) r) [netD n ts, .int (s : Int), tupD n c, de, dq] h = .ok (.ret (.bl false)) h := fun ec => by
    rw [eS_cons, itet ec (f := .ret (.bl false)) (h2 := h) (retc rfl)]
    rfl
  rcases hq with q | ⟨q1, q2⟩
  · exact go (or2t (ntc (k := false) (callc (arc rfl (ar1 v3)) q)))
  · exact go (or2f (ntc (k := true) (callc (arc rfl (ar1 v3)) q1)) (onec (ntc (k := false) (callc (arc rfl (ar1 v4)) q2))))
/-! ### added -/
theorem zip_rw (f g : Nat → Int) : zipD (rw_ n f) (rw_ n g) = (List.range n).map fun x => .tup [.int (f x), .int (g x)] := by
  unfold rw_
  generalize List.range n = L
  induction L with
  | nil => rfl
  | cons x L ih => rw [List.map_cons, List.map_cons, List.map_cons, zipD, ih]
theorem together_in (L : Lib fns G I) (L2 : Lib2 fns I) (F : Fit n ts) (hs : s < n) (hp : Pure h) {a b : Nat → Int} {C : Int} (hC : 0 ≤ C) (hc : On n fun x => x ≠ s → 0 ≤ a x + b x ∧ a x + b x ≤ C) (hW : (n : Int) * ((n + n) * (n * C)) + 2 ≤ W) :
    ∃ out u, callF fns G W (k + 2) I.together [gR h.length n, .int (s : Int), tupD n a, tupD n b] (h ++ rowsO n (near ts)) = .ok (tupD n (up1 out s 0)) (h ++ rowsO n (near ts)) ∧ Least n ts s (fun x => a x + b x) u ∧ (On n fun x => out x = aft ts (fun x => a x + b x) u x) ∧ (On n fun x => x ≠ s → 0 ≤ out x ∧ out x < deg ts x) := by
  obtain ⟨out, u, e1, q1, q2, q3⟩ := ended_in (k := k) L F hs hp (c := fun x => a x + b x) (dc := .lst (rw_ n fun x => a x + b x)) (fun _ => rfl) (fun _ => rfl) hC hc hW
  refine ⟨out, u, ?_, q1, q2, q3⟩
  have el : (h ++ rowsO n (near ts)).length = h.length + n := by rw [List.length_append, rows_len]
  refine fncT L2.together rfl (t := [Ob.lst (rw_ n (up1 out s 0))]) ?_ (tup_low _ _) ((hp.rows _).low _)
  refine (asgc (d := .ref (h.length + n)) (h1 := h ++ rowsO n (near ts) ++ [Ob.lst (rw_ n out)]) (env' := [gR h.length n, .int (s : Int), tupD n a, tupD n b, .ref (h.length + n), .und, .und]) ?_ rfl).trans ?_
  · refine bltc (ar1 (idxc (x := .tup [tupD n out, tupD n u]) (z := tupD n out) (callc (arc rfl (arc rfl (ar1 (d := .lst (rw_ n fun x => a x + b x)) (h1 := h ++ rowsO n (near ts)) ?_))) e1) rfl rfl)) ?_
    · refine lcmap (L := List.range n) (f := fun x => .tup [.int (a x), .int (b x)]) (g := fun x => .int (a x + b x)) (ds := [tupD n a, tupD n b]) rfl (by show some (zipD (rw_ n a) (rw_ n b), []) = _; rw [zip_rw]) (fun x hx => ?_) (by rw [List.length_range]; exact Nat.le_trans F.n12 (by decide))
      exact turnT (env' := [gR h.length n, .int (s : Int), tupD n a, tupD n b, .und, .int (a x), .int (b x)]) rfl rfl
    · show newL false (rw_ n out) (h ++ rowsO n (near ts)) = _
      unfold newL
      rw [if_pos (by rw [rw_len]; exact Nat.le_trans F.n12 (by decide)), if_neg (by decide), el]
  have at1 : ∀ o : Nat → Int, (h ++ rowsO n (near ts) ++ [Ob.lst (rw_ n o)])[h.length + n]? = some (Ob.lst (rw_ n o)) := fun o => HF_out (h := h) (n := n) (r := near ts) (out := o)
  refine (asgI (m := h.length + n) (x := (s : Int)) (v := 0) (h' := h ++ rowsO n (near ts) ++ [Ob.lst (rw_ n (up1 out s 0))]) rfl rfl rfl ?_).trans ?_
  · rw [ref_put (at1 out) hs]
    exact congrArg _ (HF_set (h := h) (n := n) (r := near ts) (out := out) (up1 out s 0))
  · refine retc (bltc (ar1 rfl) ?_)
    show ((R.opt _ (items _ (.ref _))).bind fun ys h => R.ok (D.tup ys) h) = _
    have : items (h ++ rowsO n (near ts) ++ [Ob.lst (rw_ n (up1 out s 0))]) (.ref (h.length + n)) = some (rw_ n (up1 out s 0)) := by unfold items; simp only [at1]
    rw [this]
    rfl
theorem added_in (L : Lib fns G I) (L2 : Lib2 fns I) (F : Fit n ts) (hs : s < n) (hp : Pure h) {a b : Nat → Int} (ha : On n fun x => x ≠ s → 0 ≤ a x) (hb : On n fun x => x ≠ s → 0 ≤ b x) {C : Int} (hC : 0 ≤ C) (hc : On n fun x => x ≠ s → a x + b x ≤ C) (hW : (n : Int) * ((n + n) * (n * C)) + 2 ≤ ((W + 2 : Nat) : Int)) :
    ∃ out u, callF fns G (W + 2) (k + 9) I.added [netD n ts, .int (s : Int), tupD n a, tupD n b] h = .ok (tupD n (up1 out s 0)) h ∧ Least n ts s (fun x => a x + b x) u ∧ (On n fun x => out x = aft ts (fun x => a x + b x) u x) ∧ (On n fun x => x ≠ s → 0 ≤ out x ∧ out x < deg ts x) := by
  obtain ⟨out, u, e1, q⟩ := together_in (k := k + 6) L L2 F hs hp (a := a) (b := b) hC (fun x hx hne => ⟨by have := ha x hx hne; have := hb x hx hne; omega, hc x hx hne⟩) hW
  refine ⟨out, u, ?_, q⟩
  refine fncT L2.added rfl (t := rowsO n (near ts)) ?_ (tup_low _ _) (hp.low _)
  refine (expc (d := .non) (h1 := h) (callc (arc rfl (arc rfl (ar1 (arc rfl (ar1 rfl))))) (checkHeaps_in (k := k) L F hs [a, b] (show 2 ≤ 64 by decide) fun f hf => ?_))).trans ?_
  · rcases List.mem_cons.mp hf with e | e
    · subst e; exact ha
    · rw [List.mem_singleton.mp e]; exact hb
  · exact retc (callc (arc (callc (ar1 rfl) (around_in (k := k + 7) L F)) (arc rfl (arc rfl (ar1 rfl)))) e1)
end
end CB
namespace CB
open MP DR Chip
/-- what stays of the heap: the box at its head -/
def BoxAt (h : Heap) (cells : List Int) : Prop := h.length = 1 ∧ Box h 0 cells
section
variable {fns : List Fn} {G : List D} {I : Ix} {W k : Nat} {h : Heap} {n : Nat} {ts : Ties} {cells : List Int}
theorem BoxAt.take (L : LibN fns G I) (B : BoxAt h cells) {m : Int} (hm : 0 < m) (hm2 : m < 1073741824) :
    ∃ t h', callF fns G W (k + 1) I.take [.ref 0, .int m] h = .ok (.int t) h' ∧ 0 ≤ t ∧ t < m ∧ BoxAt h' cells := by
  obtain ⟨t, o, e, h1, h2, h3⟩ := take_call (k := k) (G := G) (W := W) (show fns[I.take]? = some ⟨2, 5, bTake⟩ from L.take) B.2 hm hm2
  exact ⟨t, _, e, h1, h2, by rw [List.length_set]; exact B.1, h3⟩
theorem BoxAt.pure (B : BoxAt h cells) : Pure h := by
  obtain ⟨hl, hb, v, st, a, e, _, _, _⟩ := B
  match h, hl with
  | [o], _ =>
    simp only [List.getElem?_cons_zero, Option.some.injEq] at e
    subst e
    have : D.lows 0 (cells.map D.int) = true := by
      generalize cells = L
      induction L with
      | nil => rfl
      | cons x L ih => rw [List.map_cons, D.lows, ih]; rfl
    show (Ob.low 0 _ && true) = true
    show (D.lows 0 [.int v, .int st, .int a, .lst (cells.map .int)] && true) = true
    simp [D.lows, D.low, this]
/-- a choice of the menu -/
theorem pick_call (L : Lib0 fns G I) (B : BoxAt h cells) {menu : List D} (h1 : 0 < menu.length) (h2 : menu.length < 1000) (lo : ∀ d ∈ menu, d.low 0 = true) : ∃ (i : Nat) (d : D) (h' : Heap), menu[i]? = some d ∧ callF fns G W (k + 2) I.pick [.ref 0, .lst menu] h = .ok d h' ∧ BoxAt h' cells := by
  obtain ⟨t, h', e, a, b, B'⟩ := B.take (W := W) (k := k) L.toLibN (m := (menu.length : Nat)) (by omega) (by omega)
  obtain ⟨i, rfl⟩ : ∃ i : Nat, t = i := ⟨t.toNat, by omega⟩
  have hi : i < menu.length := by omega
  refine ⟨i, menu[i], h', List.getElem?_eq_getElem hi, ?_, B'⟩
  rw [call_eq L.pick rfl]
  show MP.back h.length (eS (callF fns G W (k + 1)) G W (b_pick I) [.ref 0, .lst menu] h) = _
  have eb : eS (callF fns G W (k + 1)) G W (b_pick I) [.ref 0, .lst menu] h = .ok (.ret menu[i]) h' := by
    refine retc (idxc (h1 := h) rfl (callc (arc rfl (ar1 (bltc (ar1 rfl) rfl))) e) ?_)
    show atI menu (i : Int) = _
    unfold atI ixN
    rw [if_pos (by omega), if_pos (by omega)]
    show menu[(i : Int).toNat]? = _
    rw [Int.toNat_natCast]
    exact List.getElem?_eq_getElem hi
  rw [eb]
  show (if (menu[i].low h.length && (h'.take h.length).all (Ob.low h.length)) = true then R.ok menu[i] (h'.take h.length) else .ok menu[i] h') = _
  rw [B.1, ← B'.1, List.take_length]
  split <;> rfl
theorem BoxAt.shape (B : BoxAt h cells) : ∃ o, h = [o] := by
  match h, B.1 with
  | [o], _ => exact ⟨o, rfl⟩
/-- the box, and a list behind it -/
def Bx2 (h : Heap) (cells : List Int) (l : List D) : Prop := ∃ o, h = [o, .lst l] ∧ BoxAt [o] cells
theorem Bx2.take {l : List D} (L : LibN fns G I) (B : Bx2 h cells l) {m : Int} (hm : 0 < m) (hm2 : m < 1073741824) :
    ∃ t h', callF fns G W (k + 1) I.take [.ref 0, .int m] h = .ok (.int t) h' ∧ 0 ≤ t ∧ t < m ∧ Bx2 h' cells l := by
  obtain ⟨o, rfl, _, hb, v, st, a, e, z⟩ := B
  have B2 : Box [o, .lst l] 0 cells := ⟨show 0 < 2 by decide, v, st, a, e, z⟩
  obtain ⟨t, o', e', h1, h2, h3⟩ := take_call (k := k) (G := G) (W := W) (show fns[I.take]? = some ⟨2, 5, bTake⟩ from L.take) B2 hm hm2
  refine ⟨t, _, e', h1, h2, o', rfl, rfl, ?_⟩
  obtain ⟨_, v', st', a', e2, z2⟩ := h3
  exact ⟨show 0 < 1 by decide, v', st', a', e2, z2⟩
theorem Bx2.app {l : List D} (B : Bx2 h cells l) (hl : l.length < 1000) (d : D) : ∃ h', opM .append (.ref 1) [d] h = .ok .non h' ∧ isL h (.ref 1) = some () ∧ Bx2 h' cells (l ++ [d]) := by
  obtain ⟨o, rfl, z⟩ := B
  exact ⟨[o, .lst (l ++ [d])], app1 (m := 1) (xs := l) rfl (Nat.lt_of_lt_of_le hl (by decide)) d, rfl, o, rfl, z⟩
def h1B (I : Ix) : S := (.cons (.exp (.mth .append (.var 6) (.cons (.tup (.cons (.call I.take (.cons (.var 0) (.cons (.var 3) .nil))) (.cons (.var 3) (.cons (.tup (.cons (.con (.int 1)) (.cons (.con (.int 1)) .nil))) .nil)))) .nil)))
 .nil)
theorem mthe {Φ : Nat → List D → Heap → R D} {m : Mth} {o es : E} {env : Env} {h1 h2 : Heap} {x d : D} {ds : List D} {h3 : Heap} (e1 : eE Φ G o env h = .ok x h1) (e2 : isL h1 x = some ()) (e3 : eE Φ G es env h1 = .ok (.tup ds) h2) (e4 : opM m x ds h2 = .ok d h3) : eE Φ G (.mth m o es) env h = .ok d h3 := mthc e1 e2 e3 e4
theorem Bx2.isL {l : List D} (B : Bx2 h cells l) : isL h (.ref 1) = some () := by
  obtain ⟨o, rfl, z⟩ := B
  rfl
/-- each point is tied to a lower one -/
theorem hung1 (L : LibN fns G I) {d1 d2 d4 d5 d7 d8 : D} : ∀ (m x : Nat) {l : Ties} {h : Heap} {d3 : D}, 1 ≤ x → x + m ≤ 1000 → l.length + m ≤ 40 → Bx2 h cells (l.map tieD) → ∃ (l' : Ties) (h' : Heap) (e3 : D),
    forL (fun x env h => R.opt h (bindT (.var 3) x env)) (fun env h => eS (callF fns G W (k + 1)) G W (h1B I) env h) [] ((List.range' x m).map fun (x : Nat) => D.int (x : Int)) [.ref 0, d1, d2, d3, d4, d5, .ref 1, d7, d8] h = .ok (.nxt [.ref 0, d1, d2, e3, d4, d5, .ref 1, d7, d8]) h' ∧ Bx2 h' cells ((l ++ l').map tieD) ∧ l'.length = m ∧
      (∀ p ∈ l', p.1 < p.2 ∧ p.2 < x + m) ∧ ∀ z, x ≤ z → z < x + m → ∃ y, y < z ∧ (y, z) ∈ l'
  | 0, x, l, h, d3, hx, hxm, hl, B => ⟨[], h, d3, for0, by simpa using B, rfl, by simp, fun z a b => by omega⟩
  | m + 1, x, l, h, d3, hx, hxm, hl, B => by
    obtain ⟨t, h1, e1, a1, b1, B1⟩ := B.take (W := W) (k := k) L (m := (x : Int)) (by omega) (by omega)
    obtain ⟨y, rfl⟩ : ∃ y : Nat, t = y := ⟨t.toNat, by omega⟩
    obtain ⟨h2, e2, _, B2⟩ := B1.app (by rw [List.length_map]; omega) (tieD (y, x))
    have B2 : Bx2 h2 cells ((l ++ [(y, x)]).map tieD) := by rw [List.map_append]; exact B2
    obtain ⟨l', h3, e3, ef, B3, len, q1, q2⟩ := hung1 L (d1 := d1) (d2 := d2) (d4 := d4) (d5 := d5) (d7 := d7) (d8 := d8) m (x + 1) (l := l ++ [(y, x)]) (d3 := .int (x : Int)) (by omega) (by omega) (by rw [List.length_append]; simp; omega) B2
    refine ⟨(y, x) :: l', h3, e3, ?_, by rw [List.append_assoc] at B3; exact B3, by rw [List.length_cons, len], fun p hp => ?_, fun z a b => ?_⟩
    · rw [List.range'_succ, List.map_cons, for1 (env1 := [.ref 0, d1, d2, .int (x : Int), d4, d5, .ref 1, d7, d8]) (env2 := [.ref 0, d1, d2, .int (x : Int), d4, d5, .ref 1, d7, d8]) (h1 := h2) (by rfl) ?_, ef]
      refine (expc (d := .non) (h1 := h2) (mthc (x := .ref 1) (h1 := h) rfl B.isL (ar1 (arc (h1 := h1) (callc (arc rfl (ar1 rfl)) e1) (arc rfl (ar1 rfl)))) e2)).trans rfl
    · rcases List.mem_cons.mp hp with e | e
      · subst e; exact ⟨by show y < x; omega, by show x < x + (m + 1); omega⟩
      · obtain ⟨c, d⟩ := q1 p e
        exact ⟨c, by omega⟩
    · by_cases e : z = x
      · subst e
        exact ⟨y, by omega, by simp⟩
      · obtain ⟨y', c, d⟩ := q2 z (by omega) (by omega)
        exact ⟨y', c, by simp [d]⟩
def h2B (I : Ix) : S := (.cons (.asg (.var 7) (.call I.take (.cons (.var 0) (.cons (.var 5) .nil))))
 (.cons (.exp (.mth .append (.var 6) (.cons (.tup (.cons (.var 7) (.cons (.bin .mod (.bin (.add true) (.bin (.add true) (.var 7) (.con (.int 1))) (.call I.take (.cons (.var 0) (.cons (.bin .sub (.var 5) (.con (.int 1))) .nil)))) (.var 5)) (.cons (.tup (.cons (.con (.int 1)) (.cons (.con (.int 1)) .nil))) .nil)))) .nil)))
 .nil))
theorem other_pt {n a t : Int} (ha : 0 ≤ a ∧ a < n) (ht : 0 ≤ t ∧ t < n - 1) : 0 ≤ (a + 1 + t) % n ∧ (a + 1 + t) % n < n ∧ (a + 1 + t) % n ≠ a := by
  have p1 := Int.emod_nonneg (a + 1 + t) (show n ≠ 0 by omega)
  have p2 := Int.emod_lt_of_pos (a + 1 + t) (show 0 < n by omega)
  refine ⟨p1, p2, fun e => ?_⟩
  by_cases q : a + 1 + t < n
  · rw [Int.emod_eq_of_lt (by omega) q] at e; omega
  · have : (a + 1 + t) % n = a + 1 + t - n := by
      have z : a + 1 + t = (a + 1 + t - n) + n * 1 := by omega
      rw [z, Int.add_mul_emod_self_left, Int.emod_eq_of_lt (by omega) (by omega)]
      omega
    omega
theorem hung2 (L : LibN fns G I) (hn : 2 ≤ n) (hn2 : n ≤ 1000) {d1 d2 d3 d8 : D} : ∀ (m j : Nat) {l : Ties} {h : Heap} {d4 d7 : D}, l.length + m ≤ 40 → Bx2 h cells (l.map tieD) → ∃ (l' : Ties) (h' : Heap) (e4 e7 : D),
    forL (fun x env h => R.opt h (bindT (.var 4) x env)) (fun env h => eS (callF fns G W (k + 1)) G W (h2B I) env h) [] ((List.range' j m).map fun (x : Nat) => D.int (x : Int)) [.ref 0, d1, d2, d3, d4, .int (n : Int), .ref 1, d7, d8] h = .ok (.nxt [.ref 0, d1, d2, d3, e4, .int (n : Int), .ref 1, e7, d8]) h' ∧ Bx2 h' cells ((l ++ l').map tieD) ∧ l'.length = m ∧
      ∀ p ∈ l', p.1 < n ∧ p.2 < n ∧ p.1 ≠ p.2
  | 0, j, l, h, d4, d7, hl, B => ⟨[], h, d4, d7, for0, by simpa using B, rfl, by simp⟩
  | m + 1, j, l, h, d4, d7, hl, B => by
    obtain ⟨t, h1, e1, a1, b1, B1⟩ := B.take (W := W) (k := k) L (m := (n : Int)) (by omega) (by omega)
    obtain ⟨a, rfl⟩ : ∃ a : Nat, t = a := ⟨t.toNat, by omega⟩
    obtain ⟨v, h2, e2, a2, b2, B2⟩ := B1.take (W := W) (k := k) L (m := (n : Int) - 1) (by omega) (by omega)
    obtain ⟨p1, p2, p3⟩ := other_pt (n := n) (a := a) (t := v) ⟨a1, b1⟩ ⟨a2, b2⟩
    obtain ⟨b, hb⟩ : ∃ b : Nat, ((a : Int) + 1 + v) % n = b := ⟨(((a : Int) + 1 + v) % n).toNat, by omega⟩
    obtain ⟨h3, e3, _, B3⟩ := B2.app (by rw [List.length_map]; omega) (tieD (a, b))
    have B3 : Bx2 h3 cells ((l ++ [(a, b)]).map tieD) := by rw [List.map_append]; exact B3
    obtain ⟨l', h4, e4, e7, ef, B4, len, q1⟩ := hung2 L hn hn2 (d1 := d1) (d2 := d2) (d3 := d3) (d8 := d8) m (j + 1) (l := l ++ [(a, b)]) (d4 := .int (j : Int)) (d7 := .int (a : Int)) (by rw [List.length_append]; simp; omega) B3
    refine ⟨(a, b) :: l', h4, e4, e7, ?_, by rw [List.append_assoc] at B4; exact B4, by rw [List.length_cons, len], fun p hp => ?_⟩
    · rw [List.range'_succ, List.map_cons, for1 (env1 := [.ref 0, d1, d2, d3, .int (j : Int), .int (n : Int), .ref 1, d7, d8]) (env2 := [.ref 0, d1, d2, d3, .int (j : Int), .int (n : Int), .ref 1, .int (a : Int), d8]) (h1 := h3) (by rfl) ?_, ef]
      refine (asgc (d := .int (a : Int)) (h1 := h1) (env' := [.ref 0, d1, d2, d3, .int (j : Int), .int (n : Int), .ref 1, .int (a : Int), d8]) (callc (arc rfl (ar1 rfl)) e1) rfl).trans ?_
      refine (expc (d := .non) (h1 := h3) (mthc (x := .ref 1) (h1 := h1) rfl B1.isL (ar1 (arc rfl (arc (d := .int (b : Int)) (h1 := h2) (binc (y := .int (n : Int)) (h1 := h2) (x := .int ((a : Int) + 1 + v)) (binc rfl (callc (arc rfl (ar1 rfl)) e2) rfl) rfl ?_) (ar1 rfl)))) e3)).trans rfl
      show (if 0 < (n : Int) then R.ok (D.int (((a : Int) + 1 + v) % n)) h2 else .bad) = _
      rw [if_pos (by omega), hb]
    · rcases List.mem_cons.mp hp with e | e
      · subst e
        exact ⟨by show a < n; omega, by show b < n; omega, by show a ≠ b; omega⟩
      · exact q1 p e
theorem back_pref' {m : Nat} {d : D} {h h' : Heap} (hn : h.length = m) (hp : h'.take m = h) (hd : d.low m = true) (hl : h.all (Ob.low m) = true) : MP.back m (.ok (.ret d) h') = .ok d h := back_pref hn hp hd hl
/-! ### the drawn net -/
def m0 : Ties := [(0, 1), (1, 2), (0, 2)]
def m1 : Ties := [(0, 1), (0, 2), (0, 3), (1, 2), (1, 3), (2, 3)]
def m2 : Ties := [(0, 1), (1, 0), (0, 1)]
def m3 : Ties := [(0, 1), (1, 2), (2, 3), (3, 0), (0, 2)]
def treeB (n : Nat) (ts : Ties) : Bool := (List.range n).all fun x => x == 0 || (List.range x).any fun y => ts.contains (y, x) || ts.contains (x, y)
def fitB (n : Nat) (ts : Ties) : Bool := decide (2 ≤ n) && decide (n ≤ 12) && decide (ts.length ≤ 30) && (ts.all fun p => decide (p.1 < n) && decide (p.2 < n) && decide (p.1 ≠ p.2)) && treeB n ts
theorem fit_by (e : fitB n ts = true) : Fit n ts := by
  unfold fitB at e
  simp only [Bool.and_eq_true, decide_eq_true_eq, List.all_eq_true] at e
  obtain ⟨⟨⟨⟨a, b⟩, c⟩, d⟩, f⟩ := e
  refine ⟨⟨a, fun p hp => ⟨(d p hp).1.1, (d p hp).1.2, (d p hp).2⟩, fun x h1 h2 => ?_⟩, b, c⟩
  unfold treeB at f
  rw [List.all_eq_true] at f
  have := f x (List.mem_range.mpr h2)
  rw [Bool.or_eq_true] at this
  rcases this with z | z
  · have := beq_iff_eq.mp z; omega
  · rw [List.any_eq_true] at z
    obtain ⟨y, hy, w⟩ := z
    rw [Bool.or_eq_true] at w
    exact ⟨y, List.mem_range.mp hy, w.imp (fun q => List.contains_iff_mem.mp q) fun q => List.contains_iff_mem.mp q⟩
theorem rng2 {a b : Nat} (hab : a ≤ b) (hb : b ≤ 4096) (h : Heap) : iterOf .rng [.int (a : Int), .int (b : Int)] h = some ((List.range' a (b - a)).map fun (x : Nat) => D.int (x : Int), []) := by
  have h1 : big62 (a : Int) = true := by
    unfold big62
    rw [Bool.and_eq_true]
    exact ⟨decide_eq_true (by omega), decide_eq_true (by omega)⟩
  have h2 : big62 (b : Int) = true := by
    unfold big62
    rw [Bool.and_eq_true]
    exact ⟨decide_eq_true (by omega), decide_eq_true (by omega)⟩
  have e : (rangeI (a : Int) (b : Int)).map D.int = (List.range' a (b - a)).map fun (x : Nat) => D.int (x : Int) := by
    unfold rangeI
    rw [List.map_map, show ((b : Int) - a).toNat = b - a by omega, List.range'_eq_map_range, List.map_map]
    apply List.map_congr_left
    intro i _
    show D.int ((a : Int) + i) = D.int ((a + i : Nat) : Int)
    rw [Int.natCast_add]
  unfold iterOf
  simp only [h1, h2, Bool.and_self, if_true, e]
theorem ties_low (m : Nat) : ∀ l : Ties, D.lows m (l.map tieD) = true
  | [] => rfl
  | p :: l => by rw [List.map_cons, D.lows, ties_low m l]; rfl
theorem hung_in2 (L : Lib0 fns G I) (B : BoxAt h cells) {most more : Nat} (h1 : 3 ≤ most) (h2 : most ≤ 12) (h3 : most - 1 + more ≤ 30) :
    ∃ (n : Nat) (ts : Ties) (h' : Heap), callF fns G W (k + 3) I.hung [.ref 0, .int (most : Int), .int (more : Int)] h = .ok (netD n ts) h' ∧ BoxAt h' cells ∧ Fit n ts ∧ (n ≤ most ∨ n ≤ 4) ∧ (ts.length ≤ most - 1 + more ∨ ts.length ≤ 6) := by
  obtain ⟨t, ha, e, a1, b1, B1⟩ := B.take (W := W) (k := k + 1) L.toLibN (m := 6) (by omega) (by omega)
  rw [call_eq L.hung rfl]
  show ∃ (n : Nat) (ts : Ties) (h' : Heap), MP.back h.length (eS (callF fns G W (k + 2)) G W (b_hung I) [.ref 0, .int (most : Int), .int (more : Int), .und, .und, .und, .und, .und, .und] h) = _ ∧ _
  by_cases z : t = 0
  · obtain ⟨i, d, hb, hi, ep, B2⟩ := pick_call (W := W) (k := k) L B1 (menu := [netD 3 m0, netD 4 m1, netD 2 m2, netD 4 m3]) (by decide) (by decide) (by intro d hd; simp at hd; rcases hd with rfl | rfl | rfl | rfl <;> rfl)
    have fin : ∀ (n : Nat) (ts : Ties), d = netD n ts → fitB n ts = true → n ≤ 4 → ts.length ≤ 6 → ∃ (n : Nat) (ts : Ties) (h' : Heap), MP.back h.length (eS (callF fns G W (k + 2)) G W (b_hung I) [.ref 0, .int (most : Int), .int (more : Int), .und, .und, .und, .und, .und, .und] h) = .ok (netD n ts) h' ∧ BoxAt h' cells ∧ Fit n ts ∧ (n ≤ most ∨ n ≤ 4) ∧ (ts.length ≤ most - 1 + more ∨ ts.length ≤ 6) := fun n ts ed fb n4 t6 => by
      refine ⟨n, ts, hb, ?_, B2, fit_by fb, .inr n4, .inr t6⟩
      have eb : eS (callF fns G W (k + 2)) G W (b_hung I) [.ref 0, .int (most : Int), .int (more : Int), .und, .und, .und, .und, .und, .und] h = .ok (.ret (netD n ts)) hb := by
        subst z
        subst ed
        unfold b_hung
        rw [eS_cons, itet (h1 := ha) (f := .ret (netD n ts)) (h2 := hb) (cmpc (callc (arc rfl (ar1 rfl)) e) rfl rfl) (retc (callc (arc rfl (ar1 (d := .lst [netD 3 m0, netD 4 m1, netD 2 m2, netD 4 m3]) (h1 := ha) rfl)) ep))]
        rfl
      rw [eb]
      show (if ((netD n ts).low h.length && (hb.take h.length).all (Ob.low h.length)) = true then R.ok (netD n ts) (hb.take h.length) else .ok (netD n ts) hb) = _
      rw [B.1, ← B2.1, List.take_length]
      split <;> rfl
    match i, hi with
    | 0, hi => exact fin 3 m0 (Option.some.inj hi).symm (by decide) (by decide) (by decide)
    | 1, hi => exact fin 4 m1 (Option.some.inj hi).symm (by decide) (by decide) (by decide)
    | 2, hi => exact fin 2 m2 (Option.some.inj hi).symm (by decide) (by decide) (by decide)
    | 3, hi => exact fin 4 m3 (Option.some.inj hi).symm (by decide) (by decide) (by decide)
    | i + 4, hi => simp at hi
  · obtain ⟨tn, hb, en, an, bn, Bn⟩ := B1.take (W := W) (k := k + 1) L.toLibN (m := (most : Int) - 1) (by omega) (by omega)
    obtain ⟨n, hn⟩ : ∃ n : Nat, 2 + tn = n := ⟨(2 + tn).toNat, by omega⟩
    obtain ⟨o, rfl⟩ := Bn.shape
    have Bx : Bx2 [o, .lst []] cells (([] : Ties).map tieD) := ⟨o, rfl, Bn⟩
    obtain ⟨l1, hc, e3, ef1, Bc, len1, q1, q2⟩ := hung1 (W := W) (k := k + 1) L.toLibN (d1 := .int (most : Int)) (d2 := .int (more : Int)) (d4 := .und) (d5 := .int (n : Int)) (d7 := .und) (d8 := .und) (n - 1) 1 (l := []) (d3 := .und) (by omega) (by omega) (by simp; omega) Bx
    rw [List.nil_append] at Bc
    obtain ⟨tm, hd, em, am, bm, Bd⟩ := Bc.take (W := W) (k := k + 1) L.toLibN (m := (more : Int) + 1) (by omega) (by omega)
    obtain ⟨mm, rfl⟩ : ∃ mm : Nat, tm = mm := ⟨tm.toNat, by omega⟩
    obtain ⟨l2, he, e4, e7, ef2, Be, len2, q3⟩ := hung2 (n := n) (W := W) (k := k + 1) L.toLibN (by omega) (by omega) (d1 := .int (most : Int)) (d2 := .int (more : Int)) (d3 := e3) (d8 := .und) mm 0 (l := l1) (d4 := .und) (d7 := .und) (by omega) Bd
    obtain ⟨o', rfl, Bo⟩ := Be
    have fit : Fit n (l1 ++ l2) := by
      refine ⟨⟨by omega, fun p hp => ?_, fun x hx1 hx2 => ?_⟩, by omega, by rw [List.length_append]; omega⟩
      · rcases List.mem_append.mp hp with w | w
        · have := q1 p w; exact ⟨by omega, by omega, by omega⟩
        · exact q3 p w
      · obtain ⟨y, hy, hm⟩ := q2 x hx1 (by omega)
        exact ⟨y, hy, .inl (List.mem_append_left _ hm)⟩
    refine ⟨n, l1 ++ l2, [o'], ?_, Bo, fit, .inl (by omega), .inl (by rw [List.length_append]; omega)⟩
    have eb : eS (callF fns G W (k + 2)) G W (b_hung I) [.ref 0, .int (most : Int), .int (more : Int), .und, .und, .und, .und, .und, .und] h = .ok (.ret (netD n (l1 ++ l2))) [o', .lst ((l1 ++ l2).map tieD)] := by
      unfold b_hung
      refine (itef (h1 := ha) (cmpc (callc (arc rfl (ar1 rfl)) e) rfl (by rw [eq1, beq_eq_false_iff_ne.mpr z]))).trans ?_
      refine (nxtc (h1 := [o, .lst []]) (env' := [.ref 0, .int (most : Int), .int (more : Int), .und, .und, .int (n : Int), .ref 1, .und, .und]) ?_).trans ?_
      · rw [eS_par, arc (d := .int (n : Int)) (h1 := [o]) (ds := [.ref 1]) (h2 := [o, .lst []]) (binc rfl (callc (arc rfl (ar1 (binc rfl rfl rfl))) en) (by rw [opB_add, hn])) rfl, bind_ok]
        rfl
      refine (nxtc (s := .for (.var 3) .rng (.cons (.con (.int 1)) (.cons (.var 5) .nil)) (h1B I)) (h1 := hc) (env' := [.ref 0, .int (most : Int), .int (more : Int), e3, .und, .int (n : Int), .ref 1, .und, .und]) ((forc (ds := [.int ((1 : Nat) : Int), .int (n : Int)]) (h1 := [o, .lst []]) rfl (rng2 (by omega) (by omega) _)).trans ef1)).trans ?_
      refine (nxtc (s := .for (.var 4) .rng (.cons (.call I.take (.cons (.var 0) (.cons (.bin (.add true) (.var 2) (.con (.int 1))) .nil))) .nil) (h2B I)) (h1 := [o', .lst ((l1 ++ l2).map tieD)]) (env' := [.ref 0, .int (most : Int), .int (more : Int), e3, e4, .int (n : Int), .ref 1, e7, .und]) ?_).trans ?_
      · refine (forc (ds := [.int (mm : Int)]) (h1 := hd) (ar1 (callc (arc rfl (ar1 (binc rfl rfl rfl))) em)) (rng0 (by omega) _)).trans ?_
        rw [List.range_eq_range']
        exact ef2
      · exact retc (arc rfl (ar1 (bltc (ar1 rfl) rfl)))
    rw [eb, B.1]
    have low : (netD n (l1 ++ l2)).low 1 = true := by
      show (true && (D.lows 1 ((l1 ++ l2).map tieD) && true)) = true
      rw [ties_low]
      rfl
    exact back_pref' rfl rfl low (Bo.pure.low 1)
theorem hung_in (L : Lib0 fns G I) (B : BoxAt h cells) {most more : Nat} (h1 : 3 ≤ most) (h2 : most ≤ 12) (h3 : most - 1 + more ≤ 30) :
    ∃ (n : Nat) (ts : Ties) (h' : Heap), callF fns G W (k + 3) I.hung [.ref 0, .int (most : Int), .int (more : Int)] h = .ok (netD n ts) h' ∧ BoxAt h' cells ∧ Fit n ts ∧ (n ≤ most ∨ n ≤ 4) := by
  obtain ⟨n, ts, h', a, b, c, d, _⟩ := hung_in2 (W := W) (k := k) L B h1 h2 h3
  exact ⟨n, ts, h', a, b, c, d⟩
end
end CB
namespace CB
open MP DR Chip
section
variable {fns : List Fn} {G : List D} {I : Ix} {W k : Nat} {h : Heap} {n : Nat} {ts : Ties} {cells : List Int} {s : Nat}
/-! ### _law_near -/
def nearL (n : Nat) (ts : Ties) : D := .lst ((List.range n).map fun x => .lst (intsD (near ts x)))
theorem near_fm (x : Nat) : ∀ ts : Ties, (∀ p ∈ ts, p.1 ≠ p.2) → (ts.filterMap fun p => if p.1 = x then some (D.int (p.2 : Int)) else if p.2 = x then some (D.int (p.1 : Int)) else none) = intsD (near ts x)
  | [], _ => rfl
  | p :: ts, h => by
    rw [List.filterMap_cons, near_fm x ts fun q hq => h q (by simp [hq]), near]
    unfold intsD
    rw [List.map_append]
    by_cases a : p.1 = x
    · rw [if_pos a, if_pos a]; rfl
    · rw [if_neg a, if_neg a]
      by_cases b : p.2 = x
      · rw [if_pos b, if_pos b]; rfl
      · rw [if_neg b, if_neg b]; rfl
theorem lnear_in (L : Lib0 fns G I) (F : Fit n ts) : callF fns G W (k + 1) I.lnear [netD n ts] h = .ok (nearL n ts) h := by
  refine fnc L.lnear rfl (retc ?_)
  refine lcmap (L := List.range n) (f := fun (x : Nat) => .int (x : Int)) (g := fun x => .lst (intsD (near ts x))) (ds := [.int (n : Int)]) rfl (rng0 (Nat.le_trans F.n12 (by decide)) h) (fun x hx => ?_) (by rw [List.length_range]; exact Nat.le_trans F.n12 (by decide))
  refine turnT (env' := [netD n ts, .int (x : Int), .und, .und, .und]) rfl ?_
  rw [← near_fm x ts fun p hp => (F.inn p hp).2.2]
  refine lcfm (L := ts) (f := tieD) (ds := [.tup (ts.map tieD)]) rfl rfl (fun p hp => ?_) (Nat.le_trans F.t30 (by decide))
  have isin : ∀ hh, opC .isin (.int (x : Int)) (.tup [.int (p.1 : Int), .int (p.2 : Int)]) hh = some (decide (p.1 = x) || decide (p.2 = x)) := fun hh => by
    show some (((p.1 : Int) == (x : Int)) || (((p.2 : Int) == (x : Int)) || false)) = _
    have e : ∀ a b : Nat, ((a : Int) == (b : Int)) = decide (a = b) := fun a b => by
      by_cases q : a = b
      · subst q; simp
      · rw [decide_eq_false q, beq_eq_false_iff_ne.mpr (by omega)]
    rw [e, e, Bool.or_false]
  by_cases a : p.1 = x
  · rw [if_pos a]
    exact turnC (env' := [netD n ts, .int (x : Int), .int (p.1 : Int), .int (p.2 : Int), oneD]) rfl (cmpc rfl rfl ((isin h).trans (by rw [decide_eq_true a]; rfl))) (iteEt (cmpc rfl rfl (by rw [eq1, beq_iff_eq.mpr (by omega)])) rfl)
  · rw [if_neg a]
    by_cases b : p.2 = x
    · rw [if_pos b]
      exact turnC (env' := [netD n ts, .int (x : Int), .int (p.1 : Int), .int (p.2 : Int), oneD]) rfl (cmpc rfl rfl ((isin h).trans (by rw [decide_eq_true b, Bool.or_true]))) (iteEf (cmpc rfl rfl (by rw [eq1, beq_eq_false_iff_ne.mpr (by omega)])) rfl)
    · rw [if_neg b]
      exact turnF (env' := [netD n ts, .int (x : Int), .int (p.1 : Int), .int (p.2 : Int), oneD]) rfl (cmpc rfl rfl ((isin h).trans (by rw [decide_eq_false a, decide_eq_false b]; rfl)))
theorem nearL_len {x : Nat} (hx : x < n) {Φ : Nat → List D → Heap → R D} {env : Env} {a b : E} (e1 : eE Φ G a env h = .ok (nearL n ts) h) (e2 : eE Φ G b env h = .ok (.int (x : Int)) h) : eE Φ G (.blt .len (.cons (.idx a b) .nil)) env h = .ok (.int (deg ts x)) h := by
  refine bltc (ar1 (idxc e1 e2 (z := .lst (intsD (near ts x))) ?_)) ?_
  · show atI _ _ = _
    unfold atI ixN
    rw [List.length_map, List.length_range, if_pos (by omega), if_pos (by omega)]
    show ((List.range n).map _)[(x : Int).toNat]? = _
    rw [List.getElem?_map, List.getElem?_range (by omega)]
    simp
  · show R.ok (D.int ((intsD (near ts x)).length : Nat)) h = _
    rw [ints_len]
    rfl
/-! ### drawn rows -/
theorem drawn {Φ : Nat → List D → Heap → R D} {el : E} {env : Env} {i : Nat} (hi : i < (clr env [i]).length) {P : Nat → Int → Prop} {e : Nat}
    (step : ∀ (x : Nat) {h : Heap}, x < e → BoxAt h cells → ∃ v h', eE Φ G el ((clr env [i]).set i (.int (x : Int))) h = .ok (.int v) h' ∧ BoxAt h' cells ∧ P x v) : ∀ (m s : Nat) {h : Heap}, s + m = e → BoxAt h cells →
    ∃ (f : Nat → Int) (h' : Heap), compL (turnL Φ G (.var i) (.con (.bl true)) el (clr env [i])) [] ((List.range' s m).map fun (x : Nat) => D.int (x : Int)) h = .ok ((List.range' s m).map fun x => .int (f x)) h' ∧ BoxAt h' cells ∧ ∀ x, s ≤ x → x < e → P x (f x)
  | 0, s, h, hs, B => ⟨fun _ => 0, h, by
      show (if gdOk h [] = true then R.ok [] h else .bad) = _
      rw [if_pos (show gdOk h [] = true from rfl)]
      rfl, B, fun x a b => by omega⟩
  | m + 1, s, h, hs, B => by
    obtain ⟨v, h1, e1, B1, p1⟩ := step s (by omega) B
    obtain ⟨f, h2, e2, B2, q⟩ := drawn hi step m (s + 1) (by omega) B1
    refine ⟨fun x => if x = s then v else f x, h2, ?_, B2, fun x a b => ?_⟩
    · rw [List.range'_succ, List.map_cons]
      show (if gdOk h [] = true then _ else _) = _
      have et : turnL Φ G (.var i) (.con (.bl true)) el (clr env [i]) (.int (s : Int)) h = .ok (some (.int v)) h1 := turnT (env' := (clr env [i]).set i (.int (s : Int))) (by unfold bindT; rw [if_pos hi]) e1
      rw [if_pos (show gdOk h [] = true from rfl), et, bind_ok, e2, bind_ok, List.map_cons]
      show R.ok (D.int v :: (List.range' (s + 1) m).map fun x => D.int (f x)) h2 = R.ok (D.int (if s = s then v else f s) :: (List.range' (s + 1) m).map fun x => D.int (if x = s then v else f x)) h2
      rw [if_pos rfl]
      congr 2
      apply List.map_congr_left
      intro x hx
      have : s + 1 ≤ x := by
        rw [List.mem_range'] at hx
        obtain ⟨j, _, rfl⟩ := hx
        omega
      rw [if_neg (by omega)]
    · show P x (if x = s then v else f x)
      by_cases z : x = s
      · rw [if_pos z, z]; exact p1
      · rw [if_neg z]; exact q x (by omega) b
/-- a drawn tuple -/
theorem drawnT {Φ : Nat → List D → Heap → R D} {ia el : E} {env : Env} {i : Nat} (hi : i < (clr env [i]).length) {P : Nat → Int → Prop} (hn : n ≤ 64)
    (step : ∀ (x : Nat) {h : Heap}, x < n → BoxAt h cells → ∃ v h', eE Φ G el ((clr env [i]).set i (.int (x : Int))) h = .ok (.int v) h' ∧ BoxAt h' cells ∧ P x v) (B : BoxAt h cells) (e1 : eE Φ G ia env h = .ok (.tup [.int (n : Int)]) h) :
    ∃ (f : Nat → Int) (h' : Heap), eE Φ G (.blt .tuple (.cons (.lc true (.var i) .rng ia (.con (.bl true)) el) .nil)) env h = .ok (tupD n f) h' ∧ BoxAt h' cells ∧ On n fun x => P x (f x) := by
  obtain ⟨f, h', e, B', q⟩ := drawn (G := G) hi step n 0 (by omega) B
  refine ⟨f, h', ?_, B', fun x hx => q x (by omega) hx⟩
  refine bltc (ar1 (d := .lst (rw_ n f)) (h1 := h') ?_) rfl
  rw [eE_lc, e1, bind_ok]
  have it : iterOf .rng (args (.tup [D.int (n : Int)])) h = _ := rng0 (Nat.le_trans hn (by decide)) h
  rw [it]
  show R.bind (compL (turnL Φ G (.var i) (.con (.bl true)) el (clr env [i])) [] ((List.range n).map fun (x : Nat) => D.int (x : Int)) h) _ = _
  rw [List.range_eq_range', e, bind_ok]
  unfold newL
  rw [if_pos (by rw [List.length_map, List.length_range']; exact Nat.le_trans hn (by decide)), if_pos rfl]
  unfold rw_
  rw [List.range_eq_range']
/-! ### more of the mathematics -/
theorem St.congr {c d t : Nat → Int} (e : On n fun x => x ≠ s → c x = d x) (a : St n ts s c t) : St n ts s d t :=
  ⟨a.pos, a.sink, fun x hx hk => by have := a.rest x hx hk; have := e x hx hk; unfold aft at *; omega⟩
theorem Least.congr {c d t : Nat → Int} (e : On n fun x => x ≠ s → c x = d x) (a : Least n ts s c t) : Least n ts s d t :=
  ⟨St.congr e a.1, fun q hq => a.2 q (St.congr (fun x hx hk => (e x hx hk).symm) hq)⟩
theorem min_tup {f : Nat → Int} (hn : 1 ≤ n) (h0 : On n fun x => 0 ≤ f x) : ∃ v, opF .minL [tupD n f] h = .ok (.int v) h ∧ 0 ≤ v := by
  have fold : ∀ (l : List Int) (a : Int), 0 ≤ a → (∀ y ∈ l, 0 ≤ y) → 0 ≤ l.foldl min a := fun l => by
    induction l with
    | nil => intro a ha _; exact ha
    | cons y l ih =>
      intro a ha hl
      rw [List.foldl_cons]
      exact ih _ (Int.le_min.mpr ⟨ha, hl y (by simp)⟩) fun z hz => hl z (by simp [hz])
  obtain ⟨m, rfl⟩ : ∃ m, n = m + 1 := ⟨n - 1, by omega⟩
  refine ⟨((List.range m).map fun x => f (x + 1)).foldl min (f 0), ?_, ?_⟩
  · show ((R.opt h (intsOf (rw_ (m + 1) f))).bind _) = _
    unfold rw_
    rw [intsOf_map, List.range_succ_eq_map, List.map_cons, List.map_map]
    rfl
  · refine fold _ _ (h0 0 (by omega)) fun y hy => ?_
    obtain ⟨x, hx, rfl⟩ := List.mem_map.mp hy
    exact h0 (x + 1) (by have := List.mem_range.mp hx; omega)
theorem fuel_ok {C B : Int} (hn : n ≤ 12) (hC : 0 ≤ C) (hB : 12 * (24 * (12 * C)) ≤ B) : (n : Int) * ((n + n) * (n * C)) ≤ B := by
  have a : (n : Int) * C ≤ 12 * C := Int.mul_le_mul_of_nonneg_right (by omega) hC
  have a0 : 0 ≤ (n : Int) * C := Int.mul_nonneg (by omega) hC
  have b : ((n : Int) + n) * (n * C) ≤ 24 * (12 * C) := Int.mul_le_mul (by omega) a a0 (by omega)
  have b0 : 0 ≤ ((n : Int) + n) * (n * C) := Int.mul_nonneg (by omega) a0
  have d : (n : Int) * ((n + n) * (n * C)) ≤ 12 * (24 * (12 * C)) := Int.mul_le_mul (by omega) b b0 (by omega)
  omega
/-- a tuple of two tuples, number by number -/
theorem zip_sum {Φ : Nat → List D → Heap → R D} {env : Env} {ea eb : E} {i j : Nat} {a b : Nat → Int} (hn : n ≤ 64) (e1 : eE Φ G (.cons ea (.cons eb .nil)) env h = .ok (.tup [tupD n a, tupD n b]) h)
    (hb : ∀ x, x < n → bindT (.tup (.cons (.var i) (.cons (.var j) .nil))) (.tup [.int (a x), .int (b x)]) (clr env (tgI (.tup (.cons (.var i) (.cons (.var j) .nil))))) = some (((clr env (tgI (.tup (.cons (.var i) (.cons (.var j) .nil))))).set i (.int (a x))).set j (.int (b x))))
    (he : ∀ x, x < n → eE Φ G (.bin (.add true) (.var i) (.var j)) (((clr env (tgI (.tup (.cons (.var i) (.cons (.var j) .nil))))).set i (.int (a x))).set j (.int (b x))) h = .ok (.int (a x + b x)) h) :
    eE Φ G (.blt .tuple (.cons (.lc true (.tup (.cons (.var i) (.cons (.var j) .nil))) .zip (.cons ea (.cons eb .nil)) (.con (.bl true)) (.bin (.add true) (.var i) (.var j))) .nil)) env h = .ok (tupD n fun x => a x + b x) h := by
  refine bltc (ar1 (lcmap (L := List.range n) (f := fun x => .tup [.int (a x), .int (b x)]) (g := fun x => .int (a x + b x)) e1 (by show some (zipD (rw_ n a) (rw_ n b), []) = _; rw [zip_rw]) (fun x hx => ?_) (by rw [List.length_range]; exact Nat.le_trans hn (by decide)))) rfl
  exact turnT (hb x (List.mem_range.mp hx)) (he x (List.mem_range.mp hx))
end
end CB
namespace CB
open MP DR Chip
/-- a heap without places in it, the box at its head -/
structure BoxP (h : Heap) (cells : List Int) : Prop where
  box : Box h 0 cells
  pure : Pure h
section
variable {fns : List Fn} {G : List D} {I : Ix} {W k : Nat} {h : Heap} {n : Nat} {ts : Ties} {cells : List Int} {s : Nat}
theorem BoxAt.p (B : BoxAt h cells) : BoxP h cells := ⟨B.2, B.pure⟩
theorem box_low (v st a : Int) (cells : List Int) : Ob.low 0 (.lst [.int v, .int st, .int a, .lst (cells.map .int)]) = true := by
  show D.lows 0 [.int v, .int st, .int a, .lst (cells.map .int)] = true
  have : D.lows 0 (cells.map D.int) = true := by
    induction cells with
    | nil => rfl
    | cons x L ih => rw [List.map_cons, D.lows, ih]; rfl
  simp [D.lows, D.low, this]
theorem BoxP.ne (B : BoxP h cells) : 0 < h.length := B.box.1
/-- a draw, with more in the heap behind -/
theorem BoxP.take (L : LibN fns G I) (B : BoxP h cells) (t : Heap) {m : Int} (hm : 0 < m) (hm2 : m < 1073741824) :
    ∃ v h', callF fns G W (k + 1) I.take [.ref 0, .int m] (h ++ t) = .ok (.int v) (h' ++ t) ∧ 0 ≤ v ∧ v < m ∧ BoxP h' cells ∧ h'.length = h.length := by
  have ne := B.ne
  have Bt : Box (h ++ t) 0 cells := by
    obtain ⟨hb, v, st, a, e, z⟩ := B.box
    exact ⟨by rw [List.length_append]; omega, v, st, a, by rw [List.getElem?_append_left hb]; exact e, z⟩
  obtain ⟨v, o, e, h1, h2, h3⟩ := take_call (k := k) (G := G) (W := W) (show fns[I.take]? = some ⟨2, 5, bTake⟩ from L.take) Bt hm hm2
  obtain ⟨_, v', st', a', e2, z2⟩ := h3
  rw [List.getElem?_set_self Bt.1] at e2
  have eo : o = .lst [.int v', .int st', .int a', .lst (cells.map .int)] := Option.some.inj e2
  refine ⟨v, h.set 0 o, by rw [e, List.set_append_left _ _ ne], h1, h2, ⟨⟨by rw [List.length_set]; exact ne, v', st', a', by rw [List.getElem?_set_self ne, eo], z2⟩, ?_⟩, List.length_set⟩
  unfold Pure
  rw [List.all_eq_true]
  intro x hx
  rcases List.mem_or_eq_of_mem_set hx with q | q
  · exact (List.all_eq_true.mp B.pure) x q
  · rw [q, eo]; exact box_low _ _ _ _
theorem BoxP.pick (L : Lib0 fns G I) (B : BoxP h cells) (t : Heap) {menu : List D} (h1 : 0 < menu.length) (h2 : menu.length < 1000) : ∃ (i : Nat) (d : D) (h' : Heap), menu[i]? = some d ∧ callF fns G W (k + 2) I.pick [.ref 0, .lst menu] (h ++ t) = .ok d (h' ++ t) ∧ BoxP h' cells ∧ h'.length = h.length := by
  obtain ⟨v, h', e, a, b, B', hl⟩ := B.take (W := W) (k := k) L.toLibN t (m := (menu.length : Nat)) (by omega) (by omega)
  obtain ⟨i, rfl⟩ : ∃ i : Nat, v = i := ⟨v.toNat, by omega⟩
  have hi : i < menu.length := by omega
  refine ⟨i, menu[i], h', List.getElem?_eq_getElem hi, ?_, B', hl⟩
  rw [call_eq L.pick rfl]
  show MP.back (h ++ t).length (eS (callF fns G W (k + 1)) G W (b_pick I) [.ref 0, .lst menu] (h ++ t)) = _
  have eb : eS (callF fns G W (k + 1)) G W (b_pick I) [.ref 0, .lst menu] (h ++ t) = .ok (.ret menu[i]) (h' ++ t) := by
    refine retc (idxc (h1 := h ++ t) rfl (callc (arc rfl (ar1 (bltc (ar1 rfl) rfl))) e) ?_)
    show atI menu (i : Int) = _
    unfold atI ixN
    rw [if_pos (by omega), if_pos (by omega)]
    show menu[(i : Int).toNat]? = _
    rw [Int.toNat_natCast]
    exact List.getElem?_eq_getElem hi
  rw [eb]
  exact back_eqh (by rw [List.length_append, List.length_append, hl])
theorem BoxP.app (B : BoxP h cells) {t : Heap} (ht : t.all (Ob.low 0) = true) : BoxP (h ++ t) cells := by
  obtain ⟨hb, v, st, a, e, z⟩ := B.box
  refine ⟨⟨by rw [List.length_append]; omega, v, st, a, by rw [List.getElem?_append_left hb]; exact e, z⟩, ?_⟩
  unfold Pure
  rw [List.all_append, B.pure, ht]
  rfl
/-- drawn numbers, with a heap that holds more -/
theorem drawnP {Φ : Nat → List D → Heap → R D} {el : E} {env : Env} {i : Nat} (hi : i < (clr env [i]).length) {P : Nat → Int → Prop} {e : Nat}
    (step : ∀ (x : Nat) {h : Heap}, x < e → BoxP h cells → ∃ v h', eE Φ G el ((clr env [i]).set i (.int (x : Int))) h = .ok (.int v) h' ∧ BoxP h' cells ∧ h'.length = h.length ∧ P x v) : ∀ (m s : Nat) {h : Heap}, s + m = e → BoxP h cells →
    ∃ (f : Nat → Int) (h' : Heap), compL (turnL Φ G (.var i) (.con (.bl true)) el (clr env [i])) [] ((List.range' s m).map fun (x : Nat) => D.int (x : Int)) h = .ok ((List.range' s m).map fun x => .int (f x)) h' ∧ BoxP h' cells ∧ h'.length = h.length ∧ ∀ x, s ≤ x → x < e → P x (f x)
  | 0, s, h, hs, B => ⟨fun _ => 0, h, by
      show (if gdOk h [] = true then R.ok [] h else .bad) = _
      rw [if_pos (show gdOk h [] = true from rfl)]
      rfl, B, rfl, fun x a b => by omega⟩
  | m + 1, s, h, hs, B => by
    obtain ⟨v, h1, e1, B1, l1, p1⟩ := step s (by omega) B
    obtain ⟨f, h2, e2, B2, l2, q⟩ := drawnP hi step m (s + 1) (by omega) B1
    refine ⟨fun x => if x = s then v else f x, h2, ?_, B2, l2.trans l1, fun x a b => ?_⟩
    · rw [List.range'_succ, List.map_cons]
      show (if gdOk h [] = true then _ else _) = _
      have et : turnL Φ G (.var i) (.con (.bl true)) el (clr env [i]) (.int (s : Int)) h = .ok (some (.int v)) h1 := turnT (env' := (clr env [i]).set i (.int (s : Int))) (by unfold bindT; rw [if_pos hi]) e1
      rw [if_pos (show gdOk h [] = true from rfl), et, bind_ok, e2, bind_ok, List.map_cons]
      show R.ok (D.int v :: (List.range' (s + 1) m).map fun x => D.int (f x)) h2 = R.ok (D.int (if s = s then v else f s) :: (List.range' (s + 1) m).map fun x => D.int (if x = s then v else f x)) h2
      rw [if_pos rfl]
      congr 2
      apply List.map_congr_left
      intro x hx
      have : s + 1 ≤ x := by
        rw [List.mem_range'] at hx
        obtain ⟨j, _, rfl⟩ := hx
        omega
      rw [if_neg (by omega)]
    · show P x (if x = s then v else f x)
      by_cases z : x = s
      · rw [if_pos z, z]; exact p1
      · rw [if_neg z]; exact q x (by omega) b
theorem drawnLP {Φ : Nat → List D → Heap → R D} {ia el : E} {env : Env} {i : Nat} (hi : i < (clr env [i]).length) {P : Nat → Int → Prop} (hn : n ≤ 64) (imm : Bool)
    (step : ∀ (x : Nat) {h : Heap}, x < n → BoxP h cells → ∃ v h', eE Φ G el ((clr env [i]).set i (.int (x : Int))) h = .ok (.int v) h' ∧ BoxP h' cells ∧ h'.length = h.length ∧ P x v) (B : BoxP h cells) (e1 : eE Φ G ia env h = .ok (.tup [.int (n : Int)]) h) :
    ∃ (f : Nat → Int) (h' : Heap), eE Φ G (.lc imm (.var i) .rng ia (.con (.bl true)) el) env h = newL imm (rw_ n f) h' ∧ BoxP h' cells ∧ h'.length = h.length ∧ On n fun x => P x (f x) := by
  obtain ⟨f, h', e, B', hl, q⟩ := drawnP (G := G) hi step n 0 (by omega) B
  refine ⟨f, h', ?_, B', hl, fun x hx => q x (by omega) hx⟩
  rw [eE_lc, e1, bind_ok]
  have it : iterOf .rng (args (.tup [D.int (n : Int)])) h = _ := rng0 (Nat.le_trans hn (by decide)) h
  rw [it]
  show R.bind (compL (turnL Φ G (.var i) (.con (.bl true)) el (clr env [i])) [] ((List.range n).map fun (x : Nat) => D.int (x : Int)) h) _ = _
  rw [List.range_eq_range', e, bind_ok]
  unfold rw_
  rw [List.range_eq_range']
end
end CB
/-! more steps of a walk, for any program -/
namespace WK
open MP DR Chip CB
def tl : S → S
  | .cons _ r => r
  | s => s
section
variable {fns : List Fn} {G : List D} {W k : Nat} {Φ : Nat → List D → Heap → R D} {env env' : Env} {h h1 h2 h3 : Heap} {n : Nat}
theorem ge_in (x y : Int) (h : Heap) : opC .ge (.int x) (.int y) h = some (decide (y ≤ x)) := rfl
theorem lt_in (x y : Int) (h : Heap) : opC .lt (.int x) (.int y) h = some (decide (x < y)) := rfl
theorem gt_in (x y : Int) (h : Heap) : opC .gt (.int x) (.int y) h = some (decide (y < x)) := rfl
theorem forR {t : D → Env → Heap → R Env} {b : Env → Heap → R Fl} {x d : D} {xs : List D} {env env1 : Env} {h h1 : Heap} (e1 : t x env h = .ok env1 h) (e2 : b env1 h = .ok (.ret d) h1) : forL t b [] (x :: xs) env h = .ok (.ret d) h1 := by
  rw [forL]
  rw [if_pos (show gdOk h [] = true from rfl), e1, bind_ok, e2, bind_ok]
theorem at_end (B : Heap) (o : Ob) : (B ++ [o])[B.length]? = some o := by
  rw [List.getElem?_append_right (Nat.le_refl _), Nat.sub_self]; rfl
theorem set_end (B : Heap) (o o' : Ob) : (B ++ [o]).set B.length o' = B ++ [o'] := by
  rw [List.set_append_right _ _ (Nat.le_refl _), Nat.sub_self]; rfl
theorem idxJ {a b : E} {x y z : D} (e1 : eE Φ G a env h = .ok x h1) (e2 : eE Φ G b env h1 = .ok y h2) (e3 : opJ x y h2 = some z) : eE Φ G (.idx a b) env h = .ok z h2 := by rw [eE_idx, e1, bind_ok, e2, bind_ok, e3, opt1]
theorem cmpK {o : COp} {a b : E} {x y : D} {k : Bool} (e1 : eE Φ G a env h = .ok x h1) (e2 : eE Φ G b env h1 = .ok y h2) (e3 : opK o x y h2 = some k) : eE Φ G (.cmp o a b) env h = .ok (.bl k) h2 := by rw [eE_cmp, e1, bind_ok, e2, bind_ok, e3, opt1, bind_ok]
theorem asgJ {a b e : E} {r : S} {h' : Heap} {d x y : D} (e1 : eE Φ G e env h = .ok d h1) (e2 : eE Φ G a env h1 = .ok x h2) (e3 : eE Φ G b env h2 = .ok y h3) (e4 : setJ x y d h3 = .ok () h') : eS Φ G W (.cons (.asg (.idx a b) e) r) env h = eS Φ G W r env h' := by
  refine nxtc ?_
  rw [eS_asg, e1, bind_ok]
  show R.bind (R.bind (eE Φ G a env h1) _) _ = _
  rw [e2, bind_ok]
  show R.bind (R.bind (eE Φ G b env h2) _) _ = _
  rw [e3, bind_ok, e4, bind_ok, bind_ok]
theorem parc {is : List Nat} {es : E} {ds : List D} {r : S} (e1 : eE Φ G es env h = .ok (.tup ds) h1) (e2 : setN is ds env = some env') : eS Φ G W (.cons (.par is es) r) env h = eS Φ G W r env' h1 :=
  nxtc (by rw [eS_par, e1, bind_ok]; show (R.opt h1 (setN is ds env)).bind _ = _; rw [e2, opt1, bind_ok])
theorem nxtr {s r : S} {d : D} (e : eS Φ G W s env h = .ok (.ret d) h1) : eS Φ G W (.cons s r) env h = .ok (.ret d) h1 := by rw [eS_cons, e, bind_ok]
theorem loop_go {c : Env → Heap → R Bool} {b : Env → Heap → R Fl} {m : Nat} {env env' : Env} {h h1 h' : Heap} (ec : c env h = .ok true h1) (eb : b env h1 = .ok (.nxt env') h') : loop c b (m + 1) env h = loop c b m env' h' := by
  rw [loop, ec, bind_ok, if_pos rfl, eb, bind_ok]
theorem loop_out {c : Env → Heap → R Bool} {b : Env → Heap → R Fl} {m : Nat} {env : Env} {h h1 : Heap} (ec : c env h = .ok false h1) : loop c b (m + 1) env h = .ok (.nxt env) h1 := by
  rw [loop, ec, bind_ok, if_neg (by decide)]
theorem loop_ret {c : Env → Heap → R Bool} {b : Env → Heap → R Fl} {m : Nat} {env : Env} {h h1 h' : Heap} {d : D} (ec : c env h = .ok true h1) (eb : b env h1 = .ok (.ret d) h') : loop c b (m + 1) env h = .ok (.ret d) h' := by
  rw [loop, ec, bind_ok, if_pos rfl, eb, bind_ok]
/-- the condition of a while -/
theorem cond {c : E} {k : Bool} (e : eE Φ G c env h = .ok (.bl k) h1) : ((eE Φ G c env h).bind fun x h1 => tru x h1) = .ok k h1 := by rw [e, bind_ok, tru1]
theorem items_at {H : Heap} {p : Nat} {f : Nat → Int} (e : H[p]? = some (Ob.lst (rw_ n f))) : opF .tuple [.ref p] H = .ok (tupD n f) H := by
  show ((R.opt H (items H (.ref p))).bind fun ys h => R.ok (D.tup ys) h) = _
  have : items H (.ref p) = some (rw_ n f) := by
    unfold items
    simp only [e]
  rw [this]
  rfl
/-- the rows of numbers lie in the heap -/
def Rw (B : Heap) (b n : Nat) (r : Nat → List Nat) : Prop := ∀ x, x < n → B[b + x]? = some (Ob.lst (intsD (r x)))
theorem Rw.app {B : Heap} {b n : Nat} {r : Nat → List Nat} (R : Rw B b n r) (t : Heap) : Rw (B ++ t) b n r := fun x hx => by
  have e := R x hx
  rw [List.getElem?_append_left (List.getElem?_eq_some_iff.mp e).1, e]
theorem rw_rows (h t : Heap) (n : Nat) (r : Nat → List Nat) : Rw (h ++ rowsO n r ++ t) h.length n r := fun x hx => rows_at t r hx
section
variable {B : Heap} {b : Nat} {r : Nat → List Nat}
theorem Rw.gd (R : Rw B b n r) {x : Nat} (hx : x < n) : gdOk B [(b + x, intsD (r x))] = true := by
  unfold gdOk
  simp only [List.all_cons, List.all_nil, R x hx, beqs_ints, Bool.and_self]
theorem Rw.it (R : Rw B b n r) {x : Nat} (hx : x < n) : iterOf .gen [.ref (b + x)] B = some (intsD (r x), [(b + x, intsD (r x))]) := by
  show (items _ _).map (fun xs => (xs, gdOf _ _)) = _
  have : items B (.ref (b + x)) = some (intsD (r x)) := by unfold items; simp only [R x hx]
  rw [this]
  unfold gdOf
  simp only [R x hx]
  rfl
theorem Rw.len (R : Rw B b n r) {x : Nat} (hx : x < n) : opF .len [.ref (b + x)] B = .ok (.int ((r x).length : Nat)) B := (ref_len (R x hx)).trans (by rw [ints_len])
theorem ints_at (l : List Nat) {i : Nat} (hi : i < l.length) : (intsD l)[i]? = some (.int ((l.getD i 0 : Nat) : Int)) := by
  unfold intsD
  rw [List.getElem?_map, List.getElem?_eq_getElem hi, List.getD, List.getElem?_eq_getElem hi]
  rfl
/-- a number of a row -/
theorem Rw.at (R : Rw B b n r) {x i : Nat} (hx : x < n) (hi : i < (r x).length) : opI (.ref (b + x)) (.int (i : Int)) B = some (.int (((r x).getD i 0 : Nat) : Int)) := by
  unfold opI
  simp only [R x hx]
  show atI _ _ = _
  unfold atI ixN
  rw [ints_len, if_pos (by omega), if_pos (by omega)]
  show (intsD (r x))[(i : Int).toNat]? = _
  rw [Int.toNat_natCast, ints_at _ hi]
end
theorem lst_at (l : List Nat) {i : Nat} (hi : i < l.length) (hh : Heap) : opI (.lst (intsD l)) (.int (i : Int)) hh = some (.int ((l.getD i 0 : Nat) : Int)) := by
  show atI _ _ = _
  unfold atI ixN
  rw [ints_len, if_pos (by omega), if_pos (by omega)]
  show (intsD l)[(i : Int).toNat]? = _
  rw [Int.toNat_natCast, ints_at _ hi]
/-- rows of numbers as plain data -/
def rowsL (n : Nat) (r : Nat → List Nat) : D := .lst ((List.range n).map fun x => .lst (intsD (r x)))
theorem rowsL_at (r : Nat → List Nat) {x : Nat} (hx : x < n) (hh : Heap) : opI (rowsL n r) (.int (x : Int)) hh = some (.lst (intsD (r x))) := by
  show atI _ _ = _
  unfold atI ixN
  rw [List.length_map, List.length_range, if_pos (by omega), if_pos (by omega)]
  show ((List.range n).map _)[(x : Int).toNat]? = _
  rw [List.getElem?_map, List.getElem?_range (by omega)]
  simp
/-- a heap, a list of n numbers behind it -/
abbrev HB (B : Heap) (n : Nat) (out : Nat → Int) : Heap := B ++ [Ob.lst (rw_ n out)]
theorem HB_out {B : Heap} {out : Nat → Int} : (HB B n out)[B.length]? = some (Ob.lst (rw_ n out)) := by
  rw [List.getElem?_append_right (Nat.le_refl _), Nat.sub_self]; rfl
theorem HB_set {B : Heap} {out : Nat → Int} (o : Nat → Int) : (HB B n out).set B.length (Ob.lst (rw_ n o)) = HB B n o := by
  rw [List.set_append_right _ _ (Nat.le_refl _), Nat.sub_self]; rfl
theorem HBat {B : Heap} {m : Nat} (hm : B.length = m) (f : Nat → Int) : (B ++ [Ob.lst (rw_ n f)])[m]? = some (Ob.lst (rw_ n f)) := by rw [← hm]; exact HB_out
theorem HBset {B : Heap} {m : Nat} (hm : B.length = m) (f g : Nat → Int) : (B ++ [Ob.lst (rw_ n f)]).set m (Ob.lst (rw_ n g)) = B ++ [Ob.lst (rw_ n g)] := by rw [← hm]; exact HB_set g
/-- a heap, two lists of n numbers behind it -/
abbrev H2 (B : Heap) (n : Nat) (a b : Nat → Int) : Heap := B ++ [Ob.lst (rw_ n a), Ob.lst (rw_ n b)]
section
variable {B : Heap} {a b : Nat → Int}
theorem H2_0 : (H2 B n a b)[B.length]? = some (Ob.lst (rw_ n a)) := by
  rw [List.getElem?_append_right (Nat.le_refl _), Nat.sub_self]; rfl
theorem H2_1 : (H2 B n a b)[B.length + 1]? = some (Ob.lst (rw_ n b)) := by
  rw [List.getElem?_append_right (by omega), show B.length + 1 - B.length = 1 by omega]; rfl
theorem H2_s0 (o : Nat → Int) : (H2 B n a b).set B.length (Ob.lst (rw_ n o)) = H2 B n o b := by
  rw [List.set_append_right _ _ (Nat.le_refl _), Nat.sub_self]; rfl
theorem H2_s1 (o : Nat → Int) : (H2 B n a b).set (B.length + 1) (Ob.lst (rw_ n o)) = H2 B n a o := by
  rw [List.set_append_right _ _ (by omega), show B.length + 1 - B.length = 1 by omega]; rfl
end
theorem rep_rw (n : Nat) : rep n [D.int 0] = rw_ n fun _ => 0 := by
  unfold rep rw_
  induction n with
  | zero => rfl
  | succ m ih => rw [List.replicate_succ', List.flatten_append, ih, List.range_succ, List.map_append]; rfl
theorem zeros {e : E} {H : Heap} (hn : n ≤ 64) (ee : eE Φ G e env H = .ok (.int (n : Int)) H) : eE Φ G (.bin (.mul false) (.lst true (.cons (.con (.int 0)) .nil)) e) env H = .ok (.ref H.length) (H ++ [Ob.lst (rw_ n fun _ => 0)]) := by
  refine binc (x := .lst [.int 0]) (y := .int (n : Int)) (h1 := H) (h2 := H) rfl ee ?_
  show (if (decide ((n : Int) ≤ 4096) && decide (-4096 ≤ (n : Int)) && decide (([D.int 0] : List D).length ≤ 4096)) = true then newL false (rep (n : Int).toNat [D.int 0]) H else .bad) = _
  rw [decide_eq_true (show (n : Int) ≤ 4096 by omega), decide_eq_true (show -4096 ≤ (n : Int) by omega), decide_eq_true (show ([D.int 0] : List D).length ≤ 4096 by decide), Bool.and_self, Bool.and_self, if_pos rfl, Int.toNat_natCast, rep_rw]
  unfold newL
  rw [if_pos (by rw [rw_len]; exact Nat.le_trans hn (by decide)), if_neg (by decide)]
/-- range of a great number -/
theorem rngB {m : Nat} (hm : m ≤ 4000000000000000000) (H : Heap) : iterOf .rng [.int (m : Int)] H = some ((List.range' 0 m).map fun (x : Nat) => D.int (x : Int), []) := by
  show (if big62 (m : Int) = true then some ((rangeI 0 (m : Int)).map D.int, ([] : Gd)) else none) = _
  have b : big62 (m : Int) = true := by
    unfold big62
    rw [Bool.and_eq_true]
    exact ⟨decide_eq_true (by omega), decide_eq_true (by omega)⟩
  have r : (rangeI 0 (m : Int)).map D.int = (List.range' 0 m).map fun (x : Nat) => D.int (x : Int) := by
    unfold rangeI
    rw [List.map_map, Int.sub_zero, Int.toNat_natCast, List.range_eq_range']
    apply List.map_congr_left
    intro x _
    show D.int (0 + (x : Int)) = _
    rw [Int.zero_add]
  rw [b, if_pos rfl, r]
theorem mod_in {x m : Nat} (hm : 0 < m) (H : Heap) : opB .mod (.int (x : Int)) (.int (m : Int)) H = .ok (.int ((x % m : Nat) : Int)) H := by
  show (if 0 < (m : Int) then R.ok (D.int ((x : Int) % (m : Int))) H else .bad) = _
  rw [if_pos (by omega)]
  rfl
end
end WK
/-! more steps of a walk: drawn rows, rows walked under guard -/
namespace WK
open MP DR Chip CB
section
variable {fns : List Fn} {G : List D} {W k : Nat} {Φ : Nat → List D → Heap → R D} {env env' : Env} {h h1 h2 h3 : Heap} {n : Nat} {cells : List Int}
/-- a def without an answer, what it laid is forgotten -/
theorem fncNT {f np ns : Nat} {body : S} {ds : List D} (hf : fns[f]? = some ⟨np, ns, body⟩) (hl : ds.length = np) {t : Heap} (e : eS (callF fns G W k) G W body (ds ++ List.replicate (ns - np) .und) h = .ok (.nxt env) (h ++ t)) (low : h.all (Ob.low h.length) = true) : callF fns G W (k + 1) f ds h = .ok .non h := by
  rw [call_eq hf hl]
  show MP.back h.length (eS (callF fns G W k) G W body (ds ++ List.replicate (ns - np) .und) h) = _
  rw [e]
  show R.ok D.non (trim h.length (h ++ t)) = _
  unfold trim
  rw [List.take_left, low, if_pos rfl]
/-- a def that answers, the heap as long as before -/
theorem fncL {f np ns : Nat} {body : S} {ds : List D} {d : D} (hf : fns[f]? = some ⟨np, ns, body⟩) (hl : ds.length = np) (e : eS (callF fns G W k) G W body (ds ++ List.replicate (ns - np) .und) h = .ok (.ret d) h1) (same : h1.length = h.length) : callF fns G W (k + 1) f ds h = .ok d h1 := by
  rw [call_eq hf hl]
  show MP.back h.length (eS (callF fns G W k) G W body (ds ++ List.replicate (ns - np) .und) h) = _
  rw [e]
  show (if _ then _ else _) = _
  rw [← same, List.take_length]
  split <;> rfl
/-- a def that answers, what it laid behind is forgotten -/
theorem fncLT {f np ns : Nat} {body : S} {ds : List D} {d : D} {t : Heap} (hf : fns[f]? = some ⟨np, ns, body⟩) (hl : ds.length = np) (e : eS (callF fns G W k) G W body (ds ++ List.replicate (ns - np) .und) h = .ok (.ret d) (h1 ++ t)) (same : h1.length = h.length) (hd : d.low h1.length = true) (low : h1.all (Ob.low h1.length) = true) : callF fns G W (k + 1) f ds h = .ok d h1 := by
  rw [call_eq hf hl]
  show MP.back h.length (eS (callF fns G W k) G W body (ds ++ List.replicate (ns - np) .und) h) = _
  rw [e]
  show (if _ then _ else _) = _
  rw [← same, List.take_left, hd, low]
  rfl
theorem compL_mapg {α : Type} {F : D → Heap → R (Option D)} {f g : α → D} {gd : Gd} (hg : gdOk h gd = true) : ∀ {L : List α}, (∀ i ∈ L, F (f i) h = .ok (some (g i)) h) → compL F gd (L.map f) h = .ok (L.map g) h
  | [], _ => by
    show (if gdOk h gd = true then R.ok [] h else .bad) = _
    rw [if_pos hg]
    rfl
  | x :: xs, e => by
    show (if gdOk h gd = true then _ else _) = _
    rw [if_pos hg, e x (by simp), bind_ok, compL_mapg hg fun y hy => e y (by simp [hy]), bind_ok]
    rfl
/-- a comprehension, what is walked may be laid before -/
theorem lcmapg {α : Type} {tg ia el : E} {k : ItK} {ds : List D} {L : List α} {f g : α → D} {gd : Gd} (imm : Bool) (e1 : eE Φ G ia env h = .ok (.tup ds) h1) (e2 : iterOf k ds h1 = some (L.map f, gd)) (hg : gdOk h1 gd = true)
    (he : ∀ i ∈ L, turnL Φ G tg (.con (.bl true)) el (clr env (tgI tg)) (f i) h1 = .ok (some (g i)) h1) : eE Φ G (.lc imm tg k ia (.con (.bl true)) el) env h = newL imm (L.map g) h1 := by
  rw [eE_lc, e1, bind_ok]
  have e2' : iterOf k (args (.tup ds)) h1 = some (L.map f, gd) := e2
  rw [e2']
  show R.bind (compL (turnL Φ G tg (.con (.bl true)) el (clr env (tgI tg))) gd (L.map f) h1) _ = _
  rw [compL_mapg hg he, bind_ok]
theorem newT {xs : List D} (hn : xs.length ≤ SZ) : newL true xs h = .ok (.lst xs) h := by
  unfold newL
  rw [if_pos hn, if_pos rfl]
theorem newF {xs : List D} (hn : xs.length ≤ SZ) : newL false xs h = .ok (.ref h.length) (h ++ [Ob.lst xs]) := by
  unfold newL
  rw [if_pos hn, if_neg (by decide)]
theorem sz64 {m : Nat} (h : m ≤ 64) : m ≤ SZ := Nat.le_trans h (by decide)
/-- a comprehension that draws -/
theorem drawnG {α β : Type} {tg el : E} {f : α → D} {g : α → β → D} {P : α → β → Prop} {I : Heap → Prop} : ∀ {L : List α}, (∀ x ∈ L, ∀ {h : Heap}, I h → ∃ b h', turnL Φ G tg (.con (.bl true)) el env (f x) h = .ok (some (g x b)) h' ∧ I h' ∧ P x b) → ∀ {h : Heap}, I h →
    ∃ (ps : List (α × β)) (h' : Heap), compL (turnL Φ G tg (.con (.bl true)) el env) [] (L.map f) h = .ok (ps.map fun p => g p.1 p.2) h' ∧ I h' ∧ ps.map (·.1) = L ∧ ∀ p ∈ ps, P p.1 p.2
  | [], step, h, B => ⟨[], h, by
      show (if gdOk h [] = true then R.ok [] h else .bad) = _
      rw [if_pos (show gdOk h [] = true from rfl)]
      rfl, B, rfl, by simp⟩
  | x :: L, step, h, B => by
    obtain ⟨b, h1, e1, B1, p1⟩ := step x (by simp) B
    obtain ⟨ps, h2, e2, B2, q1, q2⟩ := drawnG (L := L) (fun y hy => step y (by simp [hy])) B1
    refine ⟨(x, b) :: ps, h2, ?_, B2, by rw [List.map_cons, q1], fun p hp => ?_⟩
    · show (if gdOk h [] = true then _ else _) = _
      rw [if_pos (show gdOk h [] = true from rfl), e1, bind_ok, e2, bind_ok]
      rfl
    · rcases List.mem_cons.mp hp with e | e
      · subst e; exact p1
      · exact q2 p e
/-- a list that draws, as a term -/
theorem lcdrawn {α β : Type} {tg ia el : E} {k : ItK} {ds : List D} {f : α → D} {g : α → β → D} {P : α → β → Prop} {I : Heap → Prop} {L : List α} (imm : Bool) (e1 : eE Φ G ia env h = .ok (.tup ds) h1) (e2 : iterOf k ds h1 = some (L.map f, []))
    (step : ∀ x ∈ L, ∀ {h : Heap}, I h → ∃ b h', turnL Φ G tg (.con (.bl true)) el (clr env (tgI tg)) (f x) h = .ok (some (g x b)) h' ∧ I h' ∧ P x b) (B : I h1) :
    ∃ (ps : List (α × β)) (h' : Heap), eE Φ G (.lc imm tg k ia (.con (.bl true)) el) env h = newL imm (ps.map fun p => g p.1 p.2) h' ∧ I h' ∧ ps.map (·.1) = L ∧ ∀ p ∈ ps, P p.1 p.2 := by
  obtain ⟨ps, h', e, B', q1, q2⟩ := drawnG (Φ := Φ) (G := G) step B
  refine ⟨ps, h', ?_, B', q1, q2⟩
  rw [eE_lc, e1, bind_ok]
  have e2' : iterOf k (args (.tup ds)) h1 = some (L.map f, []) := e2
  rw [e2']
  show R.bind (compL (turnL Φ G tg (.con (.bl true)) el (clr env (tgI tg))) [] (L.map f) h1) _ = _
  rw [e, bind_ok]
/-- pairs over a range, as a function -/
theorem pairs_fun {β : Type} [Inhabited β] {ps : List (Nat × β)} {n : Nat} (e : ps.map (·.1) = List.range n) : ps = (List.range n).map fun x => (x, (ps.getD x (0, default)).2) := by
  have hl : ps.length = n := by rw [← List.length_map (f := (·.1)), e, List.length_range]
  apply List.ext_getElem (by rw [List.length_map, List.length_range, hl])
  intro i h1 h2
  rw [List.getElem_map, List.getElem_range, List.getD, List.getElem?_eq_getElem h1]
  have : (ps.map (·.1))[i]'(by rw [List.length_map]; exact h1) = i := by
    have : (ps.map (·.1))[i]? = some i := by rw [e, List.getElem?_range (by omega)]
    rw [List.getElem?_eq_getElem (by rw [List.length_map]; exact h1)] at this
    exact Option.some.inj this
  rw [List.getElem_map] at this
  exact Prod.ext this rfl
theorem zipD_map {α : Type} (f g : α → D) : ∀ L : List α, zipD (L.map f) (L.map g) = L.map fun x => .tup [f x, g x]
  | [] => rfl
  | x :: L => by rw [List.map_cons, List.map_cons, zipD, zipD_map f g L, List.map_cons]
end
end WK
namespace RT
open MP DR CB
/-- which number each def has -/
structure Rx where
  (isPlain cp endsOf cps right rotors other lead lplain lends lgo llead lrotors gOne : Nat)
def b_isPlain (I : Ix) (J : Rx) : S := (.cons (.ret (.blt .all (.cons (.lc true (.var 1) .gen (.cons (.idx (.var 0) (.con (.int 1))) .nil) (.con (.bl true)) (.cmp .eq (.idx (.var 1) (.con (.int 2))) (.glo J.gOne))) .nil)))
 .nil)
def b_cp (I : Ix) (J : Rx) : S := (.cons (.ite (.nt (.call I.below (.cons (.idx (.var 0) (.con (.int 0))) (.cons (.var 1) .nil))))
 (.cons I.rB
 .nil)
 .nil)
 .nil)
def b_endsOf (I : Ix) (J : Rx) : S := (.cons (.asg (.var 1) (.lc true (.var 3) .rng (.cons (.idx (.var 0) (.con (.int 0))) .nil) (.con (.bl true)) (.lst false .nil)))
 (.cons (.for (.tup (.cons (.var 2) (.cons (.tup (.cons (.var 4) (.cons (.var 5) (.cons (.var 6) .nil)))) .nil))) .enum (.cons (.idx (.var 0) (.con (.int 1))) .nil)
 (.cons (.exp (.mth .append (.idx (.var 1) (.var 4)) (.cons (.var 2) .nil)))
 (.cons (.exp (.mth .append (.idx (.var 1) (.var 5)) (.cons (.var 2) .nil)))
 .nil)))
 (.cons (.ret (.var 1))
 .nil)))
def b_cps (I : Ix) (J : Rx) : S := (.cons (.exp (.call I.checkNet (.cons (.var 0) .nil)))
 (.cons (.for (.var 2) .gen (.cons (.var 1) .nil)
 (.cons (.exp (.call J.cp (.cons (.var 0) (.cons (.var 2) .nil))))
 .nil))
 .nil))
def b_right (I : Ix) (J : Rx) : S := (.cons (.ite (.or2 (.cmp .lt (.idx (.var 0) (.con (.int 0))) (.con (.int 2))) (.or2 (.cmp .gt (.blt .len (.cons (.call I.partsOf (.cons (.var 0) .nil)) .nil)) (.con (.int 1))) (.one (.nt (.call J.isPlain (.cons (.var 0) .nil))))))
 (.cons I.rS
 .nil)
 .nil)
 .nil)
def b_rotors (I : Ix) (J : Rx) : S := (.cons (.ite (.or2 (.nt (.blt (.isinst .tuple) (.cons (.var 1) .nil))) (.one (.cmp .ne (.blt .len (.cons (.var 1) .nil)) (.idx (.var 0) (.con (.int 0))))))
 (.cons I.rB
 .nil)
 .nil)
 (.cons (.ite (.nt (.blt .all (.cons (.lc true (.tup (.cons (.var 2) (.cons (.var 3) .nil))) .zip (.cons (.var 1) (.cons (.call J.endsOf (.cons (.var 0) .nil)) .nil)) (.con (.bl true)) (.call I.below (.cons (.blt .len (.cons (.var 3) .nil)) (.cons (.var 2) .nil)))) .nil)))
 (.cons I.rB
 .nil)
 .nil)
 .nil))
def b_other (I : Ix) (J : Rx) : S := (.cons (.asg (.tup (.cons (.var 3) (.cons (.var 4) (.cons (.var 5) .nil)))) (.idx (.idx (.var 0) (.con (.int 1))) (.var 1)))
 (.cons (.ret (.ite (.cmp .eq (.var 2) (.var 3)) (.var 4) (.var 3)))
 .nil))
def b_lead (I : Ix) (J : Rx) : S := (.cons (.asg (.tup (.cons (.var 4) (.cons (.var 5) (.cons (.var 6) (.cons (.var 7) .nil))))) (.tup (.cons (.call J.endsOf (.cons (.var 0) .nil)) (.cons (.blt (.list false) (.cons (.var 1) .nil)) (.cons (.bin (.mul false) (.lst true (.cons (.con (.int 0)) .nil)) (.idx (.var 0) (.con (.int 0)))) (.cons (.var 2) .nil))))))
 (.cons (.whl (.cmp .ne (.var 7) (.var 3))
 (.cons (.asg (.idx (.var 5) (.var 7)) (.bin .mod (.bin (.add true) (.idx (.var 5) (.var 7)) (.con (.int 1))) (.blt .len (.cons (.idx (.var 4) (.var 7)) .nil))))
 (.cons (.aug (.add true) (.idx (.var 6) (.var 7)) (.con (.int 1)))
 (.cons (.asg (.var 7) (.call J.other (.cons (.var 0) (.cons (.idx (.idx (.var 4) (.var 7)) (.idx (.var 5) (.var 7))) (.cons (.var 7) .nil)))))
 .nil))))
 (.cons (.ret (.tup (.cons (.blt .tuple (.cons (.var 5) .nil)) (.cons (.blt .tuple (.cons (.var 6) .nil)) .nil))))
 .nil)))
def b_lplain (I : Ix) (J : Rx) : S := (.cons (.asg (.var 3) (.bin (.add true) (.con (.int 2)) (.call I.take (.cons (.var 0) (.cons (.bin .sub (.var 1) (.con (.int 1))) .nil)))))
 (.cons (.asg (.var 4) (.lc false (.var 9) .rng (.cons (.con (.int 1)) (.cons (.var 3) .nil)) (.con (.bl true)) (.tup (.cons (.call I.take (.cons (.var 0) (.cons (.var 9) .nil))) (.cons (.var 9) (.cons (.tup (.cons (.con (.int 1)) (.cons (.con (.int 1)) .nil))) .nil))))))
 (.cons (.for (.var 5) .rng (.cons (.call I.take (.cons (.var 0) (.cons (.bin (.add true) (.var 2) (.con (.int 1))) .nil))) .nil)
 (.cons (.asg (.var 8) (.call I.take (.cons (.var 0) (.cons (.var 3) .nil))))
 (.cons (.exp (.mth .append (.var 4) (.cons (.tup (.cons (.var 8) (.cons (.bin .mod (.bin (.add true) (.bin (.add true) (.var 8) (.con (.int 1))) (.call I.take (.cons (.var 0) (.cons (.bin .sub (.var 3) (.con (.int 1))) .nil)))) (.var 3)) (.cons (.tup (.cons (.con (.int 1)) (.cons (.con (.int 1)) .nil))) .nil)))) .nil)))
 .nil)))
 (.cons (.asg (.var 6) (.lst false .nil))
 (.cons (.for (.var 7) .gen (.cons (.var 4) .nil)
 (.cons (.exp (.mth .insert (.var 6) (.cons (.call I.take (.cons (.var 0) (.cons (.bin (.add true) (.blt .len (.cons (.var 6) .nil)) (.con (.int 1))) .nil))) (.cons (.var 7) .nil))))
 .nil))
 (.cons (.ret (.tup (.cons (.var 3) (.cons (.blt .tuple (.cons (.var 6) .nil)) .nil))))
 .nil))))))
def b_lends (I : Ix) (J : Rx) : S := (.cons (.ret (.lc true (.var 1) .rng (.cons (.idx (.var 0) (.con (.int 0))) .nil) (.con (.bl true)) (.lc true (.var 2) .rng (.cons (.blt .len (.cons (.idx (.var 0) (.con (.int 1))) .nil)) .nil) (.cmp .isin (.var 1) (.slc true (.idx (.idx (.var 0) (.con (.int 1))) (.var 2)) (.con .und) (.con (.int 2)))) (.var 2))))
 .nil)
def b_lgo (I : Ix) (J : Rx) : S := (.cons (.ret (.ite (.cmp .eq (.idx (.idx (.idx (.var 0) (.con (.int 1))) (.var 1)) (.con (.int 0))) (.var 2)) (.idx (.idx (.idx (.var 0) (.con (.int 1))) (.var 1)) (.con (.int 1))) (.idx (.idx (.idx (.var 0) (.con (.int 1))) (.var 1)) (.con (.int 0)))))
 .nil)
def b_llead (I : Ix) (J : Rx) : S := (.cons (.asg (.tup (.cons (.var 4) (.cons (.var 5) (.cons (.var 6) (.cons (.var 7) .nil))))) (.tup (.cons (.call J.lends (.cons (.var 0) .nil)) (.cons (.blt (.list false) (.cons (.var 1) .nil)) (.cons (.bin (.mul false) (.lst true (.cons (.con (.int 0)) .nil)) (.idx (.var 0) (.con (.int 0)))) (.cons (.var 2) .nil))))))
 (.cons (.whl (.cmp .ne (.var 7) (.var 3))
 (.cons (.asg (.idx (.var 5) (.var 7)) (.bin .mod (.bin (.add true) (.idx (.var 5) (.var 7)) (.con (.int 1))) (.blt .len (.cons (.idx (.var 4) (.var 7)) .nil))))
 (.cons (.asg (.idx (.var 6) (.var 7)) (.bin (.add true) (.idx (.var 6) (.var 7)) (.con (.int 1))))
 (.cons (.asg (.var 7) (.call J.lgo (.cons (.var 0) (.cons (.idx (.idx (.var 4) (.var 7)) (.idx (.var 5) (.var 7))) (.cons (.var 7) .nil)))))
 .nil))))
 (.cons (.ret (.tup (.cons (.blt .tuple (.cons (.var 5) .nil)) (.cons (.blt .tuple (.cons (.var 6) .nil)) .nil))))
 .nil)))
def b_lrotors (I : Ix) (J : Rx) : S := (.cons (.ret (.blt .tuple (.cons (.lc true (.var 2) .gen (.cons (.call J.lends (.cons (.var 1) .nil)) .nil) (.con (.bl true)) (.call I.take (.cons (.var 0) (.cons (.blt .len (.cons (.var 2) .nil)) .nil)))) .nil)))
 .nil)
structure RL (fns : List Fn) (G : List D) (I : Ix) (J : Rx) : Prop extends LibN fns G I where
  isPlain : fns[J.isPlain]? = some ⟨1, 2, b_isPlain I J⟩
  cp : fns[J.cp]? = some ⟨2, 2, b_cp I J⟩
  endsOf : fns[J.endsOf]? = some ⟨1, 7, b_endsOf I J⟩
  cps : fns[J.cps]? = some ⟨2, 3, b_cps I J⟩
  right : fns[J.right]? = some ⟨1, 1, b_right I J⟩
  rotors : fns[J.rotors]? = some ⟨2, 4, b_rotors I J⟩
  other : fns[J.other]? = some ⟨3, 6, b_other I J⟩
  lead : fns[J.lead]? = some ⟨4, 8, b_lead I J⟩
  lplain : fns[J.lplain]? = some ⟨3, 10, b_lplain I J⟩
  lends : fns[J.lends]? = some ⟨1, 3, b_lends I J⟩
  lgo : fns[J.lgo]? = some ⟨3, 3, b_lgo I J⟩
  llead : fns[J.llead]? = some ⟨4, 8, b_llead I J⟩
  lrotors : fns[J.lrotors]? = some ⟨2, 3, b_lrotors I J⟩
  gOne : G[J.gOne]? = some (.tup [.int 1, .int 1])
end RT
/-! rows of the ties at each point, in both texts; the other end -/
namespace RT
open MP DR Chip CB WK
section
variable {fns : List Fn} {G : List D} {I : Ix} {J : Rx} {W k : Nat} {h : Heap} {n : Nat} {ts : Ties}
def enBody : S := (.cons (.exp (.mth .append (.idx (.var 1) (.var 4)) (.cons (.var 2) .nil)))
 (.cons (.exp (.mth .append (.idx (.var 1) (.var 5)) (.cons (.var 2) .nil)))
 .nil))
theorem en1 (p : Nat × Nat) (hp : p.1 ≠ p.2) (s : Nat) (r : Nat → List Nat) : (fun z => if z = p.2 then (fun z => if z = p.1 then r p.1 ++ [s] else r z) p.2 ++ [s] else (fun z => if z = p.1 then r p.1 ++ [s] else r z) z) = fun z => r z ++ en s [p] z := by
  funext z
  show _ = r z ++ ((if p.1 = z ∨ p.2 = z then [s] else []) ++ [])
  rw [List.append_nil]
  dsimp only
  by_cases a : z = p.2
  · rw [if_pos a, if_neg (Ne.symm hp), if_pos (.inr a.symm), a]
  · rw [if_neg a]
    by_cases b : z = p.1
    · rw [if_pos b, if_pos (.inl b.symm), b]
    · rw [if_neg b, if_neg (by omega), List.append_nil]
theorem en_for {Φ : Nat → List D → Heap → R D} {d0 d3 : D} : ∀ (ts : Ties) (s : Nat), (∀ p ∈ ts, p.1 < n ∧ p.2 < n ∧ p.1 ≠ p.2) → ∀ {r : Nat → List Nat} (lim : ∀ x, (r x).length + ts.length ≤ 100) {d2 d4 d5 d6 : D}, ∃ e2 e4 e5 e6,
    forL (fun x env h => R.opt h (bindT (.tup (.cons (.var 2) (.cons (.tup (.cons (.var 4) (.cons (.var 5) (.cons (.var 6) .nil)))) .nil))) x env)) (fun env h => eS Φ G W enBody env h) [] (enumD s (ts.map tieD)) [d0, gR h.length n, d2, d3, d4, d5, d6] (h ++ rowsO n r) = .ok (.nxt [d0, gR h.length n, e2, d3, e4, e5, e6]) (h ++ rowsO n fun x => r x ++ en s ts x)
  | [], s, _, r, lim, d2, d4, d5, d6 => ⟨d2, d4, d5, d6, by
      have : (fun x => r x ++ en s [] x) = r := by funext x; exact List.append_nil _
      rw [this]
      exact for0⟩
  | p :: ts, s, q, r, lim, d2, d4, d5, d6 => by
    obtain ⟨h1, h2, h3⟩ := q p (by simp)
    have lim' : ∀ x, (r x ++ en s [p] x).length + ts.length ≤ 100 := fun x => by
      have a := lim x
      have b := en_len x [p] s
      rw [List.length_append]
      rw [List.length_cons] at a
      have : [p].length = 1 := rfl
      omega
    obtain ⟨e2, e4, e5, e6, e⟩ := en_for (Φ := Φ) (d0 := d0) (d3 := d3) ts (s + 1) (fun p hp => q p (by simp [hp])) (r := fun x => r x ++ en s [p] x) lim' (d2 := .int (s : Int)) (d4 := .int (p.1 : Int)) (d5 := .int (p.2 : Int)) (d6 := oneD)
    refine ⟨e2, e4, e5, e6, ?_⟩
    have step : eS Φ G W enBody [d0, gR h.length n, .int (s : Int), d3, .int (p.1 : Int), .int (p.2 : Int), oneD] (h ++ rowsO n r) = .ok (.nxt [d0, gR h.length n, .int (s : Int), d3, .int (p.1 : Int), .int (p.2 : Int), oneD]) (h ++ rowsO n fun x => r x ++ en s [p] x) := by
      unfold enBody
      have a1 : (h ++ rowsO n r)[h.length + p.1]? = some (Ob.lst (intsD (r p.1))) := by simpa using rows_at (h := h) [] r h1
      have s1 : (h ++ rowsO n r).set (h.length + p.1) (Ob.lst (intsD (r p.1 ++ [s]))) = h ++ rowsO n (fun z => if z = p.1 then r p.1 ++ [s] else r z) := by simpa using rows_set (h := h) [] r h1 (r p.1 ++ [s])
      have a2 : (h ++ rowsO n (fun z => if z = p.1 then r p.1 ++ [s] else r z))[h.length + p.2]? = some (Ob.lst (intsD ((fun z => if z = p.1 then r p.1 ++ [s] else r z) p.2))) := by simpa using rows_at (h := h) [] (fun z => if z = p.1 then r p.1 ++ [s] else r z) h2
      have s2 := rows_set (h := h) [] (fun z => if z = p.1 then r p.1 ++ [s] else r z) h2 ((fun z => if z = p.1 then r p.1 ++ [s] else r z) p.2 ++ [s])
      rw [List.append_nil, List.append_nil, en1 p h3 s r] at s2
      refine (expc (d := .non) (h1 := h ++ rowsO n (fun z => if z = p.1 then r p.1 ++ [s] else r z)) (mthc (idxc rfl rfl (gR_at h.length h1 _)) (isL1 a1) (ar1 rfl) ?_)).trans ?_
      · have l1 := lim p.1
        rw [app1 a1 (by rw [ints_len]; exact Nat.lt_of_le_of_lt (by omega : (r p.1).length ≤ 100) (by decide)), ints_snoc, s1]
      · refine (expc (d := .non) (h1 := h ++ rowsO n fun x => r x ++ en s [p] x) (mthc (idxc rfl rfl (gR_at h.length h2 _)) (isL1 a2) (ar1 rfl) ?_)).trans rfl
        have l2 := lim p.2
        rw [app1 a2 (by
          rw [ints_len]
          have : (if p.2 = p.1 then r p.1 ++ [s] else r p.2).length ≤ 100 := by rw [if_neg (Ne.symm h3)]; omega
          exact Nat.lt_of_le_of_lt this (by decide)), ints_snoc, s2]
    rw [List.map_cons]
    show forL _ _ [] (.tup [.int (s : Int), tieD p] :: enumD (s + 1) (ts.map tieD)) _ _ = _
    rw [for1 (env1 := [d0, gR h.length n, .int (s : Int), d3, .int (p.1 : Int), .int (p.2 : Int), oneD]) (by rfl) step, e]
    have : (fun x => (fun x => r x ++ en s [p] x) x ++ en (s + 1) ts x) = fun x => r x ++ en s (p :: ts) x := by
      funext x
      show r x ++ ((if p.1 = x ∨ p.2 = x then [s] else []) ++ []) ++ en (s + 1) ts x = r x ++ ((if p.1 = x ∨ p.2 = x then [s] else []) ++ en (s + 1) ts x)
      rw [List.append_nil, List.append_assoc]
    rw [this]
theorem ends_in (L : RL fns G I J) (F : Fit n ts) : callF fns G W (k + 1) J.endsOf [netD n ts] h = .ok (gR h.length n) (h ++ rowsO n (ends ts)) := by
  obtain ⟨e2, e4, e5, e6, e⟩ := en_for (Φ := callF fns G W k) (G := G) (W := W) (h := h) (d0 := netD n ts) (d3 := .und) ts 0 F.inn (r := fun _ => []) (fun x => by have := F.t30; simp; omega) (d2 := .und) (d4 := .und) (d5 := .und) (d6 := .und)
  rw [call_eq L.endsOf rfl]
  show MP.back h.length (eS (callF fns G W k) G W (b_endsOf I J) [netD n ts, .und, .und, .und, .und, .und, .und] h) = _
  have e0 : rowsO n (fun _ => []) = List.replicate n (Ob.lst []) := by
    apply List.ext_getElem?
    intro i
    unfold rowsO
    rw [List.getElem?_map]
    by_cases hi : i < n
    · rw [List.getElem?_range hi, List.getElem?_replicate, if_pos hi]; rfl
    · rw [List.getElem?_eq_none (by rw [List.length_range]; omega), List.getElem?_replicate, if_neg hi]; rfl
  have eb : eS (callF fns G W k) G W (b_endsOf I J) [netD n ts, .und, .und, .und, .und, .und, .und] h = .ok (.ret (gR h.length n)) (h ++ rowsO n (ends ts)) := by
    refine (nxtc (s := .asg (.var 1) (.lc true (.var 3) .rng (.cons (.idx (.var 0) (.con (.int 0))) .nil) (.con (.bl true)) (.lst false .nil))) (h1 := h ++ rowsO n (fun _ => [])) (env' := [netD n ts, gR h.length n, .und, .und, .und, .und, .und]) ?_).trans ?_
    · rw [eS_asg, eE_lc]
      show R.bind (R.bind (R.ok (D.tup [.int (n : Int)]) h) _) _ = _
      rw [bind_ok]
      have it : iterOf .rng (args (.tup [D.int (n : Int)])) h = _ := rng0 (Nat.le_trans F.n12 (by decide)) h
      rw [it]
      show R.bind (R.bind (compL (turnL (callF fns G W k) G (.var 3) (.con (.bl true)) (.lst false .nil) [netD n ts, .und, .und, .und, .und, .und, .und]) [] ((List.range n).map fun (x : Nat) => D.int (x : Int)) h) _) _ = _
      rw [List.range_eq_range', news (by decide : 3 < 7) n 0 h, bind_ok, e0]
      unfold newL
      rw [if_pos (by rw [List.length_map, List.length_range]; exact Nat.le_trans F.n12 (by decide)), if_pos rfl]
      rfl
    · refine (nxtc (s := .for (.tup (.cons (.var 2) (.cons (.tup (.cons (.var 4) (.cons (.var 5) (.cons (.var 6) .nil)))) .nil))) .enum (.cons (.idx (.var 0) (.con (.int 1))) .nil) enBody) (h1 := h ++ rowsO n fun x => [] ++ en 0 ts x) (env' := [netD n ts, gR h.length n, e2, .und, e4, e5, e6]) ((forc (ds := [.tup (ts.map tieD)]) (xs := enumD 0 (ts.map tieD)) (h1 := h ++ rowsO n (fun _ => [])) rfl rfl).trans e)).trans ?_
      exact retc rfl
  rw [eb]
  show (if ((gR h.length n).low h.length && ((h ++ rowsO n (ends ts)).take h.length).all (Ob.low h.length)) = true then _ else _) = _
  have low : (gR h.length n).low h.length = false := by
    obtain ⟨m, rfl⟩ : ∃ m, n = m + 1 := ⟨n - 1, by have := F.two; omega⟩
    unfold gR
    rw [List.range_succ_eq_map, List.map_cons, D.low, D.lows, D.low]
    simp
  rw [low]
  rfl
theorem tie_at {i : Nat} (hi : i < ts.length) (hh : Heap) : opI (.tup (ts.map tieD)) (.int (i : Int)) hh = some (tieD (ts.getD i (0, 0))) := by
  show atI _ _ = _
  unfold atI ixN
  rw [List.length_map, if_pos (by omega), if_pos (by omega)]
  show (ts.map tieD)[(i : Int).toNat]? = _
  rw [Int.toNat_natCast, List.getElem?_map, List.getElem?_eq_getElem hi, List.getD, List.getElem?_eq_getElem hi]
  rfl
theorem fm_en (x : Nat) : ∀ (ts pre : Ties), ((List.range' pre.length ts.length).filterMap fun i => if ((pre ++ ts).getD i (0, 0)).1 = x ∨ ((pre ++ ts).getD i (0, 0)).2 = x then some (D.int (i : Int)) else none) = intsD (en pre.length ts x)
  | [], pre => rfl
  | p :: ts, pre => by
    rw [List.length_cons, List.range'_succ, List.filterMap_cons]
    have ih := fm_en x ts (pre ++ [p])
    rw [List.length_append, List.append_assoc] at ih
    have ih : ((List.range' (pre.length + 1) ts.length).filterMap fun i => if ((pre ++ (p :: ts)).getD i (0, 0)).1 = x ∨ ((pre ++ (p :: ts)).getD i (0, 0)).2 = x then some (D.int (i : Int)) else none) = intsD (en (pre.length + 1) ts x) := ih
    rw [ih]
    have e : (pre ++ (p :: ts)).getD pre.length (0, 0) = p := by
      rw [List.getD, List.getElem?_append_right (Nat.le_refl _), Nat.sub_self]; rfl
    rw [e, en]
    unfold intsD
    rw [List.map_append]
    by_cases a : p.1 = x ∨ p.2 = x
    · rw [if_pos a, if_pos a]; rfl
    · rw [if_neg a, if_neg a]; rfl
theorem isin_two (a b x : Nat) (hh : Heap) : opC .isin (.int (x : Int)) (.tup [.int (a : Int), .int (b : Int)]) hh = some (decide (a = x) || decide (b = x)) := by
  show some (((a : Int) == (x : Int)) || (((b : Int) == (x : Int)) || false)) = _
  have e : ∀ a b : Nat, ((a : Int) == (b : Int)) = decide (a = b) := fun a b => by
    by_cases q : a = b
    · subst q; simp
    · rw [decide_eq_false q, beq_eq_false_iff_ne.mpr (by omega)]
  rw [e, e, Bool.or_false]
theorem lends_in (L : RL fns G I J) (F : Fit n ts) : callF fns G W (k + 1) J.lends [netD n ts] h = .ok (rowsL n (ends ts)) h := by
  refine fnc L.lends rfl (retc ?_)
  refine lcmap (L := List.range n) (f := fun (x : Nat) => .int (x : Int)) (g := fun x => .lst (intsD (ends ts x))) (ds := [.int (n : Int)]) rfl (rng0 (Nat.le_trans F.n12 (by decide)) h) (fun x hx => ?_) (by rw [List.length_range]; exact Nat.le_trans F.n12 (by decide))
  refine turnT (env' := [netD n ts, .int (x : Int), .und]) rfl ?_
  have fe := fm_en x ts []
  rw [List.length_nil, ← List.range_eq_range', List.nil_append] at fe
  have fe : ((List.range ts.length).filterMap fun i => if (ts.getD i (0, 0)).1 = x ∨ (ts.getD i (0, 0)).2 = x then some (D.int (i : Int)) else none) = intsD (ends ts x) := fe
  rw [← fe]
  have t30 := F.t30
  refine lcfm (L := List.range ts.length) (f := fun (i : Nat) => .int (i : Int)) (ds := [.int (ts.length : Nat)]) (ar1 (bltc (ds := [.tup (ts.map tieD)]) (h1 := h) (ar1 (idxc (x := netD n ts) (y := .int 1) (h1 := h) (h2 := h) rfl rfl rfl)) ?_)) (rng0 (by omega) h) (fun i hi => ?_) (by rw [List.length_range]; exact Nat.le_trans t30 (by decide))
  · show R.ok (D.int ((ts.map tieD).length : Nat)) h = _
    rw [List.length_map]
  · have hi := List.mem_range.mp hi
    have ec : ∀ b : Bool, (decide ((ts.getD i (0, 0)).1 = x) || decide ((ts.getD i (0, 0)).2 = x)) = b → eE (callF fns G W k) G (.cmp .isin (.var 1) (.slc true (.idx (.idx (.var 0) (.con (.int 1))) (.var 2)) (.con .und) (.con (.int 2)))) [netD n ts, .int (x : Int), .int (i : Int)] h = .ok (.bl b) h := fun b hb => by
      refine cmpc (x := .int (x : Int)) (y := .tup [.int ((ts.getD i (0, 0)).1 : Int), .int ((ts.getD i (0, 0)).2 : Int)]) (h1 := h) (h2 := h) rfl ?_ ((isin_two _ _ _ _).trans (by rw [hb]))
      have ei : eE (callF fns G W k) G (.idx (.idx (.var 0) (.con (.int 1))) (.var 2)) [netD n ts, .int (x : Int), .int (i : Int)] h = .ok (tieD (ts.getD i (0, 0))) h := idxc (x := .tup (ts.map tieD)) (y := .int (i : Int)) (h1 := h) (h2 := h) (idxc (x := netD n ts) (y := .int 1) (h1 := h) (h2 := h) rfl rfl rfl) rfl (tie_at hi h)
      rw [eE_slc, ei, bind_ok]
      rfl
    by_cases a : (ts.getD i (0, 0)).1 = x ∨ (ts.getD i (0, 0)).2 = x
    · rw [if_pos a]
      exact turnC (env' := [netD n ts, .int (x : Int), .int (i : Int)]) rfl (ec true (by rw [Bool.or_eq_true, decide_eq_true_eq, decide_eq_true_eq]; exact a)) rfl
    · rw [if_neg a]
      exact turnF (env' := [netD n ts, .int (x : Int), .int (i : Int)]) rfl (ec false (by rw [Bool.or_eq_false_iff, decide_eq_false_iff_not, decide_eq_false_iff_not]; exact ⟨fun e => a (.inl e), fun e => a (.inr e)⟩))
theorem eq_int (a b : Nat) (hh : Heap) : opC .eq (.int (a : Int)) (.int (b : Int)) hh = some (decide (a = b)) := by
  rw [eq1]
  by_cases q : a = b
  · subst q; simp
  · rw [decide_eq_false q, beq_eq_false_iff_ne.mpr (by omega)]
theorem lgo_in (L : RL fns G I J) {i x : Nat} (hi : i < ts.length) : callF fns G W (k + 1) J.lgo [netD n ts, .int (i : Int), .int (x : Int)] h = .ok (.int ((oth ts i x : Nat) : Int)) h := by
  refine fnc L.lgo rfl (retc ?_)
  have ei : eE (callF fns G W k) G (.idx (.idx (.var 0) (.con (.int 1))) (.var 1)) [netD n ts, .int (i : Int), .int (x : Int)] h = .ok (tieD (ts.getD i (0, 0))) h := idxc (x := .tup (ts.map tieD)) (y := .int (i : Int)) (h1 := h) (h2 := h) (idxc (x := netD n ts) (y := .int 1) (h1 := h) (h2 := h) rfl rfl rfl) rfl (tie_at hi h)
  unfold oth
  dsimp only
  by_cases a : (ts.getD i (0, 0)).1 = x
  · rw [if_pos a]
    exact iteEt (h1 := h) (cmpc (h1 := h) (h2 := h) (idxc (h1 := h) (h2 := h) (z := .int ((ts.getD i (0, 0)).1 : Int)) ei rfl rfl) rfl ((eq_int _ _ _).trans (by rw [decide_eq_true a]))) (idxc (h1 := h) (h2 := h) ei rfl rfl)
  · rw [if_neg a]
    exact iteEf (h1 := h) (cmpc (h1 := h) (h2 := h) (idxc (h1 := h) (h2 := h) (z := .int ((ts.getD i (0, 0)).1 : Int)) ei rfl rfl) rfl ((eq_int _ _ _).trans (by rw [decide_eq_false a]))) (idxc (h1 := h) (h2 := h) ei rfl rfl)
theorem other_in (L : RL fns G I J) {i x : Nat} (hi : i < ts.length) : callF fns G W (k + 1) J.other [netD n ts, .int (i : Int), .int (x : Int)] h = .ok (.int ((oth ts i x : Nat) : Int)) h := by
  refine fnc L.other rfl ?_
  have ei : eE (callF fns G W k) G (.idx (.idx (.var 0) (.con (.int 1))) (.var 1)) [netD n ts, .int (i : Int), .int (x : Int), .und, .und, .und] h = .ok (tieD (ts.getD i (0, 0))) h := idxc (x := .tup (ts.map tieD)) (y := .int (i : Int)) (h1 := h) (h2 := h) (idxc (x := netD n ts) (y := .int 1) (h1 := h) (h2 := h) rfl rfl rfl) rfl (tie_at hi h)
  refine (asgc (d := tieD (ts.getD i (0, 0))) (h1 := h) (env' := [netD n ts, .int (i : Int), .int (x : Int), .int ((ts.getD i (0, 0)).1 : Int), .int ((ts.getD i (0, 0)).2 : Int), oneD]) ei rfl).trans (retc ?_)
  unfold oth
  dsimp only
  by_cases a : (ts.getD i (0, 0)).1 = x
  · rw [if_pos a]
    exact iteEt (h1 := h) (cmpc (h1 := h) (h2 := h) rfl rfl ((eq_int _ _ _).trans (by rw [decide_eq_true a.symm]))) rfl
  · rw [if_neg a]
    exact iteEf (h1 := h) (cmpc (h1 := h) (h2 := h) rfl rfl ((eq_int _ _ _).trans (by rw [decide_eq_false (Ne.symm a)]))) rfl
end
end RT
/-! leading, in both texts -/
namespace RT
open MP DR Chip CB WK
section
variable {fns : List Fn} {G : List D} {I : Ix} {J : Rx} {W k : Nat} {h B : Heap} {n : Nat} {ts : Ties} {r v : Nat → Nat} {start goal x : Nat}
def vi (v : Nat → Nat) : Nat → Int := fun y => ((v y : Nat) : Int)
/-- where the rotors stand -/
def nw (ts : Ties) (r v : Nat → Nat) : Nat → Int := fun y => (((r y + v y) % (ends ts y).length : Nat) : Int)
theorem vi_bump (v : Nat → Nat) (x : Nat) : up1 (vi v) x (vi v x + 1) = vi (bump v x) := by
  funext z
  unfold up1 vi bump
  split
  · rename_i e; rw [← e]; rfl
  · rfl
theorem nw_bump (v : Nat → Nat) (x : Nat) : up1 (nw ts r v) x (((r x + (v x + 1)) % (ends ts x).length : Nat) : Int) = nw ts r (bump v x) := by
  funext z
  unfold up1 nw bump
  split
  · rename_i e
    subst e
    rfl
  · rfl
/-- the visits -/
def run (ts : Ties) (r : Nat → Nat) (goal : Nat) : Nat → (Nat → Nat) → Nat → (Nat → Nat)
  | 0, v, _ => v
  | m + 1, v, x => if x = goal then v else run ts r goal m (bump v x) (exi ts r x (v x + 1))
abbrev MOST : Nat := 8400000000000000000
theorem smN_most {L : Nat → Nat} {T : Nat} (F : Fit n ts) (n7 : n ≤ 7) (hg : goal < n) (R : Rot n ts r start goal v x L T) : smN n v ≤ MOST := by
  have := smN_le (v := v) (B := 1200000000000000000) (m := n) fun y hy => R.most F.toGood F.t30 hg n7 hy
  have : n * 1200000000000000000 ≤ 7 * 1200000000000000000 := Nat.mul_le_mul_right _ n7
  show _ ≤ 8400000000000000000
  omega
theorem run_loop (F : Fit n ts) (n7 : n ≤ 7) (hg : goal < n) {c : Env → Heap → R Bool} {b : Env → Heap → R Fl} {EV : Nat → Env}
    (hc : ∀ v x, x < n → c (EV x) (H2 B n (nw ts r v) (vi v)) = .ok (decide (x ≠ goal)) (H2 B n (nw ts r v) (vi v)))
    (hb : ∀ v x, x < n → b (EV x) (H2 B n (nw ts r v) (vi v)) = .ok (.nxt (EV (exi ts r x (v x + 1)))) (H2 B n (nw ts r (bump v x)) (vi (bump v x)))) : ∀ (m : Nat) {v : Nat → Nat} {x : Nat} {L : Nat → Nat} {T : Nat}, Rot n ts r start goal v x L T → MOST + 1 ≤ m + smN n v →
    (∃ L' T', Rot n ts r start goal (run ts r goal m v x) goal L' T') ∧ loop c b m (EV x) (H2 B n (nw ts r v) (vi v)) = .ok (.nxt (EV goal)) (H2 B n (nw ts r (run ts r goal m v x)) (vi (run ts r goal m v x)))
  | 0, v, x, L, T, R, hm => by
    have := smN_most F n7 hg R
    omega
  | m + 1, v, x, L, T, R, hm => by
    by_cases z : x = goal
    · subst z
      rw [run, if_pos rfl]
      exact ⟨⟨L, T, R⟩, loop_out ((hc v x R.cur).trans (by rw [decide_eq_false (fun w => w rfl)]))⟩
    · rw [run, if_neg z]
      have e1 := (hc v x R.cur).trans (by rw [decide_eq_true z])
      rw [loop_go e1 (hb v x R.cur)]
      exact run_loop F n7 hg hc hb m (R.turn F.toGood z) (by rw [smN_bump R.cur]; omega)
/-- rows, as a walk meets them -/
def Dr (ts : Ties) (n : Nat) (de : D) (H : Heap) : Prop := ∀ x, x < n → ∃ d, opI de (.int (x : Int)) H = some d ∧ opF .len [d] H = .ok (.int ((ends ts x).length : Nat)) H ∧ ∀ i, i < (ends ts x).length → opI d (.int (i : Int)) H = some (.int (((ends ts x).getD i 0 : Nat) : Int))
theorem dr_ref {b : Nat} {H : Heap} (R : Rw H b n (ends ts)) : Dr ts n (gR b n) H := fun x hx => ⟨_, gR_at b hx H, R.len hx, fun i hi => R.at hx hi⟩
theorem dr_lst {H : Heap} : Dr ts n (rowsL n (ends ts)) H := fun x hx => ⟨_, rowsL_at _ hx H, by
  show R.ok (D.int ((intsD (ends ts x)).length : Nat)) H = _
  rw [ints_len], fun i hi => lst_at _ hi H⟩
theorem end_lt (hx : x < n) {i : Nat} (hi : i < (ends ts x).length) : (ends ts x).getD i 0 < ts.length := by
  have e : (ends ts x).getD i 0 = (ends ts x)[i] := by rw [List.getD, List.getElem?_eq_getElem hi]; rfl
  rw [e]
  have := (en_mem (List.getElem_mem hi)).2.1
  omega
/-- the new place of a rotor -/
theorem turned {Φ : Nat → List D → Heap → R D} {de : D} {env : Env} {H : Heap} {p : Nat} {a : Nat} (F : Fit n ts) (hx : x < n) (D : Dr ts n de H) (v4 : eE Φ G (.var 4) env H = .ok de H) (v5 : eE Φ G (.var 5) env H = .ok (.ref p) H) (v7 : eE Φ G (.var 7) env H = .ok (.int (x : Int)) H) {f : Nat → Int} (hp : H[p]? = some (Ob.lst (rw_ n f))) (hf : f x = ((a % (ends ts x).length : Nat) : Int)) :
    eE Φ G (.bin .mod (.bin (.add true) (.idx (.var 5) (.var 7)) (.con (.int 1))) (.blt .len (.cons (.idx (.var 4) (.var 7)) .nil))) env H = .ok (.int (((a + 1) % (ends ts x).length : Nat) : Int)) H := by
  obtain ⟨d, e1, e2, e3⟩ := D x hx
  have dp := ends_pos F.toGood hx
  refine binc (x := .int ((a % (ends ts x).length + 1 : Nat) : Int)) (y := .int ((ends ts x).length : Nat)) (h1 := H) (h2 := H) (binc (x := .int (f x)) (y := .int 1) (h1 := H) (h2 := H) (idxc v5 v7 (ref_at hp hx)) rfl ?_) (bltc (ar1 (idxc v4 v7 e1)) e2) ?_
  · rw [hf]; rfl
  · rw [mod_in dp, Nat.mod_add_mod]
theorem aft_asg (v : Nat → Nat) (x : Nat) : nw ts r (bump v x) x = (((r x + (v x + 1)) % (ends ts x).length : Nat) : Int) := by
  unfold nw bump
  rw [if_pos rfl]
def ldB (J : Rx) : S := (.cons (.asg (.idx (.var 5) (.var 7)) (.bin .mod (.bin (.add true) (.idx (.var 5) (.var 7)) (.con (.int 1))) (.blt .len (.cons (.idx (.var 4) (.var 7)) .nil))))
 (.cons (.aug (.add true) (.idx (.var 6) (.var 7)) (.con (.int 1)))
 (.cons (.asg (.var 7) (.call J.other (.cons (.var 0) (.cons (.idx (.idx (.var 4) (.var 7)) (.idx (.var 5) (.var 7))) (.cons (.var 7) .nil)))))
 .nil)))
def llB (J : Rx) : S := (.cons (.asg (.idx (.var 5) (.var 7)) (.bin .mod (.bin (.add true) (.idx (.var 5) (.var 7)) (.con (.int 1))) (.blt .len (.cons (.idx (.var 4) (.var 7)) .nil))))
 (.cons (.asg (.idx (.var 6) (.var 7)) (.bin (.add true) (.idx (.var 6) (.var 7)) (.con (.int 1))))
 (.cons (.asg (.var 7) (.call J.lgo (.cons (.var 0) (.cons (.idx (.idx (.var 4) (.var 7)) (.idx (.var 5) (.var 7))) (.cons (.var 7) .nil)))))
 .nil)))
abbrev EL (n : Nat) (ts : Ties) (r : Nat → Nat) (start goal : Nat) (de : D) (p x : Nat) : Env := [netD n ts, tupD n (vi r), .int (start : Int), .int (goal : Int), de, .ref p, .ref (p + 1), .int (x : Int)]
theorem one_turn (F : Fit n ts) (hx : x < n) {de : D} (hD : ∀ a b, Dr ts n de (H2 B n a b)) {Φ : Nat → List D → Heap → R D} (v4 : ∀ H, eE Φ G (.var 4) (EL n ts r start goal de B.length x) H = .ok de H) {f : Nat} {S2 : S} {R2 : S}
    (two : ∀ {a b : Nat → Int}, eS Φ G W (.cons S2 R2) (EL n ts r start goal de B.length x) (H2 B n a b) = eS Φ G W R2 (EL n ts r start goal de B.length x) (H2 B n a (up1 b x (b x + 1))))
    (hf : ∀ {i : Nat} {H : Heap}, i < ts.length → Φ f [netD n ts, .int (i : Int), .int (x : Int)] H = .ok (.int ((oth ts i x : Nat) : Int)) H)
    (hR : R2 = (.cons (.asg (.var 7) (.call f (.cons (.var 0) (.cons (.idx (.idx (.var 4) (.var 7)) (.idx (.var 5) (.var 7))) (.cons (.var 7) .nil))))) .nil)) :
    eS Φ G W (.cons (.asg (.idx (.var 5) (.var 7)) (.bin .mod (.bin (.add true) (.idx (.var 5) (.var 7)) (.con (.int 1))) (.blt .len (.cons (.idx (.var 4) (.var 7)) .nil)))) (.cons S2 R2)) (EL n ts r start goal de B.length x) (H2 B n (nw ts r v) (vi v)) = .ok (.nxt (EL n ts r start goal de B.length (exi ts r x (v x + 1)))) (H2 B n (nw ts r (bump v x)) (vi (bump v x))) := by
  have dp := ends_pos F.toGood hx
  refine (asgI (m := B.length) (x := (x : Int)) (v := (((r x + v x + 1) % (ends ts x).length : Nat) : Int)) (h' := H2 B n (nw ts r (bump v x)) (vi v)) (turned F hx (hD _ _) (v4 _) rfl rfl H2_0 rfl) rfl rfl ?_).trans ?_
  · rw [ref_put H2_0 hx, H2_s0, ← nw_bump]
    rfl
  · rw [two, vi_bump, hR]
    obtain ⟨d, e1, e2, e3⟩ := hD (nw ts r (bump v x)) (vi (bump v x)) x hx
    have hm : (r x + (v x + 1)) % (ends ts x).length < (ends ts x).length := Nat.mod_lt _ (by omega)
    refine (asgc (d := .int ((exi ts r x (v x + 1) : Nat) : Int)) (h1 := H2 B n (nw ts r (bump v x)) (vi (bump v x))) (env' := EL n ts r start goal de B.length (exi ts r x (v x + 1))) (callc (ds := [netD n ts, .int (((ends ts x).getD ((r x + (v x + 1)) % (ends ts x).length) 0 : Nat) : Int), .int (x : Int)]) (h1 := H2 B n (nw ts r (bump v x)) (vi (bump v x))) ?_ (hf (end_lt hx hm))) rfl).trans rfl
    refine arc (h1 := H2 B n (nw ts r (bump v x)) (vi (bump v x))) rfl (arc (h1 := H2 B n (nw ts r (bump v x)) (vi (bump v x))) (idxc (h1 := H2 B n (nw ts r (bump v x)) (vi (bump v x))) (h2 := H2 B n (nw ts r (bump v x)) (vi (bump v x))) (idxc (h1 := H2 B n (nw ts r (bump v x)) (vi (bump v x))) (h2 := H2 B n (nw ts r (bump v x)) (vi (bump v x))) (v4 _) rfl e1) (idxc (h1 := H2 B n (nw ts r (bump v x)) (vi (bump v x))) (h2 := H2 B n (nw ts r (bump v x)) (vi (bump v x))) rfl rfl (ref_at H2_0 hx)) ?_) (ar1 rfl))
    rw [aft_asg]
    exact e3 _ hm
/-- what leading tells -/
def ledD (W n : Nat) (ts : Ties) (r : Nat → Nat) (start goal : Nat) : D := .tup [tupD n (nw ts r (run ts r goal W (fun _ => 0) start)), tupD n (vi (run ts r goal W (fun _ => 0) start))]
theorem led_low (m : Nat) : (ledD W n ts r start goal).low m = true := by
  show (D.low m (tupD n _) && (D.low m (tupD n _) && true)) = true
  rw [tup_low, tup_low]; rfl
theorem nw0 (hr : ∀ y, y < n → r y < (ends ts y).length) : rw_ n (nw ts r fun _ => 0) = rw_ n (vi r) := rw_on fun y hy => by
  show (((r y + 0) % (ends ts y).length : Nat) : Int) = ((r y : Nat) : Int)
  rw [Nat.add_zero, Nat.mod_eq_of_lt (hr y hy)]
theorem ne_nat (a b : Nat) (hh : Heap) : opC .ne (.int (a : Int)) (.int (b : Int)) hh = some (decide (a ≠ b)) := by
  rw [ne_in]
  by_cases q : a = b
  · subst q
    rw [beq_self_eq_true, decide_eq_false (fun w => w rfl)]; rfl
  · rw [decide_eq_true q, beq_eq_false_iff_ne.mpr (by omega)]; rfl
theorem ledB (F : Fit n ts) (n7 : n ≤ 7) (hs : start < n) (hg : goal < n) (hr : ∀ y, y < n → r y < (ends ts y).length) (hW : MOST + 1 ≤ W) {de : D} (hD : ∀ a b, Dr ts n de (H2 B n a b)) {Φ : Nat → List D → Heap → R D} {f : Nat} {bd eds : _}
    (hb : ∀ v x, x < n → eS Φ G W bd (EL n ts r start goal de B.length x) (H2 B n (nw ts r v) (vi v)) = .ok (.nxt (EL n ts r start goal de B.length (exi ts r x (v x + 1)))) (H2 B n (nw ts r (bump v x)) (vi (bump v x))))
    (he : eE Φ G eds [netD n ts, tupD n (vi r), .int (start : Int), .int (goal : Int), .und, .und, .und, .und] h = .ok de B) :
    (∃ L T, Rot n ts r start goal (run ts r goal W (fun _ => 0) start) goal L T) ∧
    eS Φ G W (.cons (.asg (.tup (.cons (.var 4) (.cons (.var 5) (.cons (.var 6) (.cons (.var 7) .nil))))) (.tup (.cons eds (.cons (.blt (.list false) (.cons (.var 1) .nil)) (.cons (.bin (.mul false) (.lst true (.cons (.con (.int 0)) .nil)) (.idx (.var 0) (.con (.int 0)))) (.cons (.var 2) .nil))))))
 (.cons (.whl (.cmp .ne (.var 7) (.var 3)) bd)
 (.cons (.ret (.tup (.cons (.blt .tuple (.cons (.var 5) .nil)) (.cons (.blt .tuple (.cons (.var 6) .nil)) .nil))))
 .nil))) [netD n ts, tupD n (vi r), .int (start : Int), .int (goal : Int), .und, .und, .und, .und] h = .ok (.ret (ledD W n ts r start goal)) (H2 B n (nw ts r (run ts r goal W (fun _ => 0) start)) (vi (run ts r goal W (fun _ => 0) start))) := by
  have n12 := F.n12
  obtain ⟨rot, el⟩ := run_loop (B := B) F n7 hg (c := fun env h => (eE Φ G (.cmp .ne (.var 7) (.var 3)) env h).bind fun x h1 => tru x h1) (b := fun env h => eS Φ G W bd env h) (EV := EL n ts r start goal de B.length) (fun v x hx => cond (cmpc rfl rfl (ne_nat _ _ _))) hb W (Rot.begin (r := r) (goal := goal) (n := n) (ts := ts) hs) (by omega)
  refine ⟨rot, ?_⟩
  have e0 : H2 B n (nw ts r fun _ => 0) (vi fun _ => 0) = (B ++ [Ob.lst (rw_ n (vi r))]) ++ [Ob.lst (rw_ n fun _ => 0)] := by
    show B ++ [Ob.lst (rw_ n (nw ts r fun _ => 0)), Ob.lst (rw_ n (vi fun _ => 0))] = _
    rw [nw0 hr, List.append_assoc]
    rfl
  refine (asgc (d := .tup [de, .ref B.length, .ref (B.length + 1), .int (start : Int)]) (h1 := H2 B n (nw ts r fun _ => 0) (vi fun _ => 0)) (env' := EL n ts r start goal de B.length start) ?_ rfl).trans ?_
  · show eE _ _ (.cons _ (.cons _ (.cons _ (.cons _ .nil)))) _ _ = _
    refine arc (h1 := B) he (arc (d := .ref B.length) (h1 := B ++ [Ob.lst (rw_ n (vi r))]) (bltc (ds := [tupD n (vi r)]) (h1 := B) (ar1 rfl) ?_) (arc (d := .ref (B.length + 1)) (h1 := H2 B n (nw ts r fun _ => 0) (vi fun _ => 0)) ?_ (ar1 rfl)))
    · show newL false (rw_ n (vi r)) B = _
      unfold newL
      rw [if_pos (by rw [rw_len]; exact Nat.le_trans n12 (by decide)), if_neg (by decide)]
    · rw [e0]
      have z := zeros (Φ := Φ) (G := G) (e := .idx (.var 0) (.con (.int 0))) (env := [netD n ts, tupD n (vi r), .int (start : Int), .int (goal : Int), .und, .und, .und, .und]) (H := B ++ [Ob.lst (rw_ n (vi r))]) (n := n) (by omega) (idxc (x := netD n ts) (y := .int 0) (h1 := B ++ [Ob.lst (rw_ n (vi r))]) (h2 := B ++ [Ob.lst (rw_ n (vi r))]) rfl rfl rfl)
      rw [z, List.length_append]
      rfl
  refine (nxtc (s := .whl (.cmp .ne (.var 7) (.var 3)) bd) (h1 := _) (env' := EL n ts r start goal de B.length goal) (by rw [eS_whl]; exact el)).trans ?_
  refine retc ?_
  show eE _ _ (.cons _ (.cons _ .nil)) _ _ = _
  exact arc (h1 := _) (bltc (ar1 rfl) (items_at H2_0)) (ar1 (bltc (ar1 rfl) (items_at H2_1)))
theorem augN {Φ : Nat → List D → Heap → R D} {a b : E} {R2 : S} {env : Env} {p : Nat} {f : Nat → Int} (hx : x < n) (e1 : eE Φ G a env h = .ok (.ref p) h) (e2 : eE Φ G b env h = .ok (.int (x : Int)) h) (hp : h[p]? = some (Ob.lst (rw_ n f))) : eS Φ G W (.cons (.aug (.add true) (.idx a b) (.con (.int 1))) R2) env h = eS Φ G W R2 env (h.set p (Ob.lst (rw_ n (up1 f x (f x + 1))))) := by
  refine nxtc ?_
  rw [eS_augI, e1, bind_ok, e2, bind_ok, isL1 hp]
  show R.bind (R.opt h (opI (.ref p) (.int (x : Int)) h)) _ = _
  rw [ref_at hp hx, opt1, bind_ok]
  show R.bind (R.ok (D.int 1) h) _ = _
  rw [bind_ok]
  show R.bind (R.opt h (augI (.add true) (.int (f x)) (.int 1))) _ = _
  have : augI (.add true) (.int (f x)) (.int 1) = some (.int (f x + 1)) := rfl
  rw [this, opt1, bind_ok, ref_put hp hx, bind_ok]
theorem lead_in (L : RL fns G I J) (F : Fit n ts) (n7 : n ≤ 7) (hp : Pure h) (hs : start < n) (hg : goal < n) (hr : ∀ y, y < n → r y < (ends ts y).length) (hW : MOST + 1 ≤ W) :
    (∃ L T, Rot n ts r start goal (run ts r goal W (fun _ => 0) start) goal L T) ∧ callF fns G W (k + 2) J.lead [netD n ts, tupD n (vi r), .int (start : Int), .int (goal : Int)] h = .ok (ledD W n ts r start goal) h := by
  have RB : Rw (h ++ rowsO n (ends ts)) h.length n (ends ts) := by have := rw_rows h [] n (ends ts); rwa [List.append_nil] at this
  have hb : ∀ v x, x < n → eS (callF fns G W (k + 1)) G W (ldB J) (EL n ts r start goal (gR h.length n) (h ++ rowsO n (ends ts)).length x) (H2 (h ++ rowsO n (ends ts)) n (nw ts r v) (vi v)) = .ok (.nxt (EL n ts r start goal (gR h.length n) (h ++ rowsO n (ends ts)).length (exi ts r x (v x + 1)))) (H2 (h ++ rowsO n (ends ts)) n (nw ts r (bump v x)) (vi (bump v x))) := fun v x hx => by
    refine one_turn F hx (fun a b => dr_ref (RB.app _)) (fun _ => rfl) (f := J.other) ?_ (fun hi => other_in L hi) rfl
    intro a b
    rw [augN hx rfl rfl H2_1, H2_s1]
  obtain ⟨rot, e⟩ := ledB (G := G) (h := h) (B := h ++ rowsO n (ends ts)) (Φ := callF fns G W (k + 1)) (f := 0) (eds := .call J.endsOf (.cons (.var 0) .nil)) (bd := ldB J) F n7 hs hg hr hW (de := gR h.length n) (fun a b => dr_ref (RB.app _)) hb (callc (ar1 rfl) (ends_in L F))
  refine ⟨rot, ?_⟩
  rw [show H2 (h ++ rowsO n (ends ts)) n _ _ = _ from List.append_assoc _ _ _] at e
  exact fncT L.lead rfl e (led_low _) (hp.low _)
theorem llead_in (L : RL fns G I J) (F : Fit n ts) (n7 : n ≤ 7) (hp : Pure h) (hs : start < n) (hg : goal < n) (hr : ∀ y, y < n → r y < (ends ts y).length) (hW : MOST + 1 ≤ W) :
    callF fns G W (k + 2) J.llead [netD n ts, tupD n (vi r), .int (start : Int), .int (goal : Int)] h = .ok (ledD W n ts r start goal) h := by
  have hb : ∀ v x, x < n → eS (callF fns G W (k + 1)) G W (llB J) (EL n ts r start goal (rowsL n (ends ts)) h.length x) (H2 h n (nw ts r v) (vi v)) = .ok (.nxt (EL n ts r start goal (rowsL n (ends ts)) h.length (exi ts r x (v x + 1)))) (H2 h n (nw ts r (bump v x)) (vi (bump v x))) := fun v x hx => by
    refine one_turn F hx (fun a b => dr_lst) (fun _ => rfl) (f := J.lgo) ?_ (fun hi => lgo_in L hi) rfl
    intro a b
    refine asgI (m := h.length + 1) (x := (x : Int)) (v := b x + 1) (binc (idxc rfl rfl (ref_at H2_1 hx)) rfl rfl) rfl rfl ?_
    rw [ref_put H2_1 hx, H2_s1]
  obtain ⟨rot, e⟩ := ledB (G := G) (h := h) (B := h) (Φ := callF fns G W (k + 1)) (f := 0) (eds := .call J.lends (.cons (.var 0) .nil)) (bd := llB J) F n7 hs hg hr hW (de := rowsL n (ends ts)) (fun a b => dr_lst) hb (callc (ar1 rfl) (lends_in L F))
  exact fncT L.llead rfl e (led_low _) (hp.low _)
end
end RT
/-! what is checked; the drawn rotors; the drawn net -/
namespace RT
open MP DR Chip CB WK
section
variable {fns : List Fn} {G : List D} {I : Ix} {J : Rx} {W k : Nat} {h B : Heap} {n : Nat} {ts : Ties} {r v : Nat → Nat} {start goal x : Nat} {cells : List Int}
theorem cp_in (L : RL fns G I J) (hx : x < n) : callF fns G W (k + 3) J.cp [netD n ts, .int (x : Int)] h = .ok .non h := by
  refine fncN L.cp rfl (env := [netD n ts, .int (x : Int)]) ?_
  exact (itef (h1 := h) (ntc (k := true) (callc (arc (h1 := h) (idxc (x := netD n ts) (y := .int 0) (h1 := h) (h2 := h) rfl rfl rfl) (ar1 rfl)) (below_in L.toLibN (by omega) (by omega))))).trans rfl
theorem cp_for {Φ : Nat → List D → Heap → R D} {d1 : D} (hc : ∀ x, x < n → Φ J.cp [netD n ts, .int (x : Int)] h = .ok .non h) : ∀ (xs : List Nat), (∀ x ∈ xs, x < n) → ∀ {d2 : D}, ∃ e2,
    forL (fun x env h => R.opt h (bindT (.var 2) x env)) (fun env h => eS Φ G W (.cons (.exp (.call J.cp (.cons (.var 0) (.cons (.var 2) .nil)))) .nil) env h) [] (intsD xs) [netD n ts, d1, d2] h = .ok (.nxt [netD n ts, d1, e2]) h
  | [], _, d2 => ⟨d2, for0⟩
  | x :: xs, q, d2 => by
    obtain ⟨e2, e⟩ := cp_for (d1 := d1) hc xs (fun y hy => q y (by simp [hy])) (d2 := .int (x : Int))
    refine ⟨e2, ?_⟩
    show forL _ _ [] (D.int (x : Int) :: intsD xs) _ _ = _
    rw [for1 (env1 := [netD n ts, d1, .int (x : Int)]) (env2 := [netD n ts, d1, .int (x : Int)]) (h1 := h) (by rfl) ?_, e]
    exact (expc (d := .non) (h1 := h) (callc (arc (h1 := h) rfl (ar1 rfl)) (hc x (q x (by simp))))).trans rfl
theorem cps_in (L : RL fns G I J) (F : Fit n ts) {xs : List Nat} (q : ∀ x ∈ xs, x < n) : callF fns G (W + 2) (k + 6) J.cps [netD n ts, .tup (intsD xs)] h = .ok .non h := by
  obtain ⟨e2, e⟩ := cp_for (Φ := callF fns G (W + 2) (k + 5)) (G := G) (W := W + 2) (J := J) (h := h) (ts := ts) (d1 := .tup (intsD xs)) (fun x hx => cp_in (k := k + 2) L hx) xs q (d2 := .und)
  refine fncN L.cps rfl (env := [netD n ts, .tup (intsD xs), e2]) ?_
  refine (expc (d := .non) (h1 := h) (callc (ar1 rfl) (checkNet_in L.toLibN F))).trans ?_
  exact (nxtc (h1 := h) ((forc (ds := [.tup (intsD xs)]) (xs := intsD xs) (h1 := h) rfl rfl).trans e)).trans rfl
theorem isPlain_in (L : RL fns G I J) (F : Fit n ts) : callF fns G W (k + 1) J.isPlain [netD n ts] h = .ok (.bl true) h := by
  refine fnc L.isPlain rfl (retc ?_)
  refine bltc (ar1 (lcmap (L := ts) (f := tieD) (g := fun p => .bl ((fun _ => true) p)) (ds := [.tup (ts.map tieD)]) rfl rfl (fun p hp => ?_) (Nat.le_trans F.t30 (by decide)))) ((all_map (p := fun _ => true) ts h).trans (by rw [List.all_eq_true.mpr fun _ _ => rfl]))
  exact turnT (env' := [netD n ts, tieD p]) rfl (cmpc (x := oneD) (h1 := h) (idxc (h1 := h) (h2 := h) rfl rfl rfl) (gloc L.gOne) rfl)
theorem right_in (L : RL fns G I J) (F : Fit n ts) : callF fns G W (k + 3) J.right [netD n ts] h = .ok .non h := by
  refine fncN L.right rfl (env := [netD n ts]) ?_
  refine (itef (h1 := h) ?_).trans rfl
  refine or2f (cmpc (x := .int (n : Int)) (y := .int 2) (h1 := h) (h2 := h) (idxc (x := netD n ts) (y := .int 0) (h1 := h) (h2 := h) rfl rfl rfl) rfl (by rw [lt_in, decide_eq_false (by have := F.two; omega)])) (or2f (cmpc (x := .int 1) (y := .int 1) (h1 := h) (h2 := h) (bltc (ar1 (callc (ar1 rfl) (partsOf_in L.toLibN F))) rfl) rfl rfl) (onec (ntc (k := true) (callc (ar1 rfl) (isPlain_in L F)))))
theorem rotors_in (L : RL fns G I J) (F : Fit n ts) (hp : Pure h) (hr : ∀ y, y < n → r y < (ends ts y).length) : callF fns G W (k + 3) J.rotors [netD n ts, tupD n (vi r)] h = .ok .non h := by
  have n12 := F.n12
  have RB : Rw (h ++ rowsO n (ends ts)) h.length n (ends ts) := by have := rw_rows h [] n (ends ts); rwa [List.append_nil] at this
  refine fncNT L.rotors rfl (env := [netD n ts, tupD n (vi r), .und, .und]) (t := rowsO n (ends ts)) ?_ (hp.low _)
  refine (itef (h1 := h) (or2f (h1 := h) (ntc (k := true) rfl) (onec (cmpc (x := .int (n : Int)) (y := .int (n : Int)) (h1 := h) (h2 := h) (bltc (ar1 rfl) (len_tup (vi r))) (idxc (x := netD n ts) (y := .int 0) (h1 := h) (h2 := h) rfl rfl rfl) (by rw [ne_in, beq_self_eq_true]; rfl))))).trans ?_
  refine (itef (h1 := h ++ rowsO n (ends ts)) (ntc (k := true) ?_)).trans rfl
  refine bltc (ar1 (d := .lst ((List.range n).map fun x => .bl ((fun _ => true) x))) ((lcmapg (L := List.range n) (f := fun x => .tup [.int (vi r x), .ref (h.length + x)]) (g := fun x => .bl ((fun _ => true) x)) (gd := []) true (ds := [tupD n (vi r), gR h.length n]) (h1 := h ++ rowsO n (ends ts)) (arc (h1 := h) rfl (ar1 (callc (ar1 rfl) (ends_in L F)))) ?_ rfl (fun x hx => ?_)).trans (newT (by rw [List.length_map, List.length_range]; exact sz64 (by omega))))) ((all_map (p := fun _ => true) (List.range n) _).trans (by rw [List.all_eq_true.mpr fun _ _ => rfl]))
  · show some (zipD (rw_ n (vi r)) ((List.range n).map fun x => D.ref (h.length + x)), _) = _
    unfold rw_
    rw [zipD_map]
    rfl
  · have hx := List.mem_range.mp hx
    refine turnT (env' := [netD n ts, tupD n (vi r), .int (vi r x), .ref (h.length + x)]) rfl ?_
    exact callc (ds := [.int ((ends ts x).length : Nat), .int (vi r x)]) (h1 := h ++ rowsO n (ends ts)) (arc (h1 := h ++ rowsO n (ends ts)) (bltc (ar1 rfl) (RB.len hx)) (ar1 rfl)) (below_in L.toLibN (by unfold vi; omega) (by have := hr x hx; unfold vi; omega))
/-! ### drawn rotors -/
theorem lrotors_in (L : RL fns G I J) (F : Fit n ts) (Bx : BoxAt h cells) : ∃ (r : Nat → Nat) (h' : Heap), callF fns G W (k + 2) J.lrotors [.ref 0, netD n ts] h = .ok (tupD n (vi r)) h' ∧ BoxAt h' cells ∧ ∀ y, y < n → r y < (ends ts y).length := by
  have n12 := F.n12
  have t30 := F.t30
  obtain ⟨ps, h', e, B', q1, q2⟩ := lcdrawn (Φ := callF fns G W (k + 1)) (G := G) (env := [.ref 0, netD n ts, .und]) (tg := .var 2) (ia := .cons (.call J.lends (.cons (.var 1) .nil)) .nil) (el := .call I.take (.cons (.var 0) (.cons (.blt .len (.cons (.var 2) .nil)) .nil))) (k := .gen) (ds := [rowsL n (ends ts)]) (h := h) (h1 := h) (f := fun x => .lst (intsD (ends ts x))) (g := fun _ (b : Nat) => .int (b : Int)) (P := fun x b => b < (ends ts x).length) (I := fun h => BoxAt h cells) (L := List.range n) true (ar1 (callc (ar1 rfl) (lends_in L F))) rfl (fun x hx h Bh => by
      have hx := List.mem_range.mp hx
      have dp := ends_pos F.toGood hx
      have dm := en_len x ts 0
      have dm : (ends ts x).length ≤ ts.length := dm
      obtain ⟨t, h', e, a, b, B'⟩ := Bh.take (W := W) (k := k) L.toLibN (m := ((ends ts x).length : Nat)) (by omega) (by omega)
      refine ⟨t.toNat, h', turnT (env' := [.ref 0, netD n ts, .lst (intsD (ends ts x))]) rfl (callc (ds := [.ref 0, .int ((ends ts x).length : Nat)]) (h1 := h) (arc (h1 := h) rfl (ar1 (bltc (ar1 rfl) ?_))) ?_), B', by omega⟩
      · show R.ok (D.int ((intsD (ends ts x)).length : Nat)) h = _
        rw [ints_len]
      · rw [e, Int.toNat_of_nonneg a]) Bx
  have pf := pairs_fun q1
  refine ⟨fun x => (ps.getD x (0, default)).2, h', ?_, B', fun y hy => ?_⟩
  · refine fncL L.lrotors rfl (retc ?_) (B'.1.trans Bx.1.symm)
    refine bltc (ar1 (e.trans (newT ?_))) ?_
    · rw [List.length_map, ← List.length_map (f := (·.1)), q1, List.length_range]; exact sz64 (by omega)
    · show R.ok (D.tup (ps.map fun p => .int (p.2 : Int))) h' = _
      have : (ps.map fun p => D.int (p.2 : Int)) = rw_ n (vi fun x => (ps.getD x (0, default)).2) := by
        conv => lhs; rw [pf]
        rw [List.map_map]
        rfl
      rw [this]
      rfl
  · have hm : (y, (ps.getD y (0, default)).2) ∈ ps := by
      rw [pf]
      have : (y, (ps.getD y (0, default)).2) ∈ (List.range n).map fun x => (x, (ps.getD x (0, default)).2) := List.mem_map.mpr ⟨y, List.mem_range.mpr hy, rfl⟩
      rw [← pf] at this ⊢
      exact this
    exact q2 _ hm
end
end RT
/-! the drawn net -/
namespace RT
open MP DR Chip CB WK
section
variable {fns : List Fn} {G : List D} {I : Ix} {J : Rx} {W k : Nat} {h B : Heap} {n : Nat} {ts : Ties} {cells : List Int}
/-- the box, then lists -/
def Bt (h : Heap) (cells : List Int) (t : Heap) : Prop := ∃ o, h = [o] ++ t ∧ BoxAt [o] cells
theorem Bt.take {t : Heap} (L : LibN fns G I) (B : Bt h cells t) {m : Int} (hm : 0 < m) (hm2 : m < 1073741824) :
    ∃ v h', callF fns G W (k + 1) I.take [.ref 0, .int m] h = .ok (.int v) h' ∧ 0 ≤ v ∧ v < m ∧ Bt h' cells t := by
  obtain ⟨o, rfl, b⟩ := B
  obtain ⟨v, h', e, h1, h2, b', hl⟩ := b.p.take (W := W) (k := k) L t hm hm2
  obtain ⟨o', rfl⟩ : ∃ o', h' = [o'] := by
    match h', hl with
    | [o'], _ => exact ⟨o', rfl⟩
  exact ⟨v, [o'] ++ t, e, h1, h2, o', rfl, rfl, b'.box⟩
theorem Bt.at1 {l : List D} {t : Heap} (B : Bt h cells (Ob.lst l :: t)) : h[1]? = some (Ob.lst l) := by
  obtain ⟨o, rfl, b⟩ := B; rfl
theorem Bt.at2 {l m : List D} {t : Heap} (B : Bt h cells (Ob.lst l :: Ob.lst m :: t)) : h[2]? = some (Ob.lst m) := by
  obtain ⟨o, rfl, b⟩ := B; rfl
theorem Bt.set1 {l : List D} {t : Heap} (B : Bt h cells (Ob.lst l :: t)) (l' : List D) : Bt (h.set 1 (Ob.lst l')) cells (Ob.lst l' :: t) := by
  obtain ⟨o, rfl, b⟩ := B; exact ⟨o, rfl, b⟩
theorem Bt.set2 {l m : List D} {t : Heap} (B : Bt h cells (Ob.lst l :: Ob.lst m :: t)) (m' : List D) : Bt (h.set 2 (Ob.lst m')) cells (Ob.lst l :: Ob.lst m' :: t) := by
  obtain ⟨o, rfl, b⟩ := B; exact ⟨o, rfl, b⟩
theorem beqs_ties : ∀ l : Ties, D.beqs (l.map tieD) (l.map tieD) = true
  | [] => rfl
  | p :: l => by
    rw [List.map_cons, D.beqs, beqs_ties l]
    simp [tieD, oneD, D.beq, D.beqs]
def apB (I : Ix) : S := (.cons (.asg (.var 8) (.call I.take (.cons (.var 0) (.cons (.var 3) .nil))))
 (.cons (.exp (.mth .append (.var 4) (.cons (.tup (.cons (.var 8) (.cons (.bin .mod (.bin (.add true) (.bin (.add true) (.var 8) (.con (.int 1))) (.call I.take (.cons (.var 0) (.cons (.bin .sub (.var 3) (.con (.int 1))) .nil)))) (.var 3)) (.cons (.tup (.cons (.con (.int 1)) (.cons (.con (.int 1)) .nil))) .nil)))) .nil)))
 .nil))
theorem ap_for (L : LibN fns G I) (hn : 2 ≤ n) (hn2 : n ≤ 1000) {d1 d2 d6 d7 d9 : D} : ∀ (m j : Nat) {l : Ties} {h : Heap} {d5 d8 : D}, l.length + m ≤ 40 → Bt h cells [Ob.lst (l.map tieD)] → ∃ (l' : Ties) (h' : Heap) (e5 e8 : D),
    forL (fun x env h => R.opt h (bindT (.var 5) x env)) (fun env h => eS (callF fns G W (k + 1)) G W (apB I) env h) [] ((List.range' j m).map fun (x : Nat) => D.int (x : Int)) [.ref 0, d1, d2, .int (n : Int), .ref 1, d5, d6, d7, d8, d9] h = .ok (.nxt [.ref 0, d1, d2, .int (n : Int), .ref 1, e5, d6, d7, e8, d9]) h' ∧ Bt h' cells [Ob.lst ((l ++ l').map tieD)] ∧ l'.length = m ∧
      ∀ p ∈ l', p.1 < n ∧ p.2 < n ∧ p.1 ≠ p.2
  | 0, j, l, h, d5, d8, hl, B => ⟨[], h, d5, d8, for0, by simpa using B, rfl, by simp⟩
  | m + 1, j, l, h, d5, d8, hl, B => by
    obtain ⟨t, h1, e1, a1, b1, B1⟩ := B.take (W := W) (k := k) L (m := (n : Int)) (by omega) (by omega)
    obtain ⟨a, rfl⟩ : ∃ a : Nat, t = a := ⟨t.toNat, by omega⟩
    obtain ⟨v, h2, e2, a2, b2, B2⟩ := B1.take (W := W) (k := k) L (m := (n : Int) - 1) (by omega) (by omega)
    obtain ⟨p1, p2, p3⟩ := other_pt (n := n) (a := a) (t := v) ⟨a1, b1⟩ ⟨a2, b2⟩
    obtain ⟨b, hb⟩ : ∃ b : Nat, ((a : Int) + 1 + v) % n = b := ⟨(((a : Int) + 1 + v) % n).toNat, by omega⟩
    have z : (1000 : Nat) ≤ SZ := by decide
    have e3 := app1 B2.at1 (show (l.map tieD).length < SZ by rw [List.length_map]; omega) (tieD (a, b))
    have B3 : Bt (h2.set 1 (Ob.lst ((l ++ [(a, b)]).map tieD))) cells [Ob.lst ((l ++ [(a, b)]).map tieD)] := B2.set1 _
    have em : ((l ++ [(a, b)]).map tieD) = l.map tieD ++ [tieD (a, b)] := List.map_append
    rw [← em] at e3
    obtain ⟨l', h4, e5, e8, ef, B4, len, q1⟩ := ap_for L hn hn2 (d1 := d1) (d2 := d2) (d6 := d6) (d7 := d7) (d9 := d9) m (j + 1) (l := l ++ [(a, b)]) (d5 := .int (j : Int)) (d8 := .int (a : Int)) (by rw [List.length_append]; simp; omega) B3
    refine ⟨(a, b) :: l', h4, e5, e8, ?_, by rw [List.append_assoc] at B4; exact B4, by rw [List.length_cons, len], fun p hp => ?_⟩
    · rw [List.range'_succ, List.map_cons, for1 (env1 := [.ref 0, d1, d2, .int (n : Int), .ref 1, .int (j : Int), d6, d7, d8, d9]) (env2 := [.ref 0, d1, d2, .int (n : Int), .ref 1, .int (j : Int), d6, d7, .int (a : Int), d9]) (h1 := h2.set 1 (Ob.lst ((l ++ [(a, b)]).map tieD))) (by rfl) ?_, ef]
      refine (asgc (d := .int (a : Int)) (h1 := h1) (env' := [.ref 0, d1, d2, .int (n : Int), .ref 1, .int (j : Int), d6, d7, .int (a : Int), d9]) (callc (arc rfl (ar1 rfl)) e1) rfl).trans ?_
      refine (expc (d := .non) (h1 := h2.set 1 (Ob.lst ((l ++ [(a, b)]).map tieD))) (mthc (x := .ref 1) (h1 := h1) rfl (isL1 B1.at1) (ar1 (arc rfl (arc (d := .int (b : Int)) (h1 := h2) (binc (y := .int (n : Int)) (h1 := h2) (x := .int ((a : Int) + 1 + v)) (binc rfl (callc (arc rfl (ar1 rfl)) e2) rfl) rfl ?_) (ar1 rfl)))) e3)).trans rfl
      show (if 0 < (n : Int) then R.ok (D.int (((a : Int) + 1 + v) % n)) h2 else .bad) = _
      rw [if_pos (by omega), hb]
    · rcases List.mem_cons.mp hp with e | e
      · subst e
        exact ⟨by show a < n; omega, by show b < n; omega, by show a ≠ b; omega⟩
      · exact q1 p e
def inB (I : Ix) : S := (.cons (.exp (.mth .insert (.var 6) (.cons (.call I.take (.cons (.var 0) (.cons (.bin (.add true) (.blt .len (.cons (.var 6) .nil)) (.con (.int 1))) .nil))) (.cons (.var 7) .nil))))
 .nil)
theorem ins1 {m i : Nat} {xs : List D} (e : h[m]? = some (.lst xs)) (hi : i ≤ 1000) (hl : xs.length < SZ) (d : D) : opM .insert (.ref m) [.int (i : Int), d] h = .ok .non (h.set m (.lst (xs.take i ++ [d] ++ xs.drop i))) := by
  have b : (decide (0 ≤ (i : Int)) && big62 (i : Int) && decide (xs.length < SZ)) = true := by
    unfold big62
    rw [decide_eq_true (show 0 ≤ (i : Int) by omega), decide_eq_true (show -4611686018427387904 ≤ (i : Int) by omega), decide_eq_true (show (i : Int) < 4611686018427387904 by omega), decide_eq_true hl]
    rfl
  unfold opM
  simp only [e, b, if_true, Int.toNat_natCast]
  rfl
theorem in_for (L : LibN fns G I) {d1 d2 d3 d5 d8 d9 : D} {l : Ties} (hl : l.length ≤ 40) : ∀ (post : Ties) {out : Ties} {h : Heap} {d7 : D}, out.length + post.length ≤ 40 → Bt h cells [Ob.lst (l.map tieD), Ob.lst (out.map tieD)] → ∃ (out' : Ties) (h' : Heap) (e7 : D),
    forL (fun x env h => R.opt h (bindT (.var 7) x env)) (fun env h => eS (callF fns G W (k + 1)) G W (inB I) env h) [(1, l.map tieD)] (post.map tieD) [.ref 0, d1, d2, d3, .ref 1, d5, .ref 2, d7, d8, d9] h = .ok (.nxt [.ref 0, d1, d2, d3, .ref 1, d5, .ref 2, e7, d8, d9]) h' ∧ Bt h' cells [Ob.lst (l.map tieD), Ob.lst (out'.map tieD)] ∧ out'.Perm (out ++ post)
  | [], out, h, d7, hm, B => ⟨out, h, d7, forG0 (by
      unfold gdOk
      simp only [List.all_cons, List.all_nil, B.at1, beqs_ties, Bool.and_true]), B, by simp⟩
  | p :: post, out, h, d7, hm, B => by
    have z : (1000 : Nat) ≤ SZ := by decide
    rw [List.length_cons] at hm
    obtain ⟨t, h1, e1, a1, b1, B1⟩ := B.take (W := W) (k := k) L (m := (out.length : Int) + 1) (by omega) (by omega)
    obtain ⟨i, rfl⟩ : ∃ i : Nat, t = i := ⟨t.toNat, by omega⟩
    have e2 := ins1 B1.at2 (i := i) (by omega) (show (out.map tieD).length < SZ by rw [List.length_map]; omega) (tieD p)
    have em : (out.take i ++ [p] ++ out.drop i).map tieD = (out.map tieD).take i ++ [tieD p] ++ (out.map tieD).drop i := by
      rw [List.map_append, List.map_append, List.map_take, List.map_drop]; rfl
    rw [← em] at e2
    have B2 := B1.set2 ((out.take i ++ [p] ++ out.drop i).map tieD)
    have lo : (out.take i ++ [p] ++ out.drop i).length = out.length + 1 := by
      rw [List.length_append, List.length_append, List.length_take, List.length_drop]
      show min i out.length + 1 + (out.length - i) = _
      omega
    obtain ⟨out', h2, e7, ef, B3, pm⟩ := in_for L hl (d1 := d1) (d2 := d2) (d3 := d3) (d5 := d5) (d8 := d8) (d9 := d9) post (d7 := tieD p) (by rw [lo]; omega) B2
    refine ⟨out', h2, e7, ?_, B3, ?_⟩
    · rw [List.map_cons, forG1 (env1 := [.ref 0, d1, d2, d3, .ref 1, d5, .ref 2, tieD p, d8, d9]) (env2 := [.ref 0, d1, d2, d3, .ref 1, d5, .ref 2, tieD p, d8, d9]) (h1 := h1.set 2 (Ob.lst ((out.take i ++ [p] ++ out.drop i).map tieD))) ?_ (by rfl) ?_, ef]
      · unfold gdOk
        simp only [List.all_cons, List.all_nil, B.at1, beqs_ties, Bool.and_true]
      · refine (expc (d := .non) (mthc (x := .ref 2) (h1 := h) rfl (isL1 B.at2) (arc (d := .int (i : Int)) (h1 := h1) (callc (ds := [.ref 0, .int ((out.length : Int) + 1)]) (h1 := h) (arc rfl (ar1 (binc (x := .int ((out.length : Nat) : Int)) (y := .int 1) (h1 := h) (h2 := h) (bltc (ar1 rfl) ((ref_len B.at2).trans (by rw [List.length_map]))) rfl rfl))) e1) (ar1 rfl)) e2)).trans rfl
    · refine pm.trans ?_
      have : (out.take i ++ [p] ++ out.drop i).Perm (out ++ [p]) := by
        have a : (out.take i ++ [p] ++ out.drop i).Perm (out.take i ++ (out.drop i ++ [p])) := by
          rw [List.append_assoc]
          exact List.Perm.append_left _ List.perm_append_comm
        rwa [← List.append_assoc, List.take_append_drop] at a
      exact (this.append_right post).trans (by rw [List.append_assoc]; exact .refl _)
theorem plain_in (L : RL fns G I J) (Bx : BoxAt h cells) {most more : Nat} (h1 : 2 ≤ most) (h2 : most ≤ 12) (h3 : most - 1 + more ≤ 30) :
    ∃ (n : Nat) (ts : Ties) (h' : Heap), callF fns G W (k + 2) J.lplain [.ref 0, .int (most : Int), .int (more : Int)] h = .ok (netD n ts) h' ∧ BoxAt h' cells ∧ Fit n ts ∧ n ≤ most ∧ ts.length ≤ n - 1 + more := by
  obtain ⟨tn, ha, en, an, bn, Bn⟩ := Bx.take (W := W) (k := k) L.toLibN (m := (most : Int) - 1) (by omega) (by omega)
  obtain ⟨n, hn⟩ : ∃ n : Nat, 2 + tn = n := ⟨(2 + tn).toNat, by omega⟩
  have two : 2 ≤ n := by omega
  have nm : n ≤ most := by omega
  have z : (1000 : Nat) ≤ SZ := by decide
  -- each point to a lower one
  obtain ⟨ps, hb, eb, Bb, q1, q2⟩ := lcdrawn (Φ := callF fns G W (k + 1)) (G := G) (env := [.ref 0, .int (most : Int), .int (more : Int), .int (n : Int), .und, .und, .und, .und, .und, .und]) (tg := .var 9) (ia := .cons (.con (.int 1)) (.cons (.var 3) .nil)) (el := .tup (.cons (.call I.take (.cons (.var 0) (.cons (.var 9) .nil))) (.cons (.var 9) (.cons (.tup (.cons (.con (.int 1)) (.cons (.con (.int 1)) .nil))) .nil)))) (k := .rng) (ds := [.int ((1 : Nat) : Int), .int (n : Int)]) (h := ha) (h1 := ha) (f := fun (x : Nat) => .int (x : Int)) (g := fun x (y : Nat) => tieD (y, x)) (P := fun x y => y < x) (I := fun h => BoxAt h cells) (L := List.range' 1 (n - 1)) false rfl (rng2 (by omega) (by omega) _) (fun x hx h Bh => by
      obtain ⟨x1, x2⟩ := List.mem_range'_1.mp hx
      obtain ⟨t, h', e, a, b, B'⟩ := Bh.take (W := W) (k := k) L.toLibN (m := (x : Int)) (by omega) (by omega)
      obtain ⟨y, rfl⟩ : ∃ y : Nat, t = y := ⟨t.toNat, by omega⟩
      exact ⟨y, h', turnT (env' := [.ref 0, .int (most : Int), .int (more : Int), .int (n : Int), .und, .und, .und, .und, .und, .int (x : Int)]) rfl (show eE _ _ (.cons _ (.cons _ (.cons _ .nil))) _ _ = _ from arc (h1 := h') (callc (ds := [.ref 0, .int (x : Int)]) (h1 := h) (arc rfl (ar1 rfl)) e) (arc rfl (ar1 rfl))), B', by omega⟩) Bn
  let l1 : Ties := ps.map fun p => (p.2, p.1)
  have e1 : (ps.map fun p => tieD (p.2, p.1)) = l1.map tieD := by show _ = (ps.map _).map tieD; rw [List.map_map]; rfl
  have len1 : l1.length = n - 1 := by show (ps.map _).length = _; rw [List.length_map, ← List.length_map (f := (·.1)), q1, List.length_range']
  rw [e1, newF (by rw [List.length_map]; omega)] at eb
  have r1 : ∀ p ∈ l1, p.1 < p.2 ∧ p.2 < n := fun p hp => by
    obtain ⟨w, hw, rfl⟩ := List.mem_map.mp hp
    have a := q2 w hw
    have b : w.1 ∈ List.range' 1 (n - 1) := by rw [← q1]; exact List.mem_map.mpr ⟨w, hw, rfl⟩
    obtain ⟨b1, b2⟩ := List.mem_range'_1.mp b
    exact ⟨a, by show w.1 < n; omega⟩
  have r2 : ∀ x, 1 ≤ x → x < n → ∃ y, y < x ∧ (y, x) ∈ l1 := fun x h1 h2 => by
    have b : x ∈ ps.map (·.1) := by rw [q1]; exact List.mem_range'_1.mpr ⟨h1, by omega⟩
    obtain ⟨w, hw, rfl⟩ := List.mem_map.mp b
    exact ⟨w.2, q2 w hw, List.mem_map.mpr ⟨w, hw, rfl⟩⟩
  obtain ⟨o, rfl⟩ := Bb.shape
  have B1 : Bt [o, .lst (l1.map tieD)] cells [Ob.lst (l1.map tieD)] := ⟨o, rfl, Bb⟩
  -- some more
  obtain ⟨tm, hd, em, am, bm, Bd⟩ := B1.take (W := W) (k := k) L.toLibN (m := (more : Int) + 1) (by omega) (by omega)
  obtain ⟨mm, rfl⟩ : ∃ mm : Nat, tm = mm := ⟨tm.toNat, by omega⟩
  obtain ⟨l2, he, e5, e8, ef2, Be, len2, q3⟩ := ap_for (n := n) (W := W) (k := k) L.toLibN two (by omega) (d1 := .int (most : Int)) (d2 := .int (more : Int)) (d6 := .und) (d7 := .und) (d9 := .und) mm 0 (l := l1) (d5 := .und) (d8 := .und) (by omega) Bd
  have B3 : Bt (he ++ [Ob.lst []]) cells [Ob.lst ((l1 ++ l2).map tieD), Ob.lst (([] : Ties).map tieD)] := by
    obtain ⟨o', rfl, b⟩ := Be
    exact ⟨o', rfl, b⟩
  have lall : (l1 ++ l2).length ≤ 40 := by rw [List.length_append]; omega
  obtain ⟨out, hf, e7, ef3, Bf, pm⟩ := in_for (W := W) (k := k) L.toLibN lall (d1 := .int (most : Int)) (d2 := .int (more : Int)) (d3 := .int (n : Int)) (d5 := e5) (d8 := e8) (d9 := .und) (l1 ++ l2) (out := []) (d7 := .und) (by simpa using lall) B3
  rw [List.nil_append] at pm
  have lo : out.length = n - 1 + mm := by rw [pm.length_eq, List.length_append, len1, len2]
  have fit : Fit n out := by
    refine ⟨⟨two, fun p hp => ?_, fun x hx1 hx2 => ?_⟩, by omega, by omega⟩
    · rcases List.mem_append.mp (pm.mem_iff.mp hp) with w | w
      · have := r1 p w; exact ⟨by omega, by omega, by omega⟩
      · exact q3 p w
    · obtain ⟨y, hy, hm⟩ := r2 x hx1 hx2
      exact ⟨y, hy, .inl (pm.mem_iff.mpr (List.mem_append_left _ hm))⟩
  obtain ⟨o', ho', Bo⟩ := Bf
  refine ⟨n, out, [o'], ?_, Bo, fit, nm, by omega⟩
  have low : (netD n out).low 1 = true := by
    show (true && (D.lows 1 (out.map tieD) && true)) = true
    rw [ties_low]
    rfl
  refine fncLT (t := [Ob.lst ((l1 ++ l2).map tieD), Ob.lst (out.map tieD)]) L.lplain rfl ?_ (show 1 = h.length from Bx.1.symm) low (Bo.pure.low 1)
  rw [← ho']
  show eS (callF fns G W (k + 1)) G W (b_lplain I J) [.ref 0, .int (most : Int), .int (more : Int), .und, .und, .und, .und, .und, .und, .und] h = _
  refine (asgc (d := .int (n : Int)) (h1 := ha) (env' := [.ref 0, .int (most : Int), .int (more : Int), .int (n : Int), .und, .und, .und, .und, .und, .und]) (binc (x := .int 2) (y := .int tn) (h1 := h) (h2 := ha) rfl (callc (ds := [.ref 0, .int ((most : Int) - 1)]) (h1 := h) (arc rfl (ar1 (binc rfl rfl rfl))) en) (by rw [opB_add, hn])) rfl).trans ?_
  refine (asgc (d := .ref 1) (h1 := [o, .lst (l1.map tieD)]) (env' := [.ref 0, .int (most : Int), .int (more : Int), .int (n : Int), .ref 1, .und, .und, .und, .und, .und]) eb rfl).trans ?_
  refine (nxtc (s := .for (.var 5) .rng (.cons (.call I.take (.cons (.var 0) (.cons (.bin (.add true) (.var 2) (.con (.int 1))) .nil))) .nil) (apB I)) (h1 := he) (env' := [.ref 0, .int (most : Int), .int (more : Int), .int (n : Int), .ref 1, e5, .und, .und, e8, .und]) ?_).trans ?_
  · refine (forc (ds := [.int (mm : Int)]) (h1 := hd) (ar1 (callc (arc rfl (ar1 (binc rfl rfl rfl))) em)) (rng0 (by omega) _)).trans ?_
    rw [List.range_eq_range']
    exact ef2
  have lhe : he.length = 2 := by obtain ⟨o', rfl, b⟩ := Be; rfl
  refine (asgc (d := .ref 2) (h1 := he ++ [Ob.lst []]) (env' := [.ref 0, .int (most : Int), .int (more : Int), .int (n : Int), .ref 1, e5, .ref 2, .und, e8, .und]) ?_ rfl).trans ?_
  · show newL false [] he = _
    rw [newF (by decide), lhe]
  refine (nxtc (s := .for (.var 7) .gen (.cons (.var 4) .nil) (inB I)) (h1 := hf) (env' := [.ref 0, .int (most : Int), .int (more : Int), .int (n : Int), .ref 1, e5, .ref 2, e7, e8, .und]) ?_).trans ?_
  · rw [eS_for]
    have it : iterOf .gen [.ref 1] (he ++ [Ob.lst []]) = some ((l1 ++ l2).map tieD, [(1, (l1 ++ l2).map tieD)]) := by
      show (items _ _).map (fun xs => (xs, gdOf _ _)) = _
      have : items (he ++ [Ob.lst []]) (.ref 1) = some ((l1 ++ l2).map tieD) := by unfold items; simp only [B3.at1]
      rw [this]
      unfold gdOf
      simp only [B3.at1]
      rfl
    show (match iterOf .gen [.ref 1] (he ++ [Ob.lst []]) with
      | none => R.bad
      | some (xs, g) => forL _ _ g xs _ _) = _
    rw [it]
    exact ef3
  · have h2 : hf[2]? = some (Ob.lst (out.map tieD)) := by rw [ho']; rfl
    refine retc ?_
    show eE _ _ (.cons _ (.cons _ .nil)) _ _ = _
    refine arc rfl (ar1 (bltc (ds := [.ref 2]) (h1 := hf) (ar1 rfl) ?_))
    show ((R.opt hf (items hf (.ref 2))).bind fun ys h => R.ok (D.tup ys) h) = _
    have : items hf (.ref 2) = some (out.map tieD) := by unfold items; simp only [h2]
    rw [this]
    rfl
end
end RT
namespace K46
open MP
def g_MOST_POINTS : D := .int 12
def g_MOST_TIES : D := .int 30
def g_ONE : D := .tup [.int 1, .int 1]
abbrev i_is_number : Nat := 0
def b_is_number : S := (.cons (.ret (.and2 (.blt (.isinst .int) (.cons (.var 0) .nil)) (.one (.nt (.blt (.isinst .bool) (.cons (.var 0) .nil))))))
 .nil)
def d_is_number : Fn := ⟨1, 1, b_is_number⟩
abbrev i_common : Nat := 1
def b_common : S := (.cons (.par [0, 1] (.cons (.blt .abs (.cons (.var 0) .nil)) (.cons (.blt .abs (.cons (.var 1) .nil)) .nil)))
 (.cons (.whl (.cmp .gt (.var 1) (.con (.int 0)))
 (.cons (.par [0, 1] (.cons (.var 1) (.cons (.bin .mod (.var 0) (.var 1)) .nil)))
 .nil))
 (.cons (.ret (.var 0))
 .nil)))
def d_common : Fn := ⟨2, 2, b_common⟩
abbrev i_is_fraction : Nat := 2
def b_is_fraction : S := (.cons (.ite (.or2 (.nt (.blt (.isinst .tuple) (.cons (.var 0) .nil))) (.or2 (.cmp .ne (.blt .len (.cons (.var 0) .nil)) (.con (.int 2))) (.or2 (.nt (.call 0 (.cons (.idx (.var 0) (.con (.int 0))) .nil))) (.one (.nt (.call 0 (.cons (.idx (.var 0) (.con (.int 1))) .nil)))))))
 (.cons (.ret (.con (.bl false)))
 .nil)
 .nil)
 (.cons (.ret (.and2 (.cmp .ge (.idx (.var 0) (.con (.int 1))) (.con (.int 1))) (.one (.cmp .eq (.call 1 (.cons (.idx (.var 0) (.con (.int 0))) (.cons (.idx (.var 0) (.con (.int 1))) .nil))) (.con (.int 1))))))
 .nil))
def d_is_fraction : Fn := ⟨1, 1, b_is_fraction⟩
abbrev i_is_below : Nat := 3
def b_is_below : S := (.cons (.ret (.and2 (.call 0 (.cons (.var 1) .nil)) (.one (.chn .le .lt (.con (.int 0)) (.var 1) (.var 0)))))
 .nil)
def d_is_below : Fn := ⟨2, 2, b_is_below⟩
abbrev i_is_tie : Nat := 4
def b_is_tie : S := (.cons (.ite (.or2 (.nt (.blt (.isinst .tuple) (.cons (.var 1) .nil))) (.or2 (.cmp .ne (.blt .len (.cons (.var 1) .nil)) (.con (.int 3))) (.or2 (.nt (.call 3 (.cons (.var 0) (.cons (.idx (.var 1) (.con (.int 0))) .nil)))) (.or2 (.nt (.call 3 (.cons (.var 0) (.cons (.idx (.var 1) (.con (.int 1))) .nil)))) (.one (.cmp .eq (.idx (.var 1) (.con (.int 0))) (.idx (.var 1) (.con (.int 1)))))))))
 (.cons (.ret (.con (.bl false)))
 .nil)
 .nil)
 (.cons (.ret (.and2 (.call 2 (.cons (.idx (.var 1) (.con (.int 2))) .nil)) (.one (.cmp .gt (.idx (.idx (.var 1) (.con (.int 2))) (.con (.int 0))) (.con (.int 0))))))
 .nil))
def d_is_tie : Fn := ⟨2, 2, b_is_tie⟩
abbrev i_is_net : Nat := 5
def b_is_net : S := (.cons (.ite (.or2 (.nt (.blt (.isinst .tuple) (.cons (.var 0) .nil))) (.or2 (.cmp .ne (.blt .len (.cons (.var 0) .nil)) (.con (.int 2))) (.or2 (.nt (.call 0 (.cons (.idx (.var 0) (.con (.int 0))) .nil))) (.one (.nt (.chn .le .le (.con (.int 1)) (.idx (.var 0) (.con (.int 0))) (.glo 0)))))))
 (.cons (.ret (.con (.bl false)))
 .nil)
 .nil)
 (.cons (.ret (.and2 (.blt (.isinst .tuple) (.cons (.idx (.var 0) (.con (.int 1))) .nil)) (.and2 (.cmp .le (.blt .len (.cons (.idx (.var 0) (.con (.int 1))) .nil)) (.glo 1)) (.one (.blt .all (.cons (.lc true (.var 1) .gen (.cons (.idx (.var 0) (.con (.int 1))) .nil) (.con (.bl true)) (.call 4 (.cons (.idx (.var 0) (.con (.int 0))) (.cons (.var 1) .nil)))) .nil))))))
 .nil))
def d_is_net : Fn := ⟨1, 2, b_is_net⟩
abbrev i_check_net : Nat := 6
def b_check_net : S := (.cons (.ite (.nt (.call 5 (.cons (.var 0) .nil)))
 (.cons (.rai 1)
 .nil)
 .nil)
 .nil)
def d_check_net : Fn := ⟨1, 1, b_check_net⟩
abbrev i_check_point : Nat := 7
def b_check_point : S := (.cons (.ite (.nt (.call 3 (.cons (.idx (.var 0) (.con (.int 0))) (.cons (.var 1) .nil))))
 (.cons (.rai 1)
 .nil)
 .nil)
 .nil)
def d_check_point : Fn := ⟨2, 2, b_check_point⟩
abbrev i_is_plain : Nat := 8
def b_is_plain : S := (.cons (.ret (.blt .all (.cons (.lc true (.var 1) .gen (.cons (.idx (.var 0) (.con (.int 1))) .nil) (.con (.bl true)) (.cmp .eq (.idx (.var 1) (.con (.int 2))) (.glo 2))) .nil)))
 .nil)
def d_is_plain : Fn := ⟨1, 2, b_is_plain⟩
abbrev i_lots : Nat := 9
def b_lots : S := (.cons (.asg (.var 2) (.blt (.listR true) (.cons (.var 0) .nil)))
 (.cons (.for (.tup (.cons (.var 3) (.cons (.var 4) .nil))) .gen (.cons (.var 1) .nil)
 (.cons (.asg (.tup (.cons (.var 5) (.cons (.var 6) .nil))) (.tup (.cons (.blt .min2 (.cons (.idx (.var 2) (.var 3)) (.cons (.idx (.var 2) (.var 4)) .nil))) (.cons (.blt .max2 (.cons (.idx (.var 2) (.var 3)) (.cons (.idx (.var 2) (.var 4)) .nil))) .nil))))
 (.cons (.asg (.var 2) (.lc true (.var 8) .gen (.cons (.var 2) .nil) (.con (.bl true)) (.ite (.cmp .eq (.var 8) (.var 6)) (.var 5) (.var 8))))
 .nil)))
 (.cons (.ret (.lc true (.var 7) .gen (.cons (.blt (.sortedSet true) (.cons (.var 2) .nil)) .nil) (.con (.bl true)) (.blt .tuple (.cons (.lc true (.var 8) .rng (.cons (.var 0) .nil) (.cmp .eq (.idx (.var 2) (.var 8)) (.var 7)) (.var 8)) .nil))))
 .nil)))
def d_lots : Fn := ⟨2, 9, b_lots⟩
abbrev i_parts_of : Nat := 10
def b_parts_of : S := (.cons (.ret (.call 9 (.cons (.idx (.var 0) (.con (.int 0))) (.cons (.lc true (.var 1) .gen (.cons (.idx (.var 0) (.con (.int 1))) .nil) (.con (.bl true)) (.slc true (.var 1) (.con .und) (.con (.int 2)))) .nil))))
 .nil)
def d_parts_of : Fn := ⟨1, 2, b_parts_of⟩
abbrev i_ends_of : Nat := 11
def b_ends_of : S := (.cons (.asg (.var 1) (.lc true (.var 3) .rng (.cons (.idx (.var 0) (.con (.int 0))) .nil) (.con (.bl true)) (.lst false .nil)))
 (.cons (.for (.tup (.cons (.var 2) (.cons (.tup (.cons (.var 4) (.cons (.var 5) (.cons (.var 6) .nil)))) .nil))) .enum (.cons (.idx (.var 0) (.con (.int 1))) .nil)
 (.cons (.exp (.mth .append (.idx (.var 1) (.var 4)) (.cons (.var 2) .nil)))
 (.cons (.exp (.mth .append (.idx (.var 1) (.var 5)) (.cons (.var 2) .nil)))
 .nil)))
 (.cons (.ret (.var 1))
 .nil)))
def d_ends_of : Fn := ⟨1, 7, b_ends_of⟩
abbrev i_check_points : Nat := 12
def b_check_points : S := (.cons (.exp (.call 6 (.cons (.var 0) .nil)))
 (.cons (.for (.var 2) .gen (.cons (.var 1) .nil)
 (.cons (.exp (.call 7 (.cons (.var 0) (.cons (.var 2) .nil))))
 .nil))
 .nil))
def d_check_points : Fn := ⟨2, 3, b_check_points⟩
abbrev i_check_right : Nat := 13
def b_check_right : S := (.cons (.ite (.or2 (.cmp .lt (.idx (.var 0) (.con (.int 0))) (.con (.int 2))) (.or2 (.cmp .gt (.blt .len (.cons (.call 10 (.cons (.var 0) .nil)) .nil)) (.con (.int 1))) (.one (.nt (.call 8 (.cons (.var 0) .nil))))))
 (.cons (.rai 2)
 .nil)
 .nil)
 .nil)
def d_check_right : Fn := ⟨1, 1, b_check_right⟩
abbrev i_check_rotors : Nat := 14
def b_check_rotors : S := (.cons (.ite (.or2 (.nt (.blt (.isinst .tuple) (.cons (.var 1) .nil))) (.one (.cmp .ne (.blt .len (.cons (.var 1) .nil)) (.idx (.var 0) (.con (.int 0))))))
 (.cons (.rai 1)
 .nil)
 .nil)
 (.cons (.ite (.nt (.blt .all (.cons (.lc true (.tup (.cons (.var 2) (.cons (.var 3) .nil))) .zip (.cons (.var 1) (.cons (.call 11 (.cons (.var 0) .nil)) .nil)) (.con (.bl true)) (.call 3 (.cons (.blt .len (.cons (.var 3) .nil)) (.cons (.var 2) .nil)))) .nil)))
 (.cons (.rai 1)
 .nil)
 .nil)
 .nil))
def d_check_rotors : Fn := ⟨2, 4, b_check_rotors⟩
abbrev i_other_end : Nat := 15
def b_other_end : S := (.cons (.asg (.tup (.cons (.var 3) (.cons (.var 4) (.cons (.var 5) .nil)))) (.idx (.idx (.var 0) (.con (.int 1))) (.var 1)))
 (.cons (.ret (.ite (.cmp .eq (.var 2) (.var 3)) (.var 4) (.var 3)))
 .nil))
def d_other_end : Fn := ⟨3, 6, b_other_end⟩
abbrev i_lead : Nat := 16
def b_lead : S := (.cons (.asg (.tup (.cons (.var 4) (.cons (.var 5) (.cons (.var 6) (.cons (.var 7) .nil))))) (.tup (.cons (.call 11 (.cons (.var 0) .nil)) (.cons (.blt (.list false) (.cons (.var 1) .nil)) (.cons (.bin (.mul false) (.lst true (.cons (.con (.int 0)) .nil)) (.idx (.var 0) (.con (.int 0)))) (.cons (.var 2) .nil))))))
 (.cons (.whl (.cmp .ne (.var 7) (.var 3))
 (.cons (.asg (.idx (.var 5) (.var 7)) (.bin .mod (.bin (.add true) (.idx (.var 5) (.var 7)) (.con (.int 1))) (.blt .len (.cons (.idx (.var 4) (.var 7)) .nil))))
 (.cons (.aug (.add true) (.idx (.var 6) (.var 7)) (.con (.int 1)))
 (.cons (.asg (.var 7) (.call 15 (.cons (.var 0) (.cons (.idx (.idx (.var 4) (.var 7)) (.idx (.var 5) (.var 7))) (.cons (.var 7) .nil)))))
 .nil))))
 (.cons (.ret (.tup (.cons (.blt .tuple (.cons (.var 5) .nil)) (.cons (.blt .tuple (.cons (.var 6) .nil)) .nil))))
 .nil)))
def d_lead : Fn := ⟨4, 8, b_lead⟩
abbrev i_led : Nat := 17
def b_led : S := (.cons (.exp (.call 12 (.cons (.var 0) (.cons (.tup (.cons (.var 2) (.cons (.var 3) .nil))) .nil))))
 (.cons (.exp (.call 14 (.cons (.var 0) (.cons (.var 1) .nil))))
 (.cons (.exp (.call 13 (.cons (.var 0) .nil)))
 (.cons (.ret (.call 16 (.cons (.var 0) (.cons (.var 1) (.cons (.var 2) (.cons (.var 3) .nil))))))
 .nil))))
def d_led : Fn := ⟨4, 4, b_led⟩
abbrev i__law_box : Nat := 18
def b__law_box : S := (.cons (.ret (.lst false (.cons (.con (.int 0)) (.cons (.con (.int 0)) (.cons (.con (.int 0)) (.cons (.lc true (.var 1) .gen (.cons (.var 0) .nil) (.con (.bl true)) (.blt .abs (.cons (.blt .int (.cons (.var 1) .nil)) .nil))) .nil))))))
 .nil)
def d__law_box : Fn := ⟨1, 2, b__law_box⟩
abbrev i__law_take : Nat := 19
def b__law_take : S := (.cons (.ite (.cmp .eq (.idx (.var 0) (.con (.int 1))) (.con (.int 0)))
 (.cons (.asg (.var 2) (.idx (.var 0) (.con (.int 2))))
 (.cons (.asg (.var 3) (.con (.int 0)))
 (.cons (.ite (.cmp .lt (.var 2) (.blt .len (.cons (.idx (.var 0) (.con (.int 3))) .nil)))
 (.cons (.asg (.var 3) (.idx (.idx (.var 0) (.con (.int 3))) (.var 2)))
 (.cons (.asg (.idx (.var 0) (.con (.int 1))) (.ite (.cmp .ge (.var 3) (.bin .pow (.con (.int 10)) (.con (.int 18)))) (.con (.int 60)) (.neg (.con (.int 9)))))
 .nil))
 .nil)
 (.cons (.asg (.idx (.var 0) (.con (.int 2))) (.bin (.add true) (.var 2) (.con (.int 1))))
 (.cons (.asg (.idx (.var 0) (.con (.int 0))) (.var 3))
 (.cons (.ite (.cmp .eq (.idx (.var 0) (.con (.int 1))) (.con (.int 0)))
 (.cons (.ret (.con (.int 0)))
 .nil)
 .nil)
 .nil))))))
 .nil)
 (.cons (.ite (.cmp .gt (.idx (.var 0) (.con (.int 1))) (.con (.int 0)))
 (.cons (.asg (.var 4) (.bin .mod (.blt .int (.cons (.idx (.var 0) (.con (.int 0))) .nil)) (.var 1)))
 (.cons (.asg (.idx (.var 0) (.con (.int 0))) (.bin .fdiv (.idx (.var 0) (.con (.int 0))) (.var 1)))
 (.cons (.asg (.idx (.var 0) (.con (.int 1))) (.ite (.cmp .gt (.idx (.var 0) (.con (.int 0))) (.con (.int 0))) (.bin .sub (.idx (.var 0) (.con (.int 1))) (.con (.int 1))) (.con (.int 0))))
 (.cons (.ret (.var 4))
 .nil))))
 .nil)
 (.cons (.asg (.idx (.var 0) (.con (.int 1))) (.bin (.add true) (.idx (.var 0) (.con (.int 1))) (.con (.int 1))))
 (.cons (.asg (.idx (.var 0) (.con (.int 0))) (.bin .mod (.blt .int (.cons (.bin (.add true) (.bin (.mul true) (.idx (.var 0) (.con (.int 0))) (.con (.int 48271))) (.bin (.mul true) (.con (.int 69621)) (.bin (.add true) (.idx (.var 0) (.con (.int 1))) (.con (.int 20))))) .nil)) (.con (.int 2147483647))))
 (.cons (.ret (.bin .mod (.bin .mod (.blt .int (.cons (.bin (.add true) (.bin .fdiv (.idx (.var 0) (.con (.int 0))) (.con (.int 7))) (.idx (.var 0) (.con (.int 0)))) .nil)) (.con (.int 1000003))) (.var 1)))
 .nil)))))
def d__law_take : Fn := ⟨2, 5, b__law_take⟩
abbrev i__law_plain : Nat := 20
def b__law_plain : S := (.cons (.asg (.var 3) (.bin (.add true) (.con (.int 2)) (.call 19 (.cons (.var 0) (.cons (.bin .sub (.var 1) (.con (.int 1))) .nil)))))
 (.cons (.asg (.var 4) (.lc false (.var 9) .rng (.cons (.con (.int 1)) (.cons (.var 3) .nil)) (.con (.bl true)) (.tup (.cons (.call 19 (.cons (.var 0) (.cons (.var 9) .nil))) (.cons (.var 9) (.cons (.tup (.cons (.con (.int 1)) (.cons (.con (.int 1)) .nil))) .nil))))))
 (.cons (.for (.var 5) .rng (.cons (.call 19 (.cons (.var 0) (.cons (.bin (.add true) (.var 2) (.con (.int 1))) .nil))) .nil)
 (.cons (.asg (.var 8) (.call 19 (.cons (.var 0) (.cons (.var 3) .nil))))
 (.cons (.exp (.mth .append (.var 4) (.cons (.tup (.cons (.var 8) (.cons (.bin .mod (.bin (.add true) (.bin (.add true) (.var 8) (.con (.int 1))) (.call 19 (.cons (.var 0) (.cons (.bin .sub (.var 3) (.con (.int 1))) .nil)))) (.var 3)) (.cons (.tup (.cons (.con (.int 1)) (.cons (.con (.int 1)) .nil))) .nil)))) .nil)))
 .nil)))
 (.cons (.asg (.var 6) (.lst false .nil))
 (.cons (.for (.var 7) .gen (.cons (.var 4) .nil)
 (.cons (.exp (.mth .insert (.var 6) (.cons (.call 19 (.cons (.var 0) (.cons (.bin (.add true) (.blt .len (.cons (.var 6) .nil)) (.con (.int 1))) .nil))) (.cons (.var 7) .nil))))
 .nil))
 (.cons (.ret (.tup (.cons (.var 3) (.cons (.blt .tuple (.cons (.var 6) .nil)) .nil))))
 .nil))))))
def d__law_plain : Fn := ⟨3, 10, b__law_plain⟩
abbrev i__law_ends : Nat := 21
def b__law_ends : S := (.cons (.ret (.lc true (.var 1) .rng (.cons (.idx (.var 0) (.con (.int 0))) .nil) (.con (.bl true)) (.lc true (.var 2) .rng (.cons (.blt .len (.cons (.idx (.var 0) (.con (.int 1))) .nil)) .nil) (.cmp .isin (.var 1) (.slc true (.idx (.idx (.var 0) (.con (.int 1))) (.var 2)) (.con .und) (.con (.int 2)))) (.var 2))))
 .nil)
def d__law_ends : Fn := ⟨1, 3, b__law_ends⟩
abbrev i__law_go : Nat := 22
def b__law_go : S := (.cons (.ret (.ite (.cmp .eq (.idx (.idx (.idx (.var 0) (.con (.int 1))) (.var 1)) (.con (.int 0))) (.var 2)) (.idx (.idx (.idx (.var 0) (.con (.int 1))) (.var 1)) (.con (.int 1))) (.idx (.idx (.idx (.var 0) (.con (.int 1))) (.var 1)) (.con (.int 0)))))
 .nil)
def d__law_go : Fn := ⟨3, 3, b__law_go⟩
abbrev i__law_lead : Nat := 23
def b__law_lead : S := (.cons (.asg (.tup (.cons (.var 4) (.cons (.var 5) (.cons (.var 6) (.cons (.var 7) .nil))))) (.tup (.cons (.call 21 (.cons (.var 0) .nil)) (.cons (.blt (.list false) (.cons (.var 1) .nil)) (.cons (.bin (.mul false) (.lst true (.cons (.con (.int 0)) .nil)) (.idx (.var 0) (.con (.int 0)))) (.cons (.var 2) .nil))))))
 (.cons (.whl (.cmp .ne (.var 7) (.var 3))
 (.cons (.asg (.idx (.var 5) (.var 7)) (.bin .mod (.bin (.add true) (.idx (.var 5) (.var 7)) (.con (.int 1))) (.blt .len (.cons (.idx (.var 4) (.var 7)) .nil))))
 (.cons (.asg (.idx (.var 6) (.var 7)) (.bin (.add true) (.idx (.var 6) (.var 7)) (.con (.int 1))))
 (.cons (.asg (.var 7) (.call 22 (.cons (.var 0) (.cons (.idx (.idx (.var 4) (.var 7)) (.idx (.var 5) (.var 7))) (.cons (.var 7) .nil)))))
 .nil))))
 (.cons (.ret (.tup (.cons (.blt .tuple (.cons (.var 5) .nil)) (.cons (.blt .tuple (.cons (.var 6) .nil)) .nil))))
 .nil)))
def d__law_lead : Fn := ⟨4, 8, b__law_lead⟩
abbrev i__law_rotors : Nat := 24
def b__law_rotors : S := (.cons (.ret (.blt .tuple (.cons (.lc true (.var 2) .gen (.cons (.call 21 (.cons (.var 1) .nil)) .nil) (.con (.bl true)) (.call 19 (.cons (.var 0) (.cons (.blt .len (.cons (.var 2) .nil)) .nil)))) .nil)))
 .nil)
def d__law_rotors : Fn := ⟨2, 3, b__law_rotors⟩
abbrev i_law : Nat := 25
def b_law : S := (.cons (.asg (.var 1) (.call 18 (.cons (.var 0) .nil)))
 (.cons (.asg (.var 2) (.call 20 (.cons (.var 1) (.cons (.con (.int 7)) (.cons (.con (.int 5)) .nil)))))
 (.cons (.asg (.tup (.cons (.var 6) (.cons (.var 7) (.cons (.var 8) .nil)))) (.tup (.cons (.call 24 (.cons (.var 1) (.cons (.var 2) .nil))) (.cons (.call 19 (.cons (.var 1) (.cons (.idx (.var 2) (.con (.int 0))) .nil))) (.cons (.call 19 (.cons (.var 1) (.cons (.idx (.var 2) (.con (.int 0))) .nil))) .nil)))))
 (.cons (.asg (.var 3) (.call 17 (.cons (.var 2) (.cons (.var 6) (.cons (.var 7) (.cons (.var 8) .nil))))))
 (.cons (.ite (.or2 (.cmp .ne (.blt .repr (.cons (.var 3) .nil)) (.blt .repr (.cons (.call 23 (.cons (.var 2) (.cons (.var 6) (.cons (.var 7) (.cons (.var 8) .nil))))) .nil))) (.one (.cmp .ne (.call 17 (.cons (.var 2) (.cons (.var 6) (.cons (.var 8) (.cons (.var 8) .nil))))) (.tup (.cons (.var 6) (.cons (.bin (.mul true) (.tup (.cons (.con (.int 0)) .nil)) (.idx (.var 2) (.con (.int 0)))) .nil))))))
 (.cons (.ret (.con (.bl false)))
 .nil)
 .nil)
 (.cons (.asg (.tup (.cons (.var 9) (.cons (.tup (.cons (.var 12) (.cons (.var 13) .nil))) .nil))) (.tup (.cons (.call 21 (.cons (.var 2) .nil)) (.cons (.var 3) .nil))))
 (.cons (.for (.var 4) .rng (.cons (.idx (.var 2) (.con (.int 0))) .nil)
 (.cons (.ite (.or2 (.and2 (.cmp .eq (.idx (.var 13) (.var 4)) (.con (.int 0))) (.one (.cmp .ne (.idx (.var 12) (.var 4)) (.idx (.var 6) (.var 4))))) (.one (.cmp .ne (.idx (.var 13) (.var 8)) (.con (.int 0)))))
 (.cons (.ret (.con (.bl false)))
 .nil)
 .nil)
 (.cons (.ite (.and2 (.cmp .gt (.idx (.var 13) (.var 4)) (.con (.int 0))) (.one (.cmp .ne (.bin .mod (.bin (.add true) (.idx (.var 6) (.var 4)) (.idx (.var 13) (.var 4))) (.blt .len (.cons (.idx (.var 9) (.var 4)) .nil))) (.idx (.var 12) (.var 4)))))
 (.cons (.ret (.con (.bl false)))
 .nil)
 .nil)
 (.cons (.asg (.var 10) (.var 4))
 (.cons (.for (.var 11) .rng (.cons (.idx (.var 2) (.con (.int 0))) .nil)
 (.cons (.ite (.and2 (.cmp .ne (.var 10) (.var 8)) (.one (.cmp .gt (.idx (.var 13) (.var 10)) (.con (.int 0)))))
 (.cons (.asg (.var 10) (.call 22 (.cons (.var 2) (.cons (.idx (.idx (.var 9) (.var 10)) (.idx (.var 12) (.var 10))) (.cons (.var 10) .nil)))))
 .nil)
 .nil)
 .nil))
 (.cons (.ite (.and2 (.cmp .gt (.idx (.var 13) (.var 4)) (.con (.int 0))) (.one (.cmp .ne (.var 10) (.var 8))))
 (.cons (.ret (.con (.bl false)))
 .nil)
 .nil)
 .nil))))))
 (.cons (.asg (.var 5) (.bin (.mul false) (.lst true (.cons (.con (.int 0)) .nil)) (.idx (.var 2) (.con (.int 0)))))
 (.cons (.for (.var 4) .rng (.cons (.idx (.var 2) (.con (.int 0))) .nil)
 (.cons (.for (.var 11) .rng (.cons (.idx (.var 13) (.var 4)) .nil)
 (.cons (.asg (.var 10) (.call 22 (.cons (.var 2) (.cons (.idx (.idx (.var 9) (.var 4)) (.bin .mod (.bin (.add true) (.bin (.add true) (.idx (.var 6) (.var 4)) (.con (.int 1))) (.var 11)) (.blt .len (.cons (.idx (.var 9) (.var 4)) .nil)))) (.cons (.var 4) .nil)))))
 (.cons (.asg (.idx (.var 5) (.var 10)) (.bin (.add true) (.idx (.var 5) (.var 10)) (.con (.int 1))))
 .nil)))
 .nil))
 (.cons (.ret (.cmp .eq (.lc true (.var 4) .rng (.cons (.idx (.var 2) (.con (.int 0))) .nil) (.cmp .ne (.bin (.add true) (.idx (.var 5) (.var 4)) (.cmp .eq (.var 4) (.var 7))) (.bin (.add true) (.idx (.var 13) (.var 4)) (.cmp .eq (.var 4) (.var 8)))) (.var 4)) (.lst true .nil)))
 .nil))))))))))
def d_law : Fn := ⟨1, 14, b_law⟩
def fns : List Fn := [d_is_number, d_common, d_is_fraction, d_is_below, d_is_tie, d_is_net, d_check_net, d_check_point, d_is_plain, d_lots, d_parts_of, d_ends_of, d_check_points, d_check_right, d_check_rotors, d_other_end, d_lead, d_led, d__law_box, d__law_take, d__law_plain, d__law_ends, d__law_go, d__law_lead, d__law_rotors, d_law]
def G : List D := [g_MOST_POINTS, g_MOST_TIES, g_ONE]
end K46
namespace K46
open MP CB RT
def I : Ix := ⟨i_is_number, i_is_number, i_common, i_is_fraction, i_is_below, i_is_tie, i_is_net, i_check_net, i_lots, i_parts_of, 0, 0, 0, 0, 0, 0, 0, 0, 0, 0, 0, 0, 0, 0, 0, 0, i__law_take, 0, 0, 0, 0, 1, .rai 1, .rai 2⟩
def J : Rx := ⟨i_is_plain, i_check_point, i_ends_of, i_check_points, i_check_right, i_check_rotors, i_other_end, i_lead, i__law_plain, i__law_ends, i__law_go, i__law_lead, i__law_rotors, 2⟩
theorem lib : RL fns K46.G I J := by constructor; constructor <;> rfl; all_goals rfl
end K46
namespace K46
open MP DR Chip CB WK RT
abbrev WF : Nat := 1000000000000000000000000000000
abbrev F69 : Nat → List D → Heap → R D := callF fns K46.G WF 69
section
variable {k : Nat} {h B : Heap} {n : Nat} {ts : Ties} {r v : Nat → Nat} {start goal x : Nat} {cells : List Int}
theorem led_in (F : Fit n ts) (n7 : n ≤ 7) (hp : Pure h) (hs : start < n) (hg : goal < n) (hr : ∀ y, y < n → r y < (ends ts y).length) :
    callF fns K46.G WF (k + 7) 17 [netD n ts, tupD n (vi r), .int (start : Int), .int (goal : Int)] h = .ok (ledD WF n ts r start goal) h := by
  refine fnc (show fns[17]? = some ⟨4, 4, b_led⟩ from rfl) rfl ?_
  refine (expc (d := .non) (h1 := h) (callc (ds := [netD n ts, .tup (intsD [start, goal])]) (arc (h1 := h) rfl (ar1 rfl)) (cps_in (W := 999999999999999999999999999998) (k := k) lib F (fun x hx => ?_)))).trans ?_
  · simp only [List.mem_cons, List.not_mem_nil, or_false] at hx
    rcases hx with rfl | rfl <;> assumption
  refine (expc (d := .non) (h1 := h) (callc (ds := [netD n ts, tupD n (vi r)]) (arc (h1 := h) rfl (ar1 rfl)) (rotors_in (k := k + 3) lib F hp hr))).trans ?_
  refine (expc (d := .non) (h1 := h) (callc (ds := [netD n ts]) (ar1 rfl) (right_in (k := k + 3) lib F))).trans ?_
  exact retc (callc (arc (h1 := h) rfl (arc (h1 := h) rfl (arc (h1 := h) rfl (ar1 rfl)))) (lead_in (k := k + 4) lib F n7 hp hs hg hr (by decide)).2)
/-! ### repr -/
theorem rps_rw {f : Nat → Int} : ∀ L : List Nat, (∀ x ∈ L, (f x).natAbs < 1000000000000000000000000000000) → D.rps (L.map fun x => .int (f x)) = true
  | [], _ => rfl
  | x :: L, h => by
    rw [List.map_cons, D.rps, rps_rw L fun y hy => h y (by simp [hy]), D.rp, decide_eq_true (h x (by simp))]
    rfl
theorem bks_rw {f : Nat → Int} : ∀ L : List Nat, D.bks (L.map fun x => .int (f x)) = L.length
  | [] => rfl
  | x :: L => by
    rw [List.map_cons, D.bks, bks_rw L, List.length_cons]
    show 0 + 1 + L.length = _
    omega
theorem repr_pair {a b : Nat → Int} (n7 : n ≤ 12) (ha : On n fun x => (a x).natAbs < 1000000000000000000000000000000) (hb : On n fun x => (b x).natAbs < 1000000000000000000000000000000) : opF .repr [.tup [tupD n a, tupD n b]] h = .ok (.str (D.tup [tupD n a, tupD n b]).shw) h := by
  show (if ((D.tup [tupD n a, tupD n b]).flat DEEP && D.rps [tupD n a, tupD n b] && decide (D.bks [tupD n a, tupD n b] ≤ 100000)) = true then R.ok _ h else .bad) = _
  have e1 : D.rps [tupD n a, tupD n b] = true := by
    rw [D.rps, D.rps, D.rps]
    unfold tupD rw_
    rw [D.rp, D.rp, rps_rw _ (fun x hx => ha x (List.mem_range.mp hx)), rps_rw _ (fun x hx => hb x (List.mem_range.mp hx))]
    rfl
  have e2 : D.bks [tupD n a, tupD n b] = n + 1 + (n + 1) := by
    rw [D.bks, D.bks, D.bks]
    unfold tupD rw_
    rw [D.bk, D.bk, bks_rw, bks_rw, List.length_range]
  rw [pair_flat, e1, e2, decide_eq_true (by omega)]
  rfl
theorem nw_lt (F : Fit n ts) {y : Nat} (hy : y < n) : nw ts r v y < 31 ∧ 0 ≤ nw ts r v y := by
  have dp := ends_pos F.toGood hy
  have := Nat.mod_lt (r y + v y) (show 0 < (ends ts y).length by omega)
  have l := en_len y ts 0
  have l : (ends ts y).length ≤ ts.length := l
  have := F.t30
  unfold nw
  omega
theorem cps_ok (s : String) : (cpsOf s).all (· < 1114112) = true := by
  unfold cpsOf
  rw [List.all_map, List.all_eq_true]
  intro c _
  have := c.valid
  show decide (c.toNat < 1114112) = true
  rw [decide_eq_true_eq]
  have : c.val.toNat.isValidChar := c.valid
  unfold Nat.isValidChar at this
  show c.val.toNat < 1114112
  omega
theorem join_ok : ∀ xs : List (List Nat), (∀ x ∈ xs, x.all (· < 1114112) = true) → (joinN xs).all (· < 1114112) = true
  | [], _ => rfl
  | [x], h => by rw [joinN]; exact h x (by simp)
  | x :: y :: xs, h => by
    rw [joinN, List.all_append, List.all_append, h x (by simp), cps_ok, join_ok (y :: xs) fun z hz => h z (by simp [hz])]
    rfl
mutual
theorem shw_ok : ∀ d : D, d.shw.all (· < 1114112) = true
  | .non => by rw [D.shw]; exact cps_ok _
  | .bl b => by rw [D.shw]; exact cps_ok _
  | .int i => by rw [D.shw]; exact cps_ok _
  | .tup xs => by
    rw [D.shw, List.all_append, List.all_append, cps_ok, cps_ok, join_ok _ (shws_ok xs)]
    rfl
  | .und => rfl
  | .str _ => rfl
  | .ref _ => rfl
  | .lst _ => rfl
  | .frz _ => rfl
  | .clo _ _ => rfl
theorem shws_ok : ∀ xs : List D, ∀ x ∈ D.shws xs, x.all (· < 1114112) = true
  | [], x, h => absurd h (by rw [D.shws]; exact List.not_mem_nil)
  | d :: xs, x, h => by
    rw [D.shws] at h
    rcases List.mem_cons.mp h with e | e
    · rw [e]; exact shw_ok d
    · exact shws_ok xs x e
end
theorem str_ne (d : D) (hh : Heap) : opC .ne (.str d.shw) (.str d.shw) hh = some false := by
  have f : (D.str d.shw).flat DEEP = true := shw_ok d
  show (eqD hh _ _).map (!·) = _
  rw [eqD_flat f f, D.eqv, beq_self_eq_true]
  rfl
theorem zeroT {Φ : Nat → List D → Heap → R D} {e : E} {env : Env} {H : Heap} (h2 : 2 ≤ n) (hn : n ≤ 64) (ee : eE Φ K46.G e env H = .ok (.int (n : Int)) H) : eE Φ K46.G (.bin (.mul true) (.tup (.cons (.con (.int 0)) .nil)) e) env H = .ok (tupD n fun _ => 0) H := by
  refine binc (x := .tup [.int 0]) (y := .int (n : Int)) (h1 := H) (h2 := H) rfl ee ?_
  show (if (false || decide ((n : Int) < 2) || decide (1000 < (n : Int)) || false) = true then _ else R.ok (D.tup (rep (n : Int).toNat [D.int 0])) H) = _
  rw [decide_eq_false (by omega), decide_eq_false (by omega), if_neg (by decide), Int.toNat_natCast, rep_rw]
  rfl
/-! ### the law -/
abbrev EV (sc : D) (n : Nat) (ts : Ties) (told x come : D) (r : Nat → Nat) (start goal : Nat) (de y turn after visits : D) : Env := [sc, .ref 0, netD n ts, told, x, come, tupD n (vi r), .int (start : Int), .int (goal : Int), de, y, turn, after, visits]
theorem run_goal (m : Nat) (v : Nat → Nat) : run ts r goal m v goal = v := by
  cases m with
  | zero => rfl
  | succ m => rw [run, if_pos rfl]
theorem partA {ns : List Int} (hn : ns.length ≤ 63) : ∃ (n : Nat) (ts : Ties) (h : Heap) (cells : List Int) (r : Nat → Nat) (start goal : Nat), Fit n ts ∧ n ≤ 7 ∧ start < n ∧ goal < n ∧ (∀ y, y < n → r y < (ends ts y).length) ∧ BoxAt h cells ∧
    eS F69 K46.G WF b_law [.frz (ns.map .int), .und, .und, .und, .und, .und, .und, .und, .und, .und, .und, .und, .und, .und] [] =
    eS F69 K46.G WF (tl (tl (tl b_law))) (EV (.frz (ns.map .int)) n ts .und .und .und r start goal .und .und .und .und .und) h := by
  obtain ⟨h0, cells, e0, hl, hB⟩ := box_call (fns := fns) (G := K46.G) (W := WF) (k := 68) (show fns[i__law_box]? = some ⟨1, 2, bBox⟩ from rfl) hn
  have B0 : BoxAt h0 cells := ⟨hl, hB⟩
  obtain ⟨n, ts, h1, e1, B1, F, n7, t11⟩ := plain_in (W := WF) (k := 67) lib B0 (most := 7) (more := 5) (by decide) (by decide) (by decide)
  have two := F.two
  obtain ⟨r, h2, e2, B2, hr⟩ := lrotors_in (W := WF) (k := 67) lib F B1
  obtain ⟨s, h3, e3, a3, b3, B3⟩ := B2.take (W := WF) (k := 68) lib.toLibN (m := (n : Int)) (by omega) (by omega)
  obtain ⟨g, h4, e4, a4, b4, B4⟩ := B3.take (W := WF) (k := 68) lib.toLibN (m := (n : Int)) (by omega) (by omega)
  obtain ⟨start, rfl⟩ : ∃ x : Nat, s = x := ⟨s.toNat, by omega⟩
  obtain ⟨goal, rfl⟩ : ∃ x : Nat, g = x := ⟨g.toNat, by omega⟩
  refine ⟨n, ts, h4, cells, r, start, goal, F, n7, by omega, by omega, hr, B4, ?_⟩
  refine (asgc (d := .ref 0) (h1 := h0) (env' := [.frz (ns.map .int), .ref 0, .und, .und, .und, .und, .und, .und, .und, .und, .und, .und, .und, .und]) (callc (ar1 rfl) e0) rfl).trans ?_
  refine (asgc (d := netD n ts) (h1 := h1) (env' := [.frz (ns.map .int), .ref 0, netD n ts, .und, .und, .und, .und, .und, .und, .und, .und, .und, .und, .und]) (callc (arc (h1 := h0) rfl (arc (h1 := h0) rfl (ar1 rfl))) e1) rfl).trans ?_
  refine (asgc (d := .tup [tupD n (vi r), .int (start : Int), .int (goal : Int)]) (h1 := h4) ?_ rfl)
  show eE _ _ (.cons _ (.cons _ (.cons _ .nil))) _ _ = _
  exact arc (h1 := h2) (callc (ds := [.ref 0, netD n ts]) (h1 := h1) (arc rfl (ar1 rfl)) e2) (arc (h1 := h3) (callc (ds := [.ref 0, .int (n : Int)]) (h1 := h2) (arc rfl (ar1 (idxc (x := netD n ts) (y := .int 0) (h1 := h2) (h2 := h2) rfl rfl rfl))) e3) (ar1 (callc (ds := [.ref 0, .int (n : Int)]) (h1 := h3) (arc rfl (ar1 (idxc (x := netD n ts) (y := .int 0) (h1 := h3) (h2 := h3) rfl rfl rfl))) e4)))
/-- what is told, and the first looks at it -/
theorem partB (F : Fit n ts) (n7 : n ≤ 7) (hs : start < n) (hg : goal < n) (hr : ∀ y, y < n → r y < (ends ts y).length) (Bx : BoxAt h cells) {sc : D} : ∃ (v L : Nat → Nat) (T : Nat), Rot n ts r start goal v goal L T ∧ (On n fun y => v y ≤ 1200000000000000000) ∧
    eS F69 K46.G WF (tl (tl (tl b_law))) (EV sc n ts .und .und .und r start goal .und .und .und .und .und) h =
    eS F69 K46.G WF (tl (tl (tl (tl (tl (tl b_law)))))) (EV sc n ts (.tup [tupD n (nw ts r v), tupD n (vi v)]) .und .und r start goal (rowsL n (ends ts)) .und .und (tupD n (nw ts r v)) (tupD n (vi v))) h := by
  have hp := Bx.pure
  have n12 := F.n12
  have two := F.two
  have e1 := led_in (k := 62) (h := h) F n7 hp hs hg hr
  have e2 := llead_in (W := WF) (k := 67) lib F n7 hp hs hg hr (by decide)
  have e3 := led_in (k := 62) (h := h) F n7 hp hg hg hr
  have e4 := lends_in (W := WF) (k := 68) (h := h) lib F
  obtain ⟨⟨L, T, R⟩, _⟩ := lead_in (W := WF) (k := 67) lib F n7 hp hs hg hr (by decide)
  unfold ledD at e1 e2 e3
  rw [run_goal] at e3
  generalize run ts r goal WF (fun _ => 0) start = v at R e1 e2
  have vb : On n fun y => v y ≤ 1200000000000000000 := fun y hy => R.most F.toGood F.t30 hg n7 hy
  have rep1 := repr_pair (h := h) (n := n) (a := nw ts r v) (b := vi v) n12 (fun y hy => by have := nw_lt (r := r) (v := v) F hy; omega) (fun y hy => by have := vb y hy; show ((v y : Nat) : Int).natAbs < _; omega)
  refine ⟨v, L, T, R, vb, ?_⟩
  refine (asgc (d := .tup [tupD n (nw ts r v), tupD n (vi v)]) (h1 := h) (env' := EV sc n ts (.tup [tupD n (nw ts r v), tupD n (vi v)]) .und .und r start goal .und .und .und .und .und) (callc (arc (h1 := h) rfl (arc (h1 := h) rfl (arc (h1 := h) rfl (ar1 rfl)))) e1) rfl).trans ?_
  refine (itef (h1 := h) (or2f (h1 := h) (cmpc (h1 := h) (h2 := h) (bltc (ar1 rfl) rep1) (bltc (ar1 (callc (arc (h1 := h) rfl (arc (h1 := h) rfl (arc (h1 := h) rfl (ar1 rfl)))) e2)) rep1) (str_ne _ _)) (onec (cmpc (x := .tup [tupD n (nw ts r fun _ => 0), tupD n (vi fun _ => 0)]) (y := .tup [tupD n (vi r), tupD n fun _ => 0]) (h1 := h) (h2 := h) (callc (arc (h1 := h) rfl (arc (h1 := h) rfl (arc (h1 := h) rfl (ar1 rfl)))) e3) (show eE _ _ (.cons _ (.cons _ .nil)) _ _ = _ from arc (h1 := h) rfl (ar1 (zeroT two (by omega) (idxc (x := netD n ts) (y := .int 0) (h1 := h) (h2 := h) rfl rfl rfl)))) (pair_ne (fun y hy => ?_) fun _ _ => rfl))))).trans ?_
  · show (((r y + 0) % (ends ts y).length : Nat) : Int) = ((r y : Nat) : Int)
    rw [Nat.add_zero, Nat.mod_eq_of_lt (hr y hy)]
  · refine asgc (d := .tup [rowsL n (ends ts), .tup [tupD n (nw ts r v), tupD n (vi v)]]) (h1 := h) ?_ rfl
    show eE _ _ (.cons _ (.cons _ .nil)) _ _ = _
    exact arc (h1 := h) (callc (ar1 rfl) e4) (ar1 rfl)
end
end K46
namespace K46
open MP DR Chip CB WK RT
section
variable {k : Nat} {h B : Heap} {n : Nat} {ts : Ties} {r v : Nat → Nat} {start goal x : Nat} {cells : List Int} {sc told : D}
abbrev ET (sc told : D) (n : Nat) (ts : Ties) (r v : Nat → Nat) (start goal : Nat) (x come y turn : D) : Env := EV sc n ts told x come r start goal (rowsL n (ends ts)) y turn (tupD n (nw ts r v)) (tupD n (vi v))
/-! ### back along the last ties -/
def hopB : S := (.cons (.ite (.and2 (.cmp .ne (.var 10) (.var 8)) (.one (.cmp .gt (.idx (.var 13) (.var 10)) (.con (.int 0)))))
 (.cons (.asg (.var 10) (.call 22 (.cons (.var 2) (.cons (.idx (.idx (.var 9) (.var 10)) (.idx (.var 12) (.var 10))) (.cons (.var 10) .nil)))))
 .nil)
 .nil)
 .nil)
theorem pos_in {f : Nat → Nat} {y : Nat} (hy : y < n) {Φ : Nat → List D → Heap → R D} {a b : E} {env : Env} (e1 : eE Φ K46.G a env h = .ok (tupD n (vi f)) h) (e2 : eE Φ K46.G b env h = .ok (.int (y : Int)) h) : eE Φ K46.G (.cmp .gt (.idx a b) (.con (.int 0))) env h = .ok (.bl (decide (0 < f y))) h := by
  refine cmpc (x := .int (vi f y)) (y := .int 0) (h1 := h) (h2 := h) (idxc e1 e2 (rwT_at hy)) rfl ?_
  rw [gt_in]
  unfold vi
  congr 1
  rw [decide_eq_decide]
  omega
theorem exi_lt (F : Fit n ts) {y t : Nat} (hy : y < n) : (r y + t) % (ends ts y).length < (ends ts y).length := Nat.mod_lt _ (by have := ends_pos F.toGood hy; omega)
theorem hop_step (F : Fit n ts) {y : Nat} (hy : y < n) {x come turn : D} : eS F69 K46.G WF hopB (ET sc told n ts r v start goal x come (.int (y : Int)) turn) h = .ok (.nxt (ET sc told n ts r v start goal x come (.int ((hop ts r v goal y : Nat) : Int)) turn)) h := by
  have c1 : eE F69 K46.G (.cmp .ne (.var 10) (.var 8)) (ET sc told n ts r v start goal x come (.int (y : Int)) turn) h = .ok (.bl (decide (y ≠ goal))) h := cmpc (h1 := h) (h2 := h) rfl rfl (ne_nat _ _ _)
  have c2 : eE F69 K46.G (.cmp .gt (.idx (.var 13) (.var 10)) (.con (.int 0))) (ET sc told n ts r v start goal x come (.int (y : Int)) turn) h = .ok (.bl (decide (0 < v y))) h := pos_in hy rfl rfl
  unfold hopB
  by_cases a : y = goal
  · have : hop ts r v goal y = y := if_neg fun z => z.1 a
    rw [this]
    exact (itef (h1 := h) (and2f (c1.trans (by rw [decide_eq_false (fun z => z a)])))).trans rfl
  · have c1 := c1.trans (by rw [decide_eq_true a])
    by_cases b : 0 < v y
    · have : hop ts r v goal y = exi ts r y (v y) := if_pos ⟨a, b⟩
      rw [this]
      have c2 := c2.trans (by rw [decide_eq_true b])
      have e4 := lgo_in (n := n) (W := WF) (k := 68) (h := h) lib (x := y) (end_lt hy (exi_lt (r := r) F (t := v y) hy))
      refine (nxtc (h1 := h) (itet (h1 := h) (and2t c1 (onec c2)) ((asgc (d := .int ((exi ts r y (v y) : Nat) : Int)) (h1 := h) (env' := ET sc told n ts r v start goal x come (.int ((exi ts r y (v y) : Nat) : Int)) turn) (callc (ds := [netD n ts, .int (((ends ts y).getD ((r y + v y) % (ends ts y).length) 0 : Nat) : Int), .int (y : Int)]) (h1 := h) ?_ e4) rfl).trans rfl))).trans rfl
      exact arc (h1 := h) rfl (arc (h1 := h) (idxc (h1 := h) (h2 := h) (idxc (h1 := h) (h2 := h) rfl rfl (rowsL_at _ hy h)) (idxc (h1 := h) (h2 := h) rfl rfl (rwT_at hy)) (lst_at _ (exi_lt F hy) h)) (ar1 rfl))
    · have : hop ts r v goal y = y := if_neg fun z => b z.2
      rw [this]
      exact (itef (h1 := h) (and2t c1 (onec (c2.trans (by rw [decide_eq_false b]))))).trans rfl
theorem hop_lt (F : Fit n ts) {y : Nat} (hy : y < n) : hop ts r v goal y < n := by
  unfold hop
  split
  · exact exi_in F.toGood hy
  · exact hy
theorem hop_for (F : Fit n ts) {x come : D} : ∀ (m j : Nat) {y : Nat} {turn : D}, y < n → ∃ turn',
    forL (fun x env h => R.opt h (bindT (.var 11) x env)) (fun env h => eS F69 K46.G WF hopB env h) [] ((List.range' j m).map fun (x : Nat) => D.int (x : Int)) (ET sc told n ts r v start goal x come (.int (y : Int)) turn) h = .ok (.nxt (ET sc told n ts r v start goal x come (.int ((hops ts r v goal m y : Nat) : Int)) turn')) h
  | 0, j, y, turn, hy => ⟨turn, for0⟩
  | m + 1, j, y, turn, hy => by
    obtain ⟨turn', e⟩ := hop_for F (x := x) (come := come) m (j + 1) (turn := .int (j : Int)) (hop_lt (r := r) (v := v) (goal := goal) F hy)
    refine ⟨turn', ?_⟩
    rw [List.range'_succ, List.map_cons, hops, ← e]
    exact for1 (env1 := ET sc told n ts r v start goal x come (.int (y : Int)) (.int (j : Int))) (by rfl) (hop_step F hy)
/-! ### point by point -/
def chB : S := (.cons (.ite (.or2 (.and2 (.cmp .eq (.idx (.var 13) (.var 4)) (.con (.int 0))) (.one (.cmp .ne (.idx (.var 12) (.var 4)) (.idx (.var 6) (.var 4))))) (.one (.cmp .ne (.idx (.var 13) (.var 8)) (.con (.int 0)))))
 (.cons (.ret (.con (.bl false)))
 .nil)
 .nil)
 (.cons (.ite (.and2 (.cmp .gt (.idx (.var 13) (.var 4)) (.con (.int 0))) (.one (.cmp .ne (.bin .mod (.bin (.add true) (.idx (.var 6) (.var 4)) (.idx (.var 13) (.var 4))) (.blt .len (.cons (.idx (.var 9) (.var 4)) .nil))) (.idx (.var 12) (.var 4)))))
 (.cons (.ret (.con (.bl false)))
 .nil)
 .nil)
 (.cons (.asg (.var 10) (.var 4))
 (.cons (.for (.var 11) .rng (.cons (.idx (.var 2) (.con (.int 0))) .nil) hopB)
 (.cons (.ite (.and2 (.cmp .gt (.idx (.var 13) (.var 4)) (.con (.int 0))) (.one (.cmp .ne (.var 10) (.var 8))))
 (.cons (.ret (.con (.bl false)))
 .nil)
 .nil)
 .nil)))))
theorem ch_step (F : Fit n ts) (hg : goal < n) {L : Nat → Nat} {T : Nat} (R0 : Rot n ts r start goal v goal L T) (hr : ∀ y, y < n → r y < (ends ts y).length) {x : Nat} (hx : x < n) {come y turn : D} : ∃ y' turn', eS F69 K46.G WF chB (ET sc told n ts r v start goal (.int (x : Int)) come y turn) h = .ok (.nxt (ET sc told n ts r v start goal (.int (x : Int)) come y' turn')) h := by
  have n12 := F.n12
  have dp := ends_pos F.toGood hx
  have ex : ∀ {y turn : D}, eE F69 K46.G (.idx (.var 13) (.var 4)) (ET sc told n ts r v start goal (.int (x : Int)) come y turn) h = .ok (.int (v x : Int)) h := idxc (h1 := h) (h2 := h) rfl rfl (rwT_at hx)
  have ea : eE F69 K46.G (.idx (.var 12) (.var 4)) (ET sc told n ts r v start goal (.int (x : Int)) come y turn) h = .ok (.int (((r x + v x) % (ends ts x).length : Nat) : Int)) h := idxc (h1 := h) (h2 := h) rfl rfl (rwT_at hx)
  have er : eE F69 K46.G (.idx (.var 6) (.var 4)) (ET sc told n ts r v start goal (.int (x : Int)) come y turn) h = .ok (.int (r x : Int)) h := idxc (h1 := h) (h2 := h) rfl rfl (rwT_at hx)
  have eg : eE F69 K46.G (.cmp .ne (.idx (.var 13) (.var 8)) (.con (.int 0))) (ET sc told n ts r v start goal (.int (x : Int)) come y turn) h = .ok (.bl false) h := by
    refine cmpc (x := .int ((v goal : Nat) : Int)) (y := .int 0) (h1 := h) (h2 := h) (idxc (h1 := h) (h2 := h) rfl rfl (rwT_at hg)) rfl ?_
    rw [R0.gl0]; rfl
  have ep : ∀ {y turn : D}, eE F69 K46.G (.cmp .gt (.idx (.var 13) (.var 4)) (.con (.int 0))) (ET sc told n ts r v start goal (.int (x : Int)) come y turn) h = .ok (.bl (decide (0 < v x))) h := pos_in hx rfl rfl
  have el : eE F69 K46.G (.blt .len (.cons (.idx (.var 9) (.var 4)) .nil)) (ET sc told n ts r v start goal (.int (x : Int)) come y turn) h = .ok (.int ((ends ts x).length : Nat)) h := by
    refine bltc (ar1 (idxc (h1 := h) (h2 := h) rfl rfl (rowsL_at _ hx h))) ?_
    show R.ok (D.int ((intsD (ends ts x)).length : Nat)) h = _
    rw [ints_len]
  have c1 : eE F69 K46.G (.or2 (.and2 (.cmp .eq (.idx (.var 13) (.var 4)) (.con (.int 0))) (.one (.cmp .ne (.idx (.var 12) (.var 4)) (.idx (.var 6) (.var 4))))) (.one (.cmp .ne (.idx (.var 13) (.var 8)) (.con (.int 0))))) (ET sc told n ts r v start goal (.int (x : Int)) come y turn) h = .ok (.bl false) h := by
    refine or2f (h1 := h) ?_ (onec eg)
    have e0 : eE F69 K46.G (.cmp .eq (.idx (.var 13) (.var 4)) (.con (.int 0))) (ET sc told n ts r v start goal (.int (x : Int)) come y turn) h = .ok (.bl (decide (v x = 0))) h := cmpc (h1 := h) (h2 := h) ex rfl (eq_int _ 0 _)
    by_cases z : v x = 0
    · refine and2t (e0.trans (by rw [decide_eq_true z])) (onec (cmpc (h1 := h) (h2 := h) ea er ((ne_nat _ _ _).trans ?_)))
      rw [z, Nat.add_zero, Nat.mod_eq_of_lt (hr x hx), decide_eq_false (fun w => w rfl)]
    · exact and2f (e0.trans (by rw [decide_eq_false z]))
  have c2 : eE F69 K46.G (.and2 (.cmp .gt (.idx (.var 13) (.var 4)) (.con (.int 0))) (.one (.cmp .ne (.bin .mod (.bin (.add true) (.idx (.var 6) (.var 4)) (.idx (.var 13) (.var 4))) (.blt .len (.cons (.idx (.var 9) (.var 4)) .nil))) (.idx (.var 12) (.var 4))))) (ET sc told n ts r v start goal (.int (x : Int)) come y turn) h = .ok (.bl false) h := by
    by_cases z : 0 < v x
    · refine and2t (ep.trans (by rw [decide_eq_true z])) (onec (cmpc (x := .int (((r x + v x) % (ends ts x).length : Nat) : Int)) (h1 := h) (h2 := h) (binc (x := .int ((r x + v x : Nat) : Int)) (h1 := h) (h2 := h) (binc (h1 := h) (h2 := h) er ex rfl) el (mod_in dp h)) ea ((ne_nat _ _ _).trans ?_)))
      rw [decide_eq_false (fun w => w rfl)]
    · exact and2f (ep.trans (by rw [decide_eq_false z]))
  obtain ⟨turn', ef⟩ := hop_for (h := h) (sc := sc) (told := told) (r := r) (v := v) (start := start) (goal := goal) F (x := .int (x : Int)) (come := come) n 0 (turn := turn) hx
  refine ⟨.int ((hops ts r v goal n x : Nat) : Int), turn', ?_⟩
  refine (itef (h1 := h) c1).trans ((itef (h1 := h) c2).trans ?_)
  refine (asgc (d := .int (x : Int)) (h1 := h) (env' := ET sc told n ts r v start goal (.int (x : Int)) come (.int (x : Int)) turn) rfl rfl).trans ?_
  refine (nxtc (s := .for (.var 11) .rng (.cons (.idx (.var 2) (.con (.int 0))) .nil) hopB) (h1 := h) ((forc (ds := [.int (n : Int)]) (h1 := h) (ar1 (idxc (x := netD n ts) (y := .int 0) (h1 := h) (h2 := h) rfl rfl rfl)) ((rng0 (by omega) _).trans (by rw [List.range_eq_range']))).trans ef)).trans ?_
  refine (itef (h1 := h) ?_).trans rfl
  by_cases z : 0 < v x
  · refine and2t (ep.trans (by rw [decide_eq_true z])) (onec (cmpc (h1 := h) (h2 := h) rfl rfl ((ne_nat _ _ _).trans ?_)))
    rw [R0.home F.toGood n hx z (aftL_n hx z), decide_eq_false (fun w => w rfl)]
  · exact and2f (ep.trans (by rw [decide_eq_false z]))
theorem ch_for (F : Fit n ts) (hg : goal < n) {L : Nat → Nat} {T : Nat} (R0 : Rot n ts r start goal v goal L T) (hr : ∀ y, y < n → r y < (ends ts y).length) {come : D} : ∀ (m j : Nat), j + m = n → ∀ {x y turn : D}, ∃ x' y' turn',
    forL (fun x env h => R.opt h (bindT (.var 4) x env)) (fun env h => eS F69 K46.G WF chB env h) [] ((List.range' j m).map fun (x : Nat) => D.int (x : Int)) (ET sc told n ts r v start goal x come y turn) h = .ok (.nxt (ET sc told n ts r v start goal x' come y' turn')) h
  | 0, j, _, x, y, turn => ⟨x, y, turn, for0⟩
  | m + 1, j, hm, x, y, turn => by
    obtain ⟨y1, t1, e1⟩ := ch_step (h := h) (sc := sc) (told := told) F hg R0 hr (x := j) (by omega) (come := come) (y := y) (turn := turn)
    obtain ⟨x', y', turn', e⟩ := ch_for F hg R0 hr (come := come) m (j + 1) (by omega) (x := .int (j : Int)) (y := y1) (turn := t1)
    refine ⟨x', y', turn', ?_⟩
    rw [List.range'_succ, List.map_cons, ← e]
    exact for1 (env1 := ET sc told n ts r v start goal (.int (j : Int)) come y turn) (by rfl) e1
/-! ### what comes to each point -/
def cmI : S := (.cons (.asg (.var 10) (.call 22 (.cons (.var 2) (.cons (.idx (.idx (.var 9) (.var 4)) (.bin .mod (.bin (.add true) (.bin (.add true) (.idx (.var 6) (.var 4)) (.con (.int 1))) (.var 11)) (.blt .len (.cons (.idx (.var 9) (.var 4)) .nil)))) (.cons (.var 4) .nil)))))
 (.cons (.asg (.idx (.var 5) (.var 10)) (.bin (.add true) (.idx (.var 5) (.var 10)) (.con (.int 1))))
 .nil))
theorem cmi_for (F : Fit n ts) {x : Nat} (hx : x < n) {b : Nat → Nat} : ∀ (m j : Nat) {y turn : D}, ∃ y' turn',
    forL (fun x env h => R.opt h (bindT (.var 11) x env)) (fun env h => eS F69 K46.G WF cmI env h) [] ((List.range' j m).map fun (x : Nat) => D.int (x : Int)) (ET sc told n ts r v start goal (.int (x : Int)) (.ref h.length) y turn) (HB h n (vi fun z => b z + cntT ts r x z j)) = .ok (.nxt (ET sc told n ts r v start goal (.int (x : Int)) (.ref h.length) y' turn')) (HB h n (vi fun z => b z + cntT ts r x z (j + m)))
  | 0, j, y, turn => ⟨y, turn, for0⟩
  | m + 1, j, y, turn => by
    let q := exi ts r x (j + 1)
    have qn : q < n := exi_in F.toGood hx
    have dp := ends_pos F.toGood hx
    obtain ⟨y', turn', e⟩ := cmi_for F hx (b := b) m (j + 1) (y := .int (q : Int)) (turn := .int (j : Int))
    refine ⟨y', turn', ?_⟩
    rw [show j + (m + 1) = j + 1 + m by omega, List.range'_succ, List.map_cons, ← e]
    let H0 := HB h n (vi fun z => b z + cntT ts r x z j)
    have e4 := lgo_in (n := n) (W := WF) (k := 68) (h := H0) lib (x := x) (end_lt hx (exi_lt (r := r) F (t := j + 1) hx))
    refine for1 (env1 := ET sc told n ts r v start goal (.int (x : Int)) (.ref h.length) y (.int (j : Int))) (by rfl) ?_
    refine (asgc (d := .int (q : Int)) (h1 := H0) (env' := ET sc told n ts r v start goal (.int (x : Int)) (.ref h.length) (.int (q : Int)) (.int (j : Int))) (callc (ds := [netD n ts, .int (((ends ts x).getD ((r x + (j + 1)) % (ends ts x).length) 0 : Nat) : Int), .int (x : Int)]) (h1 := H0) ?_ e4) rfl).trans ?_
    · refine arc (h1 := H0) rfl (arc (h1 := H0) (idxc (h1 := H0) (h2 := H0) (idxc (h1 := H0) (h2 := H0) rfl rfl (rowsL_at _ hx H0)) (binc (x := .int ((r x + 1 + j : Nat) : Int)) (y := .int ((ends ts x).length : Nat)) (h1 := H0) (h2 := H0) (binc (x := .int ((r x + 1 : Nat) : Int)) (h1 := H0) (h2 := H0) (binc (x := .int (r x : Int)) (h1 := H0) (h2 := H0) (idxc (h1 := H0) (h2 := H0) rfl rfl (rwT_at hx)) rfl rfl) rfl rfl) (bltc (ar1 (idxc (h1 := H0) (h2 := H0) rfl rfl (rowsL_at _ hx H0))) ?_) ((mod_in dp H0).trans (by rw [show r x + 1 + j = r x + (j + 1) by omega]))) (lst_at _ (exi_lt F hx) H0)) (ar1 rfl))
      show R.ok (D.int ((intsD (ends ts x)).length : Nat)) H0 = _
      rw [ints_len]
    · refine (asgI (m := h.length) (x := (q : Int)) (v := ((b q + cntT ts r x q j : Nat) : Int) + 1) (h' := HB h n (vi fun z => b z + cntT ts r x z (j + 1))) (binc (idxc rfl rfl (ref_at HB_out qn)) rfl rfl) rfl rfl ?_).trans rfl
      rw [ref_put HB_out qn, HB_set]
      have : up1 (vi fun z => b z + cntT ts r x z j) q (((b q + cntT ts r x q j : Nat) : Int) + 1) = vi fun z => b z + cntT ts r x z (j + 1) := by
        funext z
        unfold up1 vi
        show _ = ((b z + (cntT ts r x z j + if exi ts r x (j + 1) = z then 1 else 0) : Nat) : Int)
        by_cases w : z = q
        · subst w
          rw [if_pos rfl, if_pos rfl]
          omega
        · rw [if_neg w, if_neg (Ne.symm w)]
          rfl
      rw [this]
def cmB : S := (.cons (.for (.var 11) .rng (.cons (.idx (.var 13) (.var 4)) .nil) cmI)
 .nil)
theorem cm_for (F : Fit n ts) (vb : On n fun y => v y ≤ 1200000000000000000) : ∀ (m j : Nat), j + m = n → ∀ {x y turn : D}, ∃ x' y' turn',
    forL (fun x env h => R.opt h (bindT (.var 4) x env)) (fun env h => eS F69 K46.G WF cmB env h) [] ((List.range' j m).map fun (x : Nat) => D.int (x : Int)) (ET sc told n ts r v start goal x (.ref h.length) y turn) (HB h n (vi fun z => arr ts r v z j)) = .ok (.nxt (ET sc told n ts r v start goal x' (.ref h.length) y' turn')) (HB h n (vi fun z => arr ts r v z n))
  | 0, j, hm, x, y, turn => ⟨x, y, turn, by
    have : j = n := by omega
    subst this
    exact for0⟩
  | m + 1, j, hm, x, y, turn => by
    have jn : j < n := by omega
    have vj : v j ≤ 1200000000000000000 := vb j jn
    obtain ⟨y1, t1, e1⟩ := cmi_for (h := h) (sc := sc) (told := told) (v := v) (start := start) (goal := goal) (r := r) F jn (b := fun z => arr ts r v z j) (v j) 0 (y := y) (turn := turn)
    obtain ⟨x', y', turn', e⟩ := cm_for F vb m (j + 1) (by omega) (x := .int (j : Int)) (y := y1) (turn := t1)
    refine ⟨x', y', turn', ?_⟩
    rw [List.range'_succ, List.map_cons, ← e]
    refine for1 (env1 := ET sc told n ts r v start goal (.int (j : Int)) (.ref h.length) y turn) (by rfl) ?_
    let H0 := HB h n (vi fun z => arr ts r v z j)
    have e2 : H0 = HB h n (vi fun z => arr ts r v z j + cntT ts r j z 0) := rfl
    have e3 : HB h n (vi fun z => arr ts r v z (j + 1)) = HB h n (vi fun z => arr ts r v z j + cntT ts r j z (0 + v j)) := by
      rw [Nat.zero_add]; rfl
    refine (nxtc (s := .for (.var 11) .rng (.cons (.idx (.var 13) (.var 4)) .nil) cmI) (h1 := HB h n (vi fun z => arr ts r v z (j + 1))) ((forc (ds := [.int (v j : Int)]) (h1 := H0) (ar1 (idxc (h1 := H0) (h2 := H0) rfl rfl (rwT_at (f := vi v) jn))) (rngB (by omega) _)).trans ?_)).trans rfl
    rw [e3]
    exact e1
/-! ### the end -/
theorem partC (F : Fit n ts) (hg : goal < n) {L : Nat → Nat} {T : Nat} (R0 : Rot n ts r start goal v goal L T) (hr : ∀ y, y < n → r y < (ends ts y).length) (vb : On n fun y => v y ≤ 1200000000000000000) : ∃ h',
    eS F69 K46.G WF (tl (tl (tl (tl (tl (tl b_law)))))) (ET sc told n ts r v start goal .und .und .und .und) h = .ok (.ret (.bl true)) h' := by
  have n12 := F.n12
  obtain ⟨x1, y1, t1, e1⟩ := ch_for (h := h) (sc := sc) (told := told) F hg R0 hr (come := .und) n 0 (by omega) (x := .und) (y := .und) (turn := .und)
  obtain ⟨x2, y2, t2, e2⟩ := cm_for (h := h) (sc := sc) (told := told) (r := r) (start := start) (goal := goal) F vb n 0 (by omega) (x := x1) (y := y1) (turn := t1)
  let H1 := HB h n (vi fun z => arr ts r v z n)
  have en : ∀ {H : Heap} {x come y turn : D}, eE F69 K46.G (.cons (.idx (.var 2) (.con (.int 0))) .nil) (ET sc told n ts r v start goal x come y turn) H = .ok (.tup [.int (n : Int)]) H := fun {H x come y turn} => ar1 (idxc (x := netD n ts) (y := .int 0) (h1 := H) (h2 := H) rfl rfl rfl)
  refine ⟨H1, ?_⟩
  refine (nxtc (s := .for (.var 4) .rng (.cons (.idx (.var 2) (.con (.int 0))) .nil) chB) (h1 := h) ((forc (h1 := h) en ((rng0 (by omega) _).trans (by rw [List.range_eq_range']))).trans e1)).trans ?_
  refine (asgc (d := .ref h.length) (h1 := HB h n fun _ => 0) (env' := ET sc told n ts r v start goal x1 (.ref h.length) y1 t1) (zeros (n := n) (by omega) (idxc (x := netD n ts) (y := .int 0) (h1 := h) (h2 := h) rfl rfl rfl)) rfl).trans ?_
  refine (nxtc (s := .for (.var 4) .rng (.cons (.idx (.var 2) (.con (.int 0))) .nil) cmB) (h1 := H1) ((forc (h1 := HB h n fun _ => 0) en ((rng0 (by omega) _).trans (by rw [List.range_eq_range']))).trans e2)).trans ?_
  refine retc (cmpc (x := .lst []) (y := .lst []) (h1 := H1) (h2 := H1) ?_ rfl rfl)
  have c0 : (.lst [] : D) = .lst ((List.range n).filterMap fun _ => none) := by
    congr 1
    exact (List.filterMap_eq_nil_iff.mpr fun _ _ => rfl).symm
  rw [c0]
  refine lcfm (L := List.range n) (f := fun (x : Nat) => .int (x : Int)) en (rng0 (by omega) _) (fun x hx => ?_) (by rw [List.length_range]; exact sz64 (by omega))
  have hx := List.mem_range.mp hx
  refine turnF (env' := ET sc told n ts r v start goal (.int (x : Int)) (.ref h.length) y2 t2) rfl ?_
  have es : ∀ (a b : Nat) (H : Heap), opC .eq (.int (a : Int)) (.int (b : Int)) H = some (decide (a = b)) := eq_int
  refine cmpc (x := .int ((arr ts r v x n : Nat) + b2i (decide (x = start)) : Int)) (y := .int ((v x : Nat) + b2i (decide (x = goal)) : Int)) (h1 := H1) (h2 := H1) (binc (x := .int (arr ts r v x n : Nat)) (y := .bl (decide (x = start))) (h1 := H1) (h2 := H1) (idxc (h1 := H1) (h2 := H1) rfl rfl (ref_at HB_out hx)) (cmpc (h1 := H1) (h2 := H1) rfl rfl (es _ _ _)) rfl) (binc (x := .int (v x : Nat)) (y := .bl (decide (x = goal))) (h1 := H1) (h2 := H1) (idxc (h1 := H1) (h2 := H1) rfl rfl (rwT_at hx)) (cmpc (h1 := H1) (h2 := H1) rfl rfl (es _ _ _)) rfl) ?_
  have fl := R0.flow x hx
  have b2 : ∀ p : Prop, [Decidable p] → b2i (decide p) = ((if p then 1 else 0 : Nat) : Int) := fun p _ => by
    by_cases q : p
    · rw [decide_eq_true q, if_pos q]; rfl
    · rw [decide_eq_false q, if_neg q]; rfl
  rw [ne_in, b2, b2, beq_iff_eq.mpr (by omega)]
  rfl
theorem plain : ∀ ns : List Int, ns.length ≤ 63 → ∃ h', MP.callF fns K46.G WF 70 i_law [.frz (ns.map .int)] [] = .ok (.bl true) h' := by
  intro ns hl
  obtain ⟨n, ts, h, cells, r, start, goal, F, n7, hs, hg, hr, B, qA⟩ := partA hl
  obtain ⟨v, L, T, R0, vb, qB⟩ := partB (sc := .frz (ns.map .int)) F n7 hs hg hr B
  obtain ⟨h2, qC⟩ := partC (h := h) (sc := .frz (ns.map .int)) (told := .tup [tupD n (nw ts r v), tupD n (vi v)]) F hg R0 hr vb
  refine ⟨[], ?_⟩
  rw [call_eq (show fns[i_law]? = some d_law from rfl) rfl]
  have eb : eS (callF fns K46.G WF 69) K46.G WF d_law.body ([D.frz (ns.map .int)] ++ List.replicate (d_law.ns - d_law.np) .und) [] = .ok (.ret (.bl true)) h2 := qA.trans (qB.trans qC)
  show back 0 (eS (callF fns K46.G WF 69) K46.G WF d_law.body ([D.frz (ns.map .int)] ++ List.replicate (d_law.ns - d_law.np) .und) []) = _
  rw [eb]
  rfl
end
end K46
set_option maxHeartbeats 0
namespace K46
open PySem PySem.Spec PyProof.Rows L2 PySem.W
def top (i : Nat) : Stmt := PySem.Challenge.pw_evenflow_k46_rotors_lead.main.body.getD i (.Pass ⟨0, 0, 0, 0⟩)
def tb : MPS.Tb := ⟨["is_number", "common", "is_fraction", "is_below", "is_tie", "is_net", "check_net", "check_point", "is_plain", "lots", "parts_of", "ends_of", "check_points", "check_right", "check_rotors", "other_end", "lead", "led", "_law_box", "_law_take", "_law_plain", "_law_ends", "_law_go", "_law_lead", "_law_rotors"], ["MOST_POINTS", "MOST_TIES", "ONE"], ["FlowError", "BadNet", "NotSo"], ["isinstance", "int", "bool", "tuple", "list", "len", "abs", "range", "enumerate", "zip", "min", "max", "sorted", "all", "set", "repr"], [(0, 0), (1, 0), (1, 1), (2, 0), (2, 2)], []⟩
theorem c_is_number : MPS.defB tb ["x"] ["x"] d_is_number (top 5) false = true := by decide +kernel
theorem c_common : MPS.defB tb ["a", "b"] ["a", "b"] d_common (top 6) false = true := by decide +kernel
theorem c_is_fraction : MPS.defB tb ["x"] ["x"] d_is_fraction (top 7) false = true := by decide +kernel
theorem c_is_below : MPS.defB tb ["n", "x"] ["n", "x"] d_is_below (top 12) false = true := by decide +kernel
theorem c_is_tie : MPS.defB tb ["n", "x"] ["n", "x"] d_is_tie (top 13) false = true := by decide +kernel
theorem c_is_net : MPS.defB tb ["x", "tie"] ["x"] d_is_net (top 14) false = true := by decide +kernel
theorem c_check_net : MPS.defB tb ["x"] ["x"] d_check_net (top 15) false = true := by decide +kernel
theorem c_check_point : MPS.defB tb ["net", "x"] ["net", "x"] d_check_point (top 16) false = true := by decide +kernel
theorem c_is_plain : MPS.defB tb ["net", "tie"] ["net"] d_is_plain (top 17) false = true := by decide +kernel
theorem c_lots : MPS.defB tb ["n", "pairs", "name", "a", "b", "one", "other", "lot", "x"] ["n", "pairs"] d_lots (top 18) false = true := by decide +kernel
theorem c_parts_of : MPS.defB tb ["net", "tie"] ["net"] d_parts_of (top 19) false = true := by decide +kernel
theorem c_ends_of : MPS.defB tb ["net", "out", "k", "_x", "a", "b", "_c"] ["net"] d_ends_of (top 21) false = true := by decide +kernel
theorem c_check_points : MPS.defB tb ["net", "points", "x"] ["net", "points"] d_check_points (top 22) false = true := by decide +kernel
theorem c_check_right : MPS.defB tb ["net"] ["net"] d_check_right (top 23) false = true := by decide +kernel
theorem c_check_rotors : MPS.defB tb ["net", "rotors", "x", "ends"] ["net", "rotors"] d_check_rotors (top 24) false = true := by decide +kernel
theorem c_other_end : MPS.defB tb ["net", "k", "x", "a", "b", "_c"] ["net", "k", "x"] d_other_end (top 25) false = true := by decide +kernel
theorem c_lead : MPS.defB tb ["net", "rotors", "start", "goal", "ends", "now", "visits", "x"] ["net", "rotors", "start", "goal"] d_lead (top 26) false = true := by decide +kernel
theorem c_led : MPS.defB tb ["net", "rotors", "start", "goal"] ["net", "rotors", "start", "goal"] d_led (top 27) false = true := by decide +kernel
theorem c__law_box : MPS.defB tb ["script", "x"] ["script"] d__law_box (top 29) false = true := by decide +kernel
theorem c__law_take : MPS.defB tb ["box", "m", "at", "cell", "told"] ["box", "m"] d__law_take (top 30) false = true := by decide +kernel
theorem c__law_plain : MPS.defB tb ["box", "most", "more", "n", "ties", "again", "out", "tie", "a", "x"] ["box", "most", "more"] d__law_plain (top 31) false = true := by decide +kernel
theorem c__law_ends : MPS.defB tb ["net", "x", "k"] ["net"] d__law_ends (top 32) false = true := by decide +kernel
theorem c__law_go : MPS.defB tb ["net", "k", "x"] ["net", "k", "x"] d__law_go (top 33) false = true := by decide +kernel
theorem c__law_lead : MPS.defB tb ["net", "rotors", "start", "goal", "ends", "now", "visits", "x"] ["net", "rotors", "start", "goal"] d__law_lead (top 34) false = true := by decide +kernel
theorem c__law_rotors : MPS.defB tb ["box", "net", "row"] ["box", "net"] d__law_rotors (top 35) false = true := by decide +kernel
theorem c_law : MPS.defBR tb ["script", "box", "net", "told", "x", "come", "rotors", "start", "goal", "ends", "y", "turn", "after", "visits"] ["script"] d_law (top 36) = true := by decide +kernel
theorem all_mk (w : World) {K : PySem.W.Frag} {h : Heap} {mg : Str → Option Value} (X : K.In h) (Gn : h.Ns mainGlobals mg)
  {f0 : Addr} {od0 an0 : Option Addr} {sl0 : Array (Option Value)} {oc0 kV0 dc0 pm0 ct0 : Value} {cd0 : Value}
  {f1 : Addr} {od1 an1 : Option Addr} {sl1 : Array (Option Value)} {oc1 kV1 dc1 pm1 ct1 : Value} {cd1 : Value}
  {f2 : Addr} {od2 an2 : Option Addr} {sl2 : Array (Option Value)} {oc2 kV2 dc2 pm2 ct2 : Value} {cd2 : Value}
  {f3 : Addr} {od3 an3 : Option Addr} {sl3 : Array (Option Value)} {oc3 kV3 dc3 pm3 ct3 : Value} {cd3 : Value}
  {f4 : Addr} {od4 an4 : Option Addr} {sl4 : Array (Option Value)} {oc4 kV4 dc4 pm4 ct4 : Value} {cd4 : Value}
  {f5 : Addr} {od5 an5 : Option Addr} {sl5 : Array (Option Value)} {oc5 kV5 dc5 pm5 ct5 : Value} {cd5 : Value}
  {f6 : Addr} {od6 an6 : Option Addr} {sl6 : Array (Option Value)} {oc6 kV6 dc6 pm6 ct6 : Value} {cd6 : Value}
  {f7 : Addr} {od7 an7 : Option Addr} {sl7 : Array (Option Value)} {oc7 kV7 dc7 pm7 ct7 : Value} {cd7 : Value}
  {f8 : Addr} {od8 an8 : Option Addr} {sl8 : Array (Option Value)} {oc8 kV8 dc8 pm8 ct8 : Value} {cd8 : Value}
  {f9 : Addr} {od9 an9 : Option Addr} {sl9 : Array (Option Value)} {oc9 kV9 dc9 pm9 ct9 : Value} {cd9 : Value}
  {f10 : Addr} {od10 an10 : Option Addr} {sl10 : Array (Option Value)} {oc10 kV10 dc10 pm10 ct10 : Value} {cd10 : Value}
  {f11 : Addr} {od11 an11 : Option Addr} {sl11 : Array (Option Value)} {oc11 kV11 dc11 pm11 ct11 : Value} {cd11 : Value}
  {f12 : Addr} {od12 an12 : Option Addr} {sl12 : Array (Option Value)} {oc12 kV12 dc12 pm12 ct12 : Value} {cd12 : Value}
  {f13 : Addr} {od13 an13 : Option Addr} {sl13 : Array (Option Value)} {oc13 kV13 dc13 pm13 ct13 : Value} {cd13 : Value}
  {f14 : Addr} {od14 an14 : Option Addr} {sl14 : Array (Option Value)} {oc14 kV14 dc14 pm14 ct14 : Value} {cd14 : Value}
  {f15 : Addr} {od15 an15 : Option Addr} {sl15 : Array (Option Value)} {oc15 kV15 dc15 pm15 ct15 : Value} {cd15 : Value}
  {f16 : Addr} {od16 an16 : Option Addr} {sl16 : Array (Option Value)} {oc16 kV16 dc16 pm16 ct16 : Value} {cd16 : Value}
  {f17 : Addr} {od17 an17 : Option Addr} {sl17 : Array (Option Value)} {oc17 kV17 dc17 pm17 ct17 : Value} {cd17 : Value}
  {f18 : Addr} {od18 an18 : Option Addr} {sl18 : Array (Option Value)} {oc18 kV18 dc18 pm18 ct18 : Value} {cd18 : Value}
  {f19 : Addr} {od19 an19 : Option Addr} {sl19 : Array (Option Value)} {oc19 kV19 dc19 pm19 ct19 : Value} {cd19 : Value}
  {f20 : Addr} {od20 an20 : Option Addr} {sl20 : Array (Option Value)} {oc20 kV20 dc20 pm20 ct20 : Value} {cd20 : Value}
  {f21 : Addr} {od21 an21 : Option Addr} {sl21 : Array (Option Value)} {oc21 kV21 dc21 pm21 ct21 : Value} {cd21 : Value}
  {f22 : Addr} {od22 an22 : Option Addr} {sl22 : Array (Option Value)} {oc22 kV22 dc22 pm22 ct22 : Value} {cd22 : Value}
  {f23 : Addr} {od23 an23 : Option Addr} {sl23 : Array (Option Value)} {oc23 kV23 dc23 pm23 ct23 : Value} {cd23 : Value}
  {f24 : Addr} {od24 an24 : Option Addr} {sl24 : Array (Option Value)} {oc24 kV24 dc24 pm24 ct24 : Value} {cd24 : Value}
  {f25 : Addr} {od25 an25 : Option Addr} {sl25 : Array (Option Value)} {oc25 kV25 dc25 pm25 ct25 : Value} {cd25 : Value}
  {t0 : Tok}
  {t1 : Tok}
  {ga2 : Addr} {go2 : Option Addr} {gt2 gu2 : Tok} {gn2 : Nat} {gs2 : Array (Option Value)}
  {C0 : Addr}
  {C1 : Addr}
  {C2 : Addr}
  (a0 : PySem.W.nsIn K mainGlobals "is_number" = some (some (.ref f0))) (l0 : K.lookup f0 = some ⟨oc0, od0, .func (PySem.W.fnOf "is_number" "is_number" (defArgs (top 5)) (defBody (top 5)) (defScope (top 5)) .none kV0 dc0 pm0 an0 cd0 ct0), sl0⟩) (c0 : PySem.W.codeIn K cd0 "is_number" = true) (k0 : PySem.W.keepIn K (.ref f0) = true)
  (a1 : PySem.W.nsIn K mainGlobals "common" = some (some (.ref f1))) (l1 : K.lookup f1 = some ⟨oc1, od1, .func (PySem.W.fnOf "common" "common" (defArgs (top 6)) (defBody (top 6)) (defScope (top 6)) .none kV1 dc1 pm1 an1 cd1 ct1), sl1⟩) (c1 : PySem.W.codeIn K cd1 "common" = true) (k1 : PySem.W.keepIn K (.ref f1) = true)
  (a2 : PySem.W.nsIn K mainGlobals "is_fraction" = some (some (.ref f2))) (l2 : K.lookup f2 = some ⟨oc2, od2, .func (PySem.W.fnOf "is_fraction" "is_fraction" (defArgs (top 7)) (defBody (top 7)) (defScope (top 7)) .none kV2 dc2 pm2 an2 cd2 ct2), sl2⟩) (c2 : PySem.W.codeIn K cd2 "is_fraction" = true) (k2 : PySem.W.keepIn K (.ref f2) = true)
  (a3 : PySem.W.nsIn K mainGlobals "is_below" = some (some (.ref f3))) (l3 : K.lookup f3 = some ⟨oc3, od3, .func (PySem.W.fnOf "is_below" "is_below" (defArgs (top 12)) (defBody (top 12)) (defScope (top 12)) .none kV3 dc3 pm3 an3 cd3 ct3), sl3⟩) (c3 : PySem.W.codeIn K cd3 "is_below" = true) (k3 : PySem.W.keepIn K (.ref f3) = true)
  (a4 : PySem.W.nsIn K mainGlobals "is_tie" = some (some (.ref f4))) (l4 : K.lookup f4 = some ⟨oc4, od4, .func (PySem.W.fnOf "is_tie" "is_tie" (defArgs (top 13)) (defBody (top 13)) (defScope (top 13)) .none kV4 dc4 pm4 an4 cd4 ct4), sl4⟩) (c4 : PySem.W.codeIn K cd4 "is_tie" = true) (k4 : PySem.W.keepIn K (.ref f4) = true)
  (a5 : PySem.W.nsIn K mainGlobals "is_net" = some (some (.ref f5))) (l5 : K.lookup f5 = some ⟨oc5, od5, .func (PySem.W.fnOf "is_net" "is_net" (defArgs (top 14)) (defBody (top 14)) (defScope (top 14)) .none kV5 dc5 pm5 an5 cd5 ct5), sl5⟩) (c5 : PySem.W.codeIn K cd5 "is_net" = true) (k5 : PySem.W.keepIn K (.ref f5) = true)
  (a6 : PySem.W.nsIn K mainGlobals "check_net" = some (some (.ref f6))) (l6 : K.lookup f6 = some ⟨oc6, od6, .func (PySem.W.fnOf "check_net" "check_net" (defArgs (top 15)) (defBody (top 15)) (defScope (top 15)) .none kV6 dc6 pm6 an6 cd6 ct6), sl6⟩) (c6 : PySem.W.codeIn K cd6 "check_net" = true) (k6 : PySem.W.keepIn K (.ref f6) = true)
  (a7 : PySem.W.nsIn K mainGlobals "check_point" = some (some (.ref f7))) (l7 : K.lookup f7 = some ⟨oc7, od7, .func (PySem.W.fnOf "check_point" "check_point" (defArgs (top 16)) (defBody (top 16)) (defScope (top 16)) .none kV7 dc7 pm7 an7 cd7 ct7), sl7⟩) (c7 : PySem.W.codeIn K cd7 "check_point" = true) (k7 : PySem.W.keepIn K (.ref f7) = true)
  (a8 : PySem.W.nsIn K mainGlobals "is_plain" = some (some (.ref f8))) (l8 : K.lookup f8 = some ⟨oc8, od8, .func (PySem.W.fnOf "is_plain" "is_plain" (defArgs (top 17)) (defBody (top 17)) (defScope (top 17)) .none kV8 dc8 pm8 an8 cd8 ct8), sl8⟩) (c8 : PySem.W.codeIn K cd8 "is_plain" = true) (k8 : PySem.W.keepIn K (.ref f8) = true)
  (a9 : PySem.W.nsIn K mainGlobals "lots" = some (some (.ref f9))) (l9 : K.lookup f9 = some ⟨oc9, od9, .func (PySem.W.fnOf "lots" "lots" (defArgs (top 18)) (defBody (top 18)) (defScope (top 18)) .none kV9 dc9 pm9 an9 cd9 ct9), sl9⟩) (c9 : PySem.W.codeIn K cd9 "lots" = true) (k9 : PySem.W.keepIn K (.ref f9) = true)
  (a10 : PySem.W.nsIn K mainGlobals "parts_of" = some (some (.ref f10))) (l10 : K.lookup f10 = some ⟨oc10, od10, .func (PySem.W.fnOf "parts_of" "parts_of" (defArgs (top 19)) (defBody (top 19)) (defScope (top 19)) .none kV10 dc10 pm10 an10 cd10 ct10), sl10⟩) (c10 : PySem.W.codeIn K cd10 "parts_of" = true) (k10 : PySem.W.keepIn K (.ref f10) = true)
  (a11 : PySem.W.nsIn K mainGlobals "ends_of" = some (some (.ref f11))) (l11 : K.lookup f11 = some ⟨oc11, od11, .func (PySem.W.fnOf "ends_of" "ends_of" (defArgs (top 21)) (defBody (top 21)) (defScope (top 21)) .none kV11 dc11 pm11 an11 cd11 ct11), sl11⟩) (c11 : PySem.W.codeIn K cd11 "ends_of" = true) (k11 : PySem.W.keepIn K (.ref f11) = true)
  (a12 : PySem.W.nsIn K mainGlobals "check_points" = some (some (.ref f12))) (l12 : K.lookup f12 = some ⟨oc12, od12, .func (PySem.W.fnOf "check_points" "check_points" (defArgs (top 22)) (defBody (top 22)) (defScope (top 22)) .none kV12 dc12 pm12 an12 cd12 ct12), sl12⟩) (c12 : PySem.W.codeIn K cd12 "check_points" = true) (k12 : PySem.W.keepIn K (.ref f12) = true)
  (a13 : PySem.W.nsIn K mainGlobals "check_right" = some (some (.ref f13))) (l13 : K.lookup f13 = some ⟨oc13, od13, .func (PySem.W.fnOf "check_right" "check_right" (defArgs (top 23)) (defBody (top 23)) (defScope (top 23)) .none kV13 dc13 pm13 an13 cd13 ct13), sl13⟩) (c13 : PySem.W.codeIn K cd13 "check_right" = true) (k13 : PySem.W.keepIn K (.ref f13) = true)
  (a14 : PySem.W.nsIn K mainGlobals "check_rotors" = some (some (.ref f14))) (l14 : K.lookup f14 = some ⟨oc14, od14, .func (PySem.W.fnOf "check_rotors" "check_rotors" (defArgs (top 24)) (defBody (top 24)) (defScope (top 24)) .none kV14 dc14 pm14 an14 cd14 ct14), sl14⟩) (c14 : PySem.W.codeIn K cd14 "check_rotors" = true) (k14 : PySem.W.keepIn K (.ref f14) = true)
  (a15 : PySem.W.nsIn K mainGlobals "other_end" = some (some (.ref f15))) (l15 : K.lookup f15 = some ⟨oc15, od15, .func (PySem.W.fnOf "other_end" "other_end" (defArgs (top 25)) (defBody (top 25)) (defScope (top 25)) .none kV15 dc15 pm15 an15 cd15 ct15), sl15⟩) (c15 : PySem.W.codeIn K cd15 "other_end" = true) (k15 : PySem.W.keepIn K (.ref f15) = true)
  (a16 : PySem.W.nsIn K mainGlobals "lead" = some (some (.ref f16))) (l16 : K.lookup f16 = some ⟨oc16, od16, .func (PySem.W.fnOf "lead" "lead" (defArgs (top 26)) (defBody (top 26)) (defScope (top 26)) .none kV16 dc16 pm16 an16 cd16 ct16), sl16⟩) (c16 : PySem.W.codeIn K cd16 "lead" = true) (k16 : PySem.W.keepIn K (.ref f16) = true)
  (a17 : PySem.W.nsIn K mainGlobals "led" = some (some (.ref f17))) (l17 : K.lookup f17 = some ⟨oc17, od17, .func (PySem.W.fnOf "led" "led" (defArgs (top 27)) (defBody (top 27)) (defScope (top 27)) .none kV17 dc17 pm17 an17 cd17 ct17), sl17⟩) (c17 : PySem.W.codeIn K cd17 "led" = true) (k17 : PySem.W.keepIn K (.ref f17) = true)
  (a18 : PySem.W.nsIn K mainGlobals "_law_box" = some (some (.ref f18))) (l18 : K.lookup f18 = some ⟨oc18, od18, .func (PySem.W.fnOf "_law_box" "_law_box" (defArgs (top 29)) (defBody (top 29)) (defScope (top 29)) .none kV18 dc18 pm18 an18 cd18 ct18), sl18⟩) (c18 : PySem.W.codeIn K cd18 "_law_box" = true) (k18 : PySem.W.keepIn K (.ref f18) = true)
  (a19 : PySem.W.nsIn K mainGlobals "_law_take" = some (some (.ref f19))) (l19 : K.lookup f19 = some ⟨oc19, od19, .func (PySem.W.fnOf "_law_take" "_law_take" (defArgs (top 30)) (defBody (top 30)) (defScope (top 30)) .none kV19 dc19 pm19 an19 cd19 ct19), sl19⟩) (c19 : PySem.W.codeIn K cd19 "_law_take" = true) (k19 : PySem.W.keepIn K (.ref f19) = true)
  (a20 : PySem.W.nsIn K mainGlobals "_law_plain" = some (some (.ref f20))) (l20 : K.lookup f20 = some ⟨oc20, od20, .func (PySem.W.fnOf "_law_plain" "_law_plain" (defArgs (top 31)) (defBody (top 31)) (defScope (top 31)) .none kV20 dc20 pm20 an20 cd20 ct20), sl20⟩) (c20 : PySem.W.codeIn K cd20 "_law_plain" = true) (k20 : PySem.W.keepIn K (.ref f20) = true)
  (a21 : PySem.W.nsIn K mainGlobals "_law_ends" = some (some (.ref f21))) (l21 : K.lookup f21 = some ⟨oc21, od21, .func (PySem.W.fnOf "_law_ends" "_law_ends" (defArgs (top 32)) (defBody (top 32)) (defScope (top 32)) .none kV21 dc21 pm21 an21 cd21 ct21), sl21⟩) (c21 : PySem.W.codeIn K cd21 "_law_ends" = true) (k21 : PySem.W.keepIn K (.ref f21) = true)
  (a22 : PySem.W.nsIn K mainGlobals "_law_go" = some (some (.ref f22))) (l22 : K.lookup f22 = some ⟨oc22, od22, .func (PySem.W.fnOf "_law_go" "_law_go" (defArgs (top 33)) (defBody (top 33)) (defScope (top 33)) .none kV22 dc22 pm22 an22 cd22 ct22), sl22⟩) (c22 : PySem.W.codeIn K cd22 "_law_go" = true) (k22 : PySem.W.keepIn K (.ref f22) = true)
  (a23 : PySem.W.nsIn K mainGlobals "_law_lead" = some (some (.ref f23))) (l23 : K.lookup f23 = some ⟨oc23, od23, .func (PySem.W.fnOf "_law_lead" "_law_lead" (defArgs (top 34)) (defBody (top 34)) (defScope (top 34)) .none kV23 dc23 pm23 an23 cd23 ct23), sl23⟩) (c23 : PySem.W.codeIn K cd23 "_law_lead" = true) (k23 : PySem.W.keepIn K (.ref f23) = true)
  (a24 : PySem.W.nsIn K mainGlobals "_law_rotors" = some (some (.ref f24))) (l24 : K.lookup f24 = some ⟨oc24, od24, .func (PySem.W.fnOf "_law_rotors" "_law_rotors" (defArgs (top 35)) (defBody (top 35)) (defScope (top 35)) .none kV24 dc24 pm24 an24 cd24 ct24), sl24⟩) (c24 : PySem.W.codeIn K cd24 "_law_rotors" = true) (k24 : PySem.W.keepIn K (.ref f24) = true)
  (a25 : PySem.W.nsIn K mainGlobals "law" = some (some (.ref f25))) (l25 : K.lookup f25 = some ⟨oc25, od25, .func (PySem.W.fnOf "law" "law" (defArgs (top 36)) (defBody (top 36)) (defScope (top 36)) .none kV25 dc25 pm25 an25 cd25 ct25), sl25⟩) (c25 : PySem.W.codeIn K cd25 "law" = true) (k25 : PySem.W.keepIn K (.ref f25) = true)
  (g0 : PySem.W.nsIn K mainGlobals "MOST_POINTS" = some (some (.int 12 t0)))
  (g1 : PySem.W.nsIn K mainGlobals "MOST_TIES" = some (some (.int 30 t1)))
  (g2 : PySem.W.nsIn K mainGlobals "ONE" = some (some (.ref ga2))) (h2 : K.lookup ga2 = some ⟨.type "tuple", go2, .seq #[.int 1 gt2, .int 1 gu2] gn2, gs2⟩)
  (z0 : PySem.W.nsIn K mainGlobals "isinstance" = some none)
  (z1 : PySem.W.nsIn K mainGlobals "int" = some none)
  (z2 : PySem.W.nsIn K mainGlobals "bool" = some none)
  (z3 : PySem.W.nsIn K mainGlobals "tuple" = some none)
  (z4 : PySem.W.nsIn K mainGlobals "list" = some none)
  (z5 : PySem.W.nsIn K mainGlobals "len" = some none)
  (z6 : PySem.W.nsIn K mainGlobals "abs" = some none)
  (z7 : PySem.W.nsIn K mainGlobals "range" = some none)
  (z8 : PySem.W.nsIn K mainGlobals "enumerate" = some none)
  (z9 : PySem.W.nsIn K mainGlobals "zip" = some none)
  (z10 : PySem.W.nsIn K mainGlobals "min" = some none)
  (z11 : PySem.W.nsIn K mainGlobals "max" = some none)
  (z12 : PySem.W.nsIn K mainGlobals "sorted" = some none)
  (z13 : PySem.W.nsIn K mainGlobals "all" = some none)
  (z14 : PySem.W.nsIn K mainGlobals "set" = some none)
  (z15 : PySem.W.nsIn K mainGlobals "repr" = some none)
  (ea0 : PySem.W.nsIn K mainGlobals "FlowError" = some (some (.ref C0))) (ek0 : PySem.W.keepIn K (.ref C0) = true) (ex0 : PySem.W.excIn K C0 [.type "ValueError", .type "Exception", .type "BaseException", .type "object"] "ValueError.__new__" = true) (eb0 : PySem.W.subIn K (.ref C0) (.type "BaseException") = some true) (et0 : PySem.W.typeIn K (.ref C0) = some (.type "type")) (ei0 : PySem.W.isClsIn K C0 = true)
  (ea1 : PySem.W.nsIn K mainGlobals "BadNet" = some (some (.ref C1))) (ek1 : PySem.W.keepIn K (.ref C1) = true) (ex1 : PySem.W.excIn K C1 [.type "ValueError", .type "Exception", .type "BaseException", .type "object"] "ValueError.__new__" = true) (eb1 : PySem.W.subIn K (.ref C1) (.type "BaseException") = some true) (et1 : PySem.W.typeIn K (.ref C1) = some (.type "type")) (ei1 : PySem.W.isClsIn K C1 = true)
  (ea2 : PySem.W.nsIn K mainGlobals "NotSo" = some (some (.ref C2))) (ek2 : PySem.W.keepIn K (.ref C2) = true) (ex2 : PySem.W.excIn K C2 [.type "ValueError", .type "Exception", .type "BaseException", .type "object"] "ValueError.__new__" = true) (eb2 : PySem.W.subIn K (.ref C2) (.type "BaseException") = some true) (et2 : PySem.W.typeIn K (.ref C2) = some (.type "type")) (ei2 : PySem.W.isClsIn K C2 = true)
  (es0_0 : PySem.W.subIn K (.ref C0) (.ref C0) = some true)
  (es0_1 : PySem.W.subIn K (.ref C0) (.ref C1) = some false)
  (es0_2 : PySem.W.subIn K (.ref C0) (.ref C2) = some false)
  (es1_0 : PySem.W.subIn K (.ref C1) (.ref C0) = some true)
  (es1_1 : PySem.W.subIn K (.ref C1) (.ref C1) = some true)
  (es1_2 : PySem.W.subIn K (.ref C1) (.ref C2) = some false)
  (es2_0 : PySem.W.subIn K (.ref C2) (.ref C0) = some true)
  (es2_1 : PySem.W.subIn K (.ref C2) (.ref C1) = some false)
  (es2_2 : PySem.W.subIn K (.ref C2) (.ref C2) = some true) :
  @MPS.TxtR (MPS.tbs0 w) K mg tb fns G [["x"], ["a", "b"], ["x"], ["n", "x"], ["n", "x"], ["x"], ["x"], ["net", "x"], ["net"], ["n", "pairs"], ["net"], ["net"], ["net", "points"], ["net"], ["net", "rotors"], ["net", "k", "x"], ["net", "rotors", "start", "goal"], ["net", "rotors", "start", "goal"], ["script"], ["box", "m"], ["box", "most", "more"], ["net"], ["net", "k", "x"], ["net", "rotors", "start", "goal"], ["box", "net"]] [C0, C1, C2] "law" d_law "script" := by
  letI : MPS.Tbs := MPS.tbs0 w
  exact ⟨MPS.txt_of (.cons (MPS.def_mk X Gn a0 l0 c0 k0 c_is_number fun _ _ _ _ _ _ us hl => match us, hl with | [_], _ => rfl)
  (.cons (MPS.def_mk X Gn a1 l1 c1 k1 c_common fun _ _ _ _ _ _ us hl => match us, hl with | [_, _], _ => rfl)
  (.cons (MPS.def_mk X Gn a2 l2 c2 k2 c_is_fraction fun _ _ _ _ _ _ us hl => match us, hl with | [_], _ => rfl)
  (.cons (MPS.def_mk X Gn a3 l3 c3 k3 c_is_below fun _ _ _ _ _ _ us hl => match us, hl with | [_, _], _ => rfl)
  (.cons (MPS.def_mk X Gn a4 l4 c4 k4 c_is_tie fun _ _ _ _ _ _ us hl => match us, hl with | [_, _], _ => rfl)
  (.cons (MPS.def_mk X Gn a5 l5 c5 k5 c_is_net fun _ _ _ _ _ _ us hl => match us, hl with | [_], _ => rfl)
  (.cons (MPS.def_mk X Gn a6 l6 c6 k6 c_check_net fun _ _ _ _ _ _ us hl => match us, hl with | [_], _ => rfl)
  (.cons (MPS.def_mk X Gn a7 l7 c7 k7 c_check_point fun _ _ _ _ _ _ us hl => match us, hl with | [_, _], _ => rfl)
  (.cons (MPS.def_mk X Gn a8 l8 c8 k8 c_is_plain fun _ _ _ _ _ _ us hl => match us, hl with | [_], _ => rfl)
  (.cons (MPS.def_mk X Gn a9 l9 c9 k9 c_lots fun _ _ _ _ _ _ us hl => match us, hl with | [_, _], _ => rfl)
  (.cons (MPS.def_mk X Gn a10 l10 c10 k10 c_parts_of fun _ _ _ _ _ _ us hl => match us, hl with | [_], _ => rfl)
  (.cons (MPS.def_mk X Gn a11 l11 c11 k11 c_ends_of fun _ _ _ _ _ _ us hl => match us, hl with | [_], _ => rfl)
  (.cons (MPS.def_mk X Gn a12 l12 c12 k12 c_check_points fun _ _ _ _ _ _ us hl => match us, hl with | [_, _], _ => rfl)
  (.cons (MPS.def_mk X Gn a13 l13 c13 k13 c_check_right fun _ _ _ _ _ _ us hl => match us, hl with | [_], _ => rfl)
  (.cons (MPS.def_mk X Gn a14 l14 c14 k14 c_check_rotors fun _ _ _ _ _ _ us hl => match us, hl with | [_, _], _ => rfl)
  (.cons (MPS.def_mk X Gn a15 l15 c15 k15 c_other_end fun _ _ _ _ _ _ us hl => match us, hl with | [_, _, _], _ => rfl)
  (.cons (MPS.def_mk X Gn a16 l16 c16 k16 c_lead fun _ _ _ _ _ _ us hl => match us, hl with | [_, _, _, _], _ => rfl)
  (.cons (MPS.def_mk X Gn a17 l17 c17 k17 c_led fun _ _ _ _ _ _ us hl => match us, hl with | [_, _, _, _], _ => rfl)
  (.cons (MPS.def_mk X Gn a18 l18 c18 k18 c__law_box fun _ _ _ _ _ _ us hl => match us, hl with | [_], _ => rfl)
  (.cons (MPS.def_mk X Gn a19 l19 c19 k19 c__law_take fun _ _ _ _ _ _ us hl => match us, hl with | [_, _], _ => rfl)
  (.cons (MPS.def_mk X Gn a20 l20 c20 k20 c__law_plain fun _ _ _ _ _ _ us hl => match us, hl with | [_, _, _], _ => rfl)
  (.cons (MPS.def_mk X Gn a21 l21 c21 k21 c__law_ends fun _ _ _ _ _ _ us hl => match us, hl with | [_], _ => rfl)
  (.cons (MPS.def_mk X Gn a22 l22 c22 k22 c__law_go fun _ _ _ _ _ _ us hl => match us, hl with | [_, _, _], _ => rfl)
  (.cons (MPS.def_mk X Gn a23 l23 c23 k23 c__law_lead fun _ _ _ _ _ _ us hl => match us, hl with | [_, _, _, _], _ => rfl)
  (.cons (MPS.def_mk X Gn a24 l24 c24 k24 c__law_rotors fun _ _ _ _ _ _ us hl => match us, hl with | [_, _], _ => rfl)
  .nil)))))))))))))))))))))))))
  (.cons (MPS.glo_int X Gn g0) (.cons (MPS.glo_int X Gn g1) (.cons (MPS.glo_pair X Gn g2 h2) .nil)))
  (.cons (PySem.W.mg_none_of X Gn z0) (.cons (PySem.W.mg_none_of X Gn z1) (.cons (PySem.W.mg_none_of X Gn z2) (.cons (PySem.W.mg_none_of X Gn z3) (.cons (PySem.W.mg_none_of X Gn z4) (.cons (PySem.W.mg_none_of X Gn z5) (.cons (PySem.W.mg_none_of X Gn z6) (.cons (PySem.W.mg_none_of X Gn z7) (.cons (PySem.W.mg_none_of X Gn z8) (.cons (PySem.W.mg_none_of X Gn z9) (.cons (PySem.W.mg_none_of X Gn z10) (.cons (PySem.W.mg_none_of X Gn z11) (.cons (PySem.W.mg_none_of X Gn z12) (.cons (PySem.W.mg_none_of X Gn z13) (.cons (PySem.W.mg_none_of X Gn z14) (.cons (PySem.W.mg_none_of X Gn z15) .nil))))))))))))))))
  (.cons (MPS.cls_mk X Gn ea0 ek0 ex0 eb0 et0) (.cons (MPS.cls_mk X Gn ea1 ek1 ex1 eb1 et1) (.cons (MPS.cls_mk X Gn ea2 ek2 ex2 eb2 et2) .nil)))
  (by
  intro i j A B e1 e2
  match i, j, e1, e2 with
  | 0, 0, e1, e2 => cases e1; cases e2; exact MPS.exm_mk eb0 ei0 et0 es0_0
  | 0, 1, e1, e2 => cases e1; cases e2; exact MPS.exm_mk eb1 ei1 et1 es0_1
  | 0, 2, e1, e2 => cases e1; cases e2; exact MPS.exm_mk eb2 ei2 et2 es0_2
  | 1, 0, e1, e2 => cases e1; cases e2; exact MPS.exm_mk eb0 ei0 et0 es1_0
  | 1, 1, e1, e2 => cases e1; cases e2; exact MPS.exm_mk eb1 ei1 et1 es1_1
  | 1, 2, e1, e2 => cases e1; cases e2; exact MPS.exm_mk eb2 ei2 et2 es1_2
  | 2, 0, e1, e2 => cases e1; cases e2; exact MPS.exm_mk eb0 ei0 et0 es2_0
  | 2, 1, e1, e2 => cases e1; cases e2; exact MPS.exm_mk eb1 ei1 et1 es2_1
  | 2, 2, e1, e2 => cases e1; cases e2; exact MPS.exm_mk eb2 ei2 et2 es2_2
  | i + 3, _, e1, _ => exact absurd e1 (by simp)
  | _, j + 3, _, e2 => exact absurd e2 (by simp))
  .nil,
  MPS.def_mkR X Gn a25 l25 c25 k25 c_law fun _ _ _ _ _ _ us hl => match us, hl with | [_], _ => rfl⟩
end K46
open PySem PySem.W PyProof.Rows
set_option maxRecDepth 100000 in
set_option maxHeartbeats 0 in
theorem PySem.Challenge.cw_evenflow_k46_rotors_lead_holds : PySem.Challenge.rw_evenflow_k46_rotors_lead.Holds := by
  w_on; o_law; k_head; (case hw => w_witness2)
  k_fill
  refine MPS.walkR (tb := K46.tb) (fns := K46.fns) (G := K46.G) (Wf := 1000000000000000000000000000000) (Kk := 70) (fL := K46.i_law) (l := PySem.Challenge.rw_evenflow_k46_rotors_lead) (pss := [["x"], ["a", "b"], ["x"], ["n", "x"], ["n", "x"], ["x"], ["x"], ["net", "x"], ["net"], ["n", "pairs"], ["net"], ["net"], ["net", "points"], ["net"], ["net", "rotors"], ["net", "k", "x"], ["net", "rotors", "start", "goal"], ["net", "rotors", "start", "goal"], ["script"], ["box", "m"], ["box", "most", "more"], ["net"], ["net", "k", "x"], ["net", "rotors", "start", "goal"], ["box", "net"]]) (p := "script") rfl rfl ⟨rfl, by decide, by decide⟩ (fun w h Y => PySem.W.kIn_of Y) rfl ?F K46.plain
  case F =>
    intro w mg fa h KX G hmg
    refine' ⟨_, K46.all_mk w KX G ?mp_a0 ?mp_l0 ?mp_c0 ?mp_k0 ?mp_a1 ?mp_l1 ?mp_c1 ?mp_k1 ?mp_a2 ?mp_l2 ?mp_c2 ?mp_k2 ?mp_a3 ?mp_l3 ?mp_c3 ?mp_k3 ?mp_a4 ?mp_l4 ?mp_c4 ?mp_k4 ?mp_a5 ?mp_l5 ?mp_c5 ?mp_k5 ?mp_a6 ?mp_l6 ?mp_c6 ?mp_k6 ?mp_a7 ?mp_l7 ?mp_c7 ?mp_k7 ?mp_a8 ?mp_l8 ?mp_c8 ?mp_k8 ?mp_a9 ?mp_l9 ?mp_c9 ?mp_k9 ?mp_a10 ?mp_l10 ?mp_c10 ?mp_k10 ?mp_a11 ?mp_l11 ?mp_c11 ?mp_k11 ?mp_a12 ?mp_l12 ?mp_c12 ?mp_k12 ?mp_a13 ?mp_l13 ?mp_c13 ?mp_k13 ?mp_a14 ?mp_l14 ?mp_c14 ?mp_k14 ?mp_a15 ?mp_l15 ?mp_c15 ?mp_k15 ?mp_a16 ?mp_l16 ?mp_c16 ?mp_k16 ?mp_a17 ?mp_l17 ?mp_c17 ?mp_k17 ?mp_a18 ?mp_l18 ?mp_c18 ?mp_k18 ?mp_a19 ?mp_l19 ?mp_c19 ?mp_k19 ?mp_a20 ?mp_l20 ?mp_c20 ?mp_k20 ?mp_a21 ?mp_l21 ?mp_c21 ?mp_k21 ?mp_a22 ?mp_l22 ?mp_c22 ?mp_k22 ?mp_a23 ?mp_l23 ?mp_c23 ?mp_k23 ?mp_a24 ?mp_l24 ?mp_c24 ?mp_k24 ?mp_a25 ?mp_l25 ?mp_c25 ?mp_k25 ?mp_g0 ?mp_g1 ?mp_g2 ?mp_h2 ?mp_z0 ?mp_z1 ?mp_z2 ?mp_z3 ?mp_z4 ?mp_z5 ?mp_z6 ?mp_z7 ?mp_z8 ?mp_z9 ?mp_z10 ?mp_z11 ?mp_z12 ?mp_z13 ?mp_z14 ?mp_z15 ?mp_ea0 ?mp_ek0 ?mp_ex0 ?mp_eb0 ?mp_et0 ?mp_ei0 ?mp_ea1 ?mp_ek1 ?mp_ex1 ?mp_eb1 ?mp_et1 ?mp_ei1 ?mp_ea2 ?mp_ek2 ?mp_ex2 ?mp_eb2 ?mp_et2 ?mp_ei2 ?mp_es0_0 ?mp_es0_1 ?mp_es0_2 ?mp_es1_0 ?mp_es1_1 ?mp_es1_2 ?mp_es2_0 ?mp_es2_1 ?mp_es2_2⟩
    (case mp_a0 => k_is)
    (case mp_l0 => k_is)
    (case mp_c0 => k_is)
    (case mp_k0 => k_is)
    (case mp_a1 => k_is)
    (case mp_l1 => k_is)
    (case mp_c1 => k_is)
    (case mp_k1 => k_is)
    (case mp_a2 => k_is)
    (case mp_l2 => k_is)
    (case mp_c2 => k_is)
    (case mp_k2 => k_is)
    (case mp_a3 => k_is)
    (case mp_l3 => k_is)
    (case mp_c3 => k_is)
    (case mp_k3 => k_is)
    (case mp_a4 => k_is)
    (case mp_l4 => k_is)
    (case mp_c4 => k_is)
    (case mp_k4 => k_is)
    (case mp_a5 => k_is)
    (case mp_l5 => k_is)
    (case mp_c5 => k_is)
    (case mp_k5 => k_is)
    (case mp_a6 => k_is)
    (case mp_l6 => k_is)
    (case mp_c6 => k_is)
    (case mp_k6 => k_is)
    (case mp_a7 => k_is)
    (case mp_l7 => k_is)
    (case mp_c7 => k_is)
    (case mp_k7 => k_is)
    (case mp_a8 => k_is)
    (case mp_l8 => k_is)
    (case mp_c8 => k_is)
    (case mp_k8 => k_is)
    (case mp_a9 => k_is)
    (case mp_l9 => k_is)
    (case mp_c9 => k_is)
    (case mp_k9 => k_is)
    (case mp_a10 => k_is)
    (case mp_l10 => k_is)
    (case mp_c10 => k_is)
    (case mp_k10 => k_is)
    (case mp_a11 => k_is)
    (case mp_l11 => k_is)
    (case mp_c11 => k_is)
    (case mp_k11 => k_is)
    (case mp_a12 => k_is)
    (case mp_l12 => k_is)
    (case mp_c12 => k_is)
    (case mp_k12 => k_is)
    (case mp_a13 => k_is)
    (case mp_l13 => k_is)
    (case mp_c13 => k_is)
    (case mp_k13 => k_is)
    (case mp_a14 => k_is)
    (case mp_l14 => k_is)
    (case mp_c14 => k_is)
    (case mp_k14 => k_is)
    (case mp_a15 => k_is)
    (case mp_l15 => k_is)
    (case mp_c15 => k_is)
    (case mp_k15 => k_is)
    (case mp_a16 => k_is)
    (case mp_l16 => k_is)
    (case mp_c16 => k_is)
    (case mp_k16 => k_is)
    (case mp_a17 => k_is)
    (case mp_l17 => k_is)
    (case mp_c17 => k_is)
    (case mp_k17 => k_is)
    (case mp_a18 => k_is)
    (case mp_l18 => k_is)
    (case mp_c18 => k_is)
    (case mp_k18 => k_is)
    (case mp_a19 => k_is)
    (case mp_l19 => k_is)
    (case mp_c19 => k_is)
    (case mp_k19 => k_is)
    (case mp_a20 => k_is)
    (case mp_l20 => k_is)
    (case mp_c20 => k_is)
    (case mp_k20 => k_is)
    (case mp_a21 => k_is)
    (case mp_l21 => k_is)
    (case mp_c21 => k_is)
    (case mp_k21 => k_is)
    (case mp_a22 => k_is)
    (case mp_l22 => k_is)
    (case mp_c22 => k_is)
    (case mp_k22 => k_is)
    (case mp_a23 => k_is)
    (case mp_l23 => k_is)
    (case mp_c23 => k_is)
    (case mp_k23 => k_is)
    (case mp_a24 => k_is)
    (case mp_l24 => k_is)
    (case mp_c24 => k_is)
    (case mp_k24 => k_is)
    (case mp_a25 => k_is)
    (case mp_l25 => k_is)
    (case mp_c25 => k_is)
    (case mp_k25 => k_is)
    (case mp_g0 => k_is)
    (case mp_g1 => k_is)
    (case mp_g2 => k_is)
    (case mp_h2 => k_is)
    (case mp_z0 => k_is)
    (case mp_z1 => k_is)
    (case mp_z2 => k_is)
    (case mp_z3 => k_is)
    (case mp_z4 => k_is)
    (case mp_z5 => k_is)
    (case mp_z6 => k_is)
    (case mp_z7 => k_is)
    (case mp_z8 => k_is)
    (case mp_z9 => k_is)
    (case mp_z10 => k_is)
    (case mp_z11 => k_is)
    (case mp_z12 => k_is)
    (case mp_z13 => k_is)
    (case mp_z14 => k_is)
    (case mp_z15 => k_is)
    (case mp_ea0 => k_is)
    (case mp_ek0 => k_is)
    (case mp_ex0 => k_exc)
    (case mp_eb0 => k_is)
    (case mp_et0 => k_is)
    (case mp_ei0 => k_is)
    (case mp_ea1 => k_is)
    (case mp_ek1 => k_is)
    (case mp_ex1 => k_exc)
    (case mp_eb1 => k_is)
    (case mp_et1 => k_is)
    (case mp_ei1 => k_is)
    (case mp_ea2 => k_is)
    (case mp_ek2 => k_is)
    (case mp_ex2 => k_exc)
    (case mp_eb2 => k_is)
    (case mp_et2 => k_is)
    (case mp_ei2 => k_is)
    (case mp_es0_0 => k_is)
    (case mp_es0_1 => k_is)
    (case mp_es0_2 => k_is)
    (case mp_es1_0 => k_is)
    (case mp_es1_1 => k_is)
    (case mp_es1_2 => k_is)
    (case mp_es2_0 => k_is)
    (case mp_es2_1 => k_is)
    (case mp_es2_2 => k_is)
