import PyProof.Rows.All
import Wide.All
import OpenK.AllK
import Wide.FinOn
import PySem.Challenge.RW_solvedplay_k56_turned_standings_and_move
import HandS.ForMost
import HandS.WideBits
import HandS.IsInst
import HandS.TupAny
import HandS.Zip
import HandS.Style
import HandS.Deep
import KE.SortData
import KE.KRevSl
import KE.KIntText
import KE.GoesMore
import KE.KDictZip
import PyProof.Rows.DictListVals
import KE.GoesEnumKw
import HandS.TryOnly
import HandS.EndBits
set_option Elab.async false
set_option linter.all false
section
/-! A small language of its own, in which the defs of the text are said again, and its run, a plain function. -/
namespace SP
open PySem

inductive AV where
  | non | bl (b : Bool) | int (i : Int) | str (s : List Nat) | ty (n : String) | ref (n : Nat)
  | tup (xs : List AV) | lst (xs : List AV) | dcs (ks : List (List Nat)) (vs : List AV)
  deriving Inhabited

inductive Cell where
  | lst (xs : List AV)

abbrev AH := List Cell
abbrev St := List (Option AV)

inductive R (a : Type) where
  | ok (v : a) (h : AH)
  | exc (c : Nat) (w : AV) (h : AH)
  | bad

def R.bind {a b : Type} (r : R a) (k : a → AH → R b) : R b :=
  match r with
  | .ok v h => k v h
  | .exc c w h => .exc c w h
  | .bad => .bad

@[simp] theorem R.bind_ok {a b : Type} (v : a) (h : AH) (k : a → AH → R b) : (R.ok v h).bind k = k v h := rfl
@[simp] theorem R.bind_bad {a b : Type} (k : a → AH → R b) : (R.bad : R a).bind k = .bad := rfl
@[simp] theorem R.bind_exc {a b : Type} (c : Nat) (w : AV) (h : AH) (k : a → AH → R b) : (R.exc c w h : R a).bind k = .exc c w h := rfl

/-- no error comes out of a comprehension -/
def noX {a : Type} (r : R a) : R a := match r with
  | .exc _ _ _ => .bad
  | r => r
@[simp] theorem noX_ok {a : Type} (v : a) (h : AH) : noX (R.ok v h) = .ok v h := rfl
@[simp] theorem noX_bad {a : Type} : noX (R.bad : R a) = .bad := rfl

/-- built-in functions -/
inductive Blt where
  | len | abs | min2 | max2 | int1 | divmod | all | any | sum | sorted | list | tuple | repr | isi | dictzip | dictzips
  deriving DecidableEq
/-- methods of built-in types -/
inductive Mth where
  | append | reverse | join | pop
  deriving DecidableEq

mutual
inductive E where
  | lit (c : AV)
  | var (i : Nat)
  | glob (g : Nat)
  | bty (n : String)
  | bin (op : Operator) (m : Bool) (a b : E)
  | neg (a : E)
  | cmp (op : CmpOp) (a b : E)
  | chain (o1 o2 : CmpOp) (a b c : E)
  | not (a : E)
  | and (a b : E)
  | or (a b : E)
  | ife (c a b : E)
  | tup (es : Es)
  | lst (m : Bool) (es : Es)
  | idx (a i : E)
  | slice (m : Bool) (a : E) (lo hi : Eo)
  | rev (m : Bool) (a : E)
  | call (f : Nat) (es : Es)
  | blt (b : Blt) (m : Bool) (es : Es)
  | mth (b : Mth) (o : E) (es : Es)
  | lc (m : Bool) (own : List Nat) (t : Tg) (it : It) (c : Eo) (elt : E)
  | lc2 (m : Bool) (own : List Nat) (t : Tg) (it : It) (c : Eo) (t1 : Tg) (it1 : It) (c1 : Eo) (elt : E)
inductive Es where
  | nil
  | cons (e : E) (r : Es)
inductive Eo where
  | no
  | yes (e : E)
inductive It where
  | e (e : E)
  | range1 (a : E)
  | range2 (a b : E)
  | enum (e : E)
  | zip2 (a b : E)
inductive Tg where
  | name (i : Nat)
  | tup (ts : Tgs)
  | sub (o i : E)
inductive Tgs where
  | nil
  | cons (t : Tg) (r : Tgs)
end

mutual
inductive S where
  | asg (t : Tg) (e : E)
  | par (ix : List Nat) (es : Es)
  | aug (i : Nat) (op : Operator) (e : E)
  | expr (e : E)
  | ret (e : E)
  | ifs (c : E) (a b : Ss)
  | for_ (t : Tg) (it : It) (body : Ss)
  | while_ (c : E) (body : Ss)
  | pass
  | brk
  | cont
inductive Ss where
  | nil
  | cons (s : S) (r : Ss)
end

mutual
def tgSlots : Tg → List Nat
  | .name i => [i]
  | .tup ts => tgsSlots ts
  | .sub _ _ => []
def tgsSlots : Tgs → List Nat
  | .nil => []
  | .cons t r => tgSlots t ++ tgsSlots r
end

def tgsLen : Tgs → Nat
  | .nil => 0
  | .cons _ r => tgsLen r + 1

/-- how a list is made: a cell, or frozen -/
def mk (m : Bool) (xs : List AV) (h : AH) : R AV := if m then .ok (.ref h.length) (h ++ [.lst xs]) else .ok (.lst xs) h

/-- the items of a list, a tuple -/
def seqOf (h : AH) : AV → Option (List AV)
  | .tup xs => some xs
  | .lst xs => some xs
  | .ref n => match h[n]? with
    | some (.lst xs) => some xs
    | _ => none
  | _ => none

def listOf (h : AH) : AV → Option (List AV)
  | .lst xs => some xs
  | .ref n => match h[n]? with
    | some (.lst xs) => some xs
    | _ => none
  | _ => none

def flatL (f : AV → Option AV) : List AV → Option (List AV)
  | [] => some []
  | x :: r => match f x, flatL f r with
    | some a, some b => some (a :: b)
    | _, _ => none
/-- a thing without cells: what it reads as -/
def flat (h : AH) : Nat → AV → Option AV
  | 0, _ => none
  | k + 1, v => match v with
    | .ref n => match h[n]? with
      | some (.lst xs) => (flatL (flat h k) xs).map .lst
      | _ => none
    | .tup xs => (flatL (flat h k) xs).map .tup
    | .lst xs => (flatL (flat h k) xs).map .lst
    | .non => some .non
    | .bl b => some (.bl b)
    | .int i => some (.int i)
    | .str s => some (.str s)
    | _ => none

def b2i (b : Bool) : Int := if b then 1 else 0

mutual
/-- == of things without cells -/
def eqA : AV → AV → Bool
  | .non, .non => true
  | .bl a, .bl b => a == b
  | .bl a, .int j => b2i a == j
  | .int i, .bl b => i == b2i b
  | .int i, .int j => i == j
  | .str s, .str t => decide (s = t)
  | .tup xs, .tup ys => eqAs xs ys
  | .lst xs, .lst ys => eqAs xs ys
  | _, _ => false
def eqAs : List AV → List AV → Bool
  | [], [] => true
  | x :: xs, y :: ys => eqA x y && eqAs xs ys
  | _, _ => false
end

def bigL : Nat := 1000000
/-- signs of a text -/
def okS (s : List Nat) : Bool := s.all fun c => decide (c < 55296)
def depthL : Nat := 12
def eqD (a b : AV) (h : AH) : Option Bool :=
  match flat h depthL a, flat h depthL b with
  | some x, some y => some (eqA x y)
  | _, _ => none

/-- a place of a sequence of n things -/
def ixA (n : Nat) (i : Int) : Option Nat :=
  if 0 ≤ i then (if i < n then some i.toNat else none) else (if -(n : Int) ≤ i then some (i + n).toNat else none)
/-- a slice's end -/
def sIxA (n : Nat) (d : Nat) : Option Int → Nat
  | none => d
  | some i => if i < 0 then (i + n).toNat else min i.toNat n
def cutA {α : Type} (xs : List α) (lo hi : Option Int) : List α :=
  (xs.drop (sIxA xs.length 0 lo)).take (sIxA xs.length xs.length hi - sIxA xs.length 0 lo)

def binop (op : Operator) (m : Bool) (a b : AV) (h : AH) : R AV :=
  match op, a, b with
  | .Add, .int i, .int j => .ok (.int (i + j)) h
  | .Sub, .int i, .int j => .ok (.int (i - j)) h
  | .Mult, .int i, .int j => if i.natAbs < 2 ^ 64 ∨ j.natAbs < 2 ^ 64 then .ok (.int (i * j)) h else .bad
  | .FloorDiv, .int i, .int j => if 0 < j ∧ j < 1073741824 then .ok (.int (i / j)) h else .bad
  | .Mod, .int i, .int j => if 0 < j then .ok (.int (i % j)) h else .bad
  | .Pow, .int i, .int j => if 0 ≤ j ∧ j ≤ 1000 ∧ i.natAbs < 2 ^ 64 then .ok (.int (i ^ j.toNat)) h else .bad
  | .Add, .str s, .str t => if s.length + t.length ≤ bigL then .ok (.str (s ++ t)) h else .bad
  | .Mult, .str s, .int j => if s.length = 1 ∧ 0 ≤ j ∧ j ≤ bigL then .ok (.str (List.replicate j.toNat s).flatten) h else .bad
  | .Add, .tup xs, .tup ys => if xs.length + ys.length ≤ bigL then .ok (.tup (xs ++ ys)) h else .bad
  | .Mult, .lst xs, .int j => if 0 ≤ j ∧ j ≤ bigL ∧ xs.length * j.toNat ≤ bigL then mk m (List.replicate j.toNat xs).flatten h else .bad
  | .Add, a, b => match listOf h a, listOf h b with
    | some xs, some ys => if xs.length + ys.length ≤ bigL then mk m (xs ++ ys) h else .bad
    | _, _ => .bad
  | _, _, _ => .bad

def flatA : AV → Bool
  | .non => true
  | .bl _ => true
  | .int _ => true
  | .str _ => true
  | _ => false
/-- a in b -/
def inop (a b : AV) (h : AH) : Option Bool :=
  match a, b with
  | .str t, .str s => match t with
    | [c] => some (decide (c ∈ s))
    | _ => none
  | a, .tup xs => if flatA a && xs.all flatA then some (xs.any fun y => eqA y a) else none
  | a, b => match listOf h b with
    | some xs => match flat h depthL a, flatL (flat h depthL) xs with
      | some x, some ys => some (ys.any fun y => eqA y x)
      | _, _ => none
    | none => none

def sumA : List AV → Option Int
  | [] => some 0
  | .int i :: r => (sumA r).map (i + ·)
  | _ :: _ => none
def isNon : AV → Bool
  | .non => true
  | _ => false
def cmpop (op : CmpOp) (a b : AV) (h : AH) : R AV :=
  match op with
  | .Eq => match eqD a b h with
    | some k => .ok (.bl k) h
    | none => .bad
  | .NotEq => match eqD a b h with
    | some k => .ok (.bl (!k)) h
    | none => .bad
  | .Lt => match a, b with
    | .int i, .int j => .ok (.bl (decide (i < j))) h
    | _, _ => .bad
  | .LtE => match a, b with
    | .int i, .int j => .ok (.bl (decide (i ≤ j))) h
    | _, _ => .bad
  | .Gt => match a, b with
    | .int i, .int j => .ok (.bl (decide (j < i))) h
    | _, _ => .bad
  | .GtE => match a, b with
    | .int i, .int j => .ok (.bl (decide (j ≤ i))) h
    | _, _ => .bad
  | .Is => match b with
    | .non => .ok (.bl (isNon a)) h
    | _ => .bad
  | .IsNot => match b with
    | .non => .ok (.bl (!isNon a)) h
    | _ => .bad
  | .In => match inop a b h with
    | some k => .ok (.bl k) h
    | none => .bad
  | .NotIn => match inop a b h with
    | some k => .ok (.bl (!k)) h
    | none => .bad

def lookS (k : List Nat) : List (List Nat) → List AV → Option AV
  | c :: cs, v :: vs => if c = k then some v else lookS k cs vs
  | _, _ => none

def idxop (a i : AV) (h : AH) : R AV :=
  match a, i with
  | .str s, .int i => match (ixA s.length i).bind fun j => s[j]? with
    | some c => .ok (.str [c]) h
    | none => .bad
  | .dcs ks vs, .str k => match lookS k ks vs with
    | some v => .ok v h
    | none => .bad
  | a, .int i => match seqOf h a with
    | some xs => match (ixA xs.length i).bind fun j => xs[j]? with
      | some v => .ok v h
      | none => .bad
    | none => .bad
  | _, _ => .bad

def slop (m : Bool) (a : AV) (lo hi : Option Int) (h : AH) : R AV :=
  match a with
  | .str s => .ok (.str (cutA s lo hi)) h
  | .tup xs => .ok (.tup (cutA xs lo hi)) h
  | a => match listOf h a with
    | some xs => mk m (cutA xs lo hi) h
    | none => .bad

def revop (m : Bool) (a : AV) (h : AH) : R AV :=
  match a with
  | .str s => .ok (.str s.reverse) h
  | a => match listOf h a with
    | some xs => mk m xs.reverse h
    | none => .bad

def bools : List AV → Option (List Bool)
  | [] => some []
  | .bl b :: r => (bools r).map (b :: ·)
  | _ :: _ => none
def textsA : List AV → Option (List (List Nat))
  | [] => some []
  | .str s :: r => (textsA r).map (s :: ·)
  | _ :: _ => none

def typeOf (h : AH) : AV → Option String
  | .non => some "NoneType"
  | .bl _ => some "bool"
  | .int _ => some "int"
  | .str _ => some "str"
  | .tup _ => some "tuple"
  | .lst _ => some "list"
  | .ref n => match h[n]? with
    | some (.lst _) => some "list"
    | _ => none
  | _ => none
def typeNames : List String := ["int", "str", "list", "tuple", "bool"]
def isaT (t n : String) : Bool := t == n || (t == "bool" && n == "int")
def tys : List AV → Option (List String)
  | [] => some []
  | .ty n :: r => (tys r).map (n :: ·)
  | _ :: _ => none

mutual
/-- the order of things of one kind -/
def ltA : AV → AV → Bool
  | .int i, .int j => decide (i < j)
  | .str s, .str t => decide (s < t)
  | .tup xs, .tup ys => ltAs xs ys
  | _, _ => false
def ltAs : List AV → List AV → Bool
  | [], [] => false
  | [], _ :: _ => true
  | _ :: _, [] => false
  | x :: xs, y :: ys => if eqA x y then ltAs xs ys else ltA x y
end

/-- the kind of a thing that may be sorted -/
inductive Kd where
  | i | s | t (ks : List Kd)
mutual
def kdOf : AV → Option Kd
  | .int _ => some .i
  | .str _ => some .s
  | .tup xs => (kdsOf xs).map .t
  | _ => none
def kdsOf : List AV → Option (List Kd)
  | [] => some []
  | x :: r => match kdOf x, kdsOf r with
    | some k, some ks => some (k :: ks)
    | _, _ => none
end
mutual
def Kd.same : Kd → Kd → Bool
  | .i, .i => true
  | .s, .s => true
  | .t ks, .t js => Kd.sames ks js
  | _, _ => false
def Kd.sames : List Kd → List Kd → Bool
  | [], [] => true
  | k :: ks, j :: js => Kd.same k j && Kd.sames ks js
  | _, _ => false
end
def leA (a b : AV) : Bool := !ltA b a
mutual
def Kd.deep : Kd → Nat
  | .i => 0
  | .s => 0
  | .t ks => Kd.deeps ks + 1
def Kd.deeps : List Kd → Nat
  | [] => 0
  | k :: r => max (Kd.deep k) (Kd.deeps r)
end
def Kd.ok : Kd → Bool
  | .t [] => false
  | k => decide (Kd.deep k ≤ 12)
def sortable (xs : List AV) : Bool :=
  match xs with
  | [] => true
  | x :: r => match kdOf x with
    | none => false
    | some k => Kd.ok k && r.all fun y => match kdOf y with
      | some j => Kd.same k j
      | none => false
def sortA (xs : List AV) : List AV := xs.mergeSort leA

def digs (n : Nat) : List Nat := (Nat.toDigits 10 n).map Char.toNat
def showI (i : Int) : List Nat := if i < 0 then 45 :: digs i.natAbs else digs i.natAbs


def plainT (s : List Nat) : Bool := s.all fun c => 32 ≤ c && c < 127 && c != 39 && c != 92
def joinT (sep : List Nat) : List (List Nat) → List Nat
  | [] => []
  | [x] => x
  | x :: y :: r => x ++ sep ++ joinT sep (y :: r)
mutual
/-- the text of a thing without cells -/
def reprA : AV → Option (List Nat)
  | .non => some [78, 111, 110, 101]
  | .bl true => some [84, 114, 117, 101]
  | .bl false => some [70, 97, 108, 115, 101]
  | .int i => if i.natAbs < 10 ^ 100 then some (showI i) else none
  | .str s => if plainT s then some (39 :: s ++ [39]) else none
  | .tup xs => match reprAs xs with
    | none => none
    | some [] => some [40, 41]
    | some [x] => some (40 :: x ++ [44, 41])
    | some ys => some (40 :: joinT [44, 32] ys ++ [41])
  | .lst xs => match reprAs xs with
    | none => none
    | some ys => some (91 :: joinT [44, 32] ys ++ [93])
  | _ => none
def reprAs : List AV → Option (List (List Nat))
  | [] => some []
  | x :: r => match reprA x, reprAs r with
    | some a, some b => some (a :: b)
    | _, _ => none
end

def bltop (b : Blt) (m : Bool) (as : List AV) (h : AH) : R AV :=
  match b, as with
  | .len, [v] => match v with
    | .str s => .ok (.int s.length) h
    | v => match seqOf h v with
      | some xs => .ok (.int xs.length) h
      | none => .bad
  | .abs, [.int i] => .ok (.int (if i < 0 then -i else i)) h
  | .min2, [.int i, .int j] => .ok (.int (if j < i then j else i)) h
  | .max2, [.int i, .int j] => .ok (.int (if j > i then j else i)) h
  | .int1, [.int i] => .ok (.int i) h
  | .int1, [.bl b] => .ok (.int (b2i b)) h
  | .divmod, [.int i, .int j] => if 0 ≤ i ∧ 0 < j ∧ j < 1073741824 then .ok (.tup [.int (i / j), .int (i % j)]) h else .bad
  | .all, [v] => match listOf h v with
    | some xs => match bools xs with
      | some bs => .ok (.bl (bs.all id)) h
      | none => .bad
    | none => .bad
  | .any, [v] => match listOf h v with
    | some xs => match bools xs with
      | some bs => .ok (.bl (bs.any id)) h
      | none => .bad
    | none => .bad
  | .sum, [v] => match listOf h v with
    | some xs => match sumA xs with
      | some i => .ok (.int i) h
      | none => .bad
    | none => .bad
  | .sorted, [v] => match listOf h v with
    | some xs => if sortable xs then mk m (sortA xs) h else .bad
    | none => .bad
  | .list, [v] => match v with
    | .str s => mk m (s.map fun c => .str [c]) h
    | v => match seqOf h v with
      | some xs => mk m xs h
      | none => .bad
  | .tuple, [v] => match seqOf h v with
    | some xs => .ok (.tup xs) h
    | none => .bad
  | .repr, [v] => match flat h depthL v with
    | some d => match reprA d with
      | some t => if t.length ≤ bigL then .ok (.str t) h else .bad
      | none => .bad
    | none => .bad
  | .isi, [v, .ty n] => match typeOf h v with
    | some t => if typeNames.contains n then .ok (.bl (isaT t n)) h else .bad
    | none => .bad
  | .isi, [v, .tup ts] => match typeOf h v, tys ts with
    | some t, some ns => if ns.all typeNames.contains then .ok (.bl (ns.any (isaT t))) h else .bad
    | _, _ => .bad
  | .dictzip, [.str a, .str b] => if a.length = b.length ∧ a.Nodup then .ok (.dcs (a.map fun c => [c]) (b.map fun c => .str [c])) h else .bad
  | .dictzips, [.str a, .str b] => if a.length = b.length ∧ a.Nodup then .ok (.dcs (a.map fun c => [c]) (b.map fun c => .str [c])) h else .bad
  | _, _ => .bad

/-- what has such a method -/
def recvOk (b : Mth) (x : AV) (h : AH) : Bool :=
  match b, x with
  | .join, .str _ => true
  | .append, .ref n => decide (n < h.length)
  | .reverse, .ref n => decide (n < h.length)
  | .pop, .ref n => decide (n < h.length)
  | _, _ => false
def mthop (b : Mth) (o : AV) (as : List AV) (h : AH) : R AV :=
  match b, o, as with
  | .append, .ref n, [v] => match h[n]? with
    | some (.lst xs) => if xs.length < bigL then .ok .non (h.set n (.lst (xs ++ [v]))) else .bad
    | _ => .bad
  | .reverse, .ref n, [] => match h[n]? with
    | some (.lst xs) => .ok .non (h.set n (.lst xs.reverse))
    | _ => .bad
  | .join, .str sep, [v] => match seqOf h v with
    | some xs => match textsA xs with
      | some ts => if (ts.map (·.length)).sum + ts.length * sep.length ≤ bigL then .ok (.str (joinT sep ts)) h else .bad
      | none => .bad
    | none => .bad
  | .pop, .ref n, [.int i] => match h[n]? with
    | some (.lst xs) => match ixA xs.length i with
      | some j => match xs[j]? with
        | some v => .ok v (h.set n (.lst (xs.eraseIdx j)))
        | none => .bad
      | none => .bad
    | _ => .bad
  | _, _, _ => .bad

/-- what is walked: things that stand, or a cell's list as it stands at each turn -/
inductive View where
  | xs (l : List AV)
  | cell (n : Nat)
inductive Src where
  | one (v : View)
  | zip (v w : View)
  | enum (v : View)

def lits (s : List Nat) : List AV := s.map fun c => .str [c]
def rangeA (lo hi : Int) : List AV := (List.range (hi - lo).toNat).map fun i => .int (lo + (i : Nat))
def rangeOk (lo hi : Int) : Bool := decide (-(2 : Int) ^ 61 ≤ lo) && decide (lo ≤ 2 ^ 61) && decide (-(2 : Int) ^ 61 ≤ hi) && decide (hi ≤ 2 ^ 61) && decide (hi - lo ≤ bigL)
/-- a list, frozen or a cell's -/
def viewL (v : AV) (h : AH) : Option View :=
  match v with
  | .lst xs => some (.xs xs)
  | .ref n => match h[n]? with
    | some (.lst _) => some (.cell n)
    | _ => none
  | _ => none
def viewT (v : AV) : Option View :=
  match v with
  | .tup xs => some (.xs xs)
  | _ => none
def viewS (v : AV) : Option View :=
  match v with
  | .str s => some (.xs (lits s))
  | _ => none
def viewOf (v : AV) (h : AH) : Option View :=
  match v with
  | .tup xs => some (.xs xs)
  | .str s => some (.xs (lits s))
  | v => viewL v h
/-- the i-th thing: none where it can't be said, some none behind the last one -/
def View.at (v : View) (i : Nat) (h : AH) : Option (Option AV) :=
  match v with
  | .xs l => some l[i]?
  | .cell n => match h[n]? with
    | some (.lst l) => some l[i]?
    | _ => none
def Src.at (s : Src) (i : Nat) (h : AH) : Option (Option AV) :=
  match s with
  | .one v => v.at i h
  | .zip v w => match v.at i h, w.at i h with
    | some (some x), some (some y) => some (some (.tup [x, y]))
    | some _, some _ => some none
    | _, _ => none
  | .enum v => match v.at i h with
    | some (some x) => some (some (.tup [.int i, x]))
    | some none => some none
    | none => none

inductive Fl where
  | nx | rt (v : AV) | bk | ct

def wipeA (s : St) : List Nat → St
  | [] => s
  | v :: vs => (wipeA s vs).set v none

/-- a comprehension's turns -/
def lcGo (bind : AV → AH → R St) (c : St → AH → R AV) (elt : St → AH → R AV) (src : Src) : Nat → Nat → AH → R (List AV)
  | 0, _, _ => .bad
  | k + 1, i, h => match src.at i h with
    | none => .bad
    | some none => .ok [] h
    | some (some x) => (noX (bind x h)).bind fun s h1 => (noX (c s h1)).bind fun b h2 => match b with
      | .bl true => (noX (elt s h2)).bind fun y h3 => (lcGo bind c elt src k (i + 1) h3).bind fun ys h4 => .ok (y :: ys) h4
      | .bl false => lcGo bind c elt src k (i + 1) h2
      | _ => .bad

/-- turns of a comprehension of two -/
def lc2Go (bind : AV → AH → R St) (c : St → AH → R AV) (inner : St → AH → R (List AV)) (src : Src) : Nat → Nat → AH → R (List AV)
  | 0, _, _ => .bad
  | k + 1, i, h => match src.at i h with
    | none => .bad
    | some none => .ok [] h
    | some (some x) => (noX (bind x h)).bind fun s h1 => (noX (c s h1)).bind fun b h2 => match b with
      | .bl true => (inner s h2).bind fun ys h3 => (lc2Go bind c inner src k (i + 1) h3).bind fun zs h4 => .ok (ys ++ zs) h4
      | .bl false => lc2Go bind c inner src k (i + 1) h2
      | _ => .bad

/-- a loop's turns -/
def forGo (bind : AV → St → AH → R St) (body : St → AH → R (St × Fl)) (src : Src) : Nat → Nat → St → AH → R (St × Fl)
  | 0, _, _, _ => .bad
  | k + 1, i, s, h => match src.at i h with
    | none => .bad
    | some none => .ok (s, .nx) h
    | some (some x) => (bind x s h).bind fun s1 h1 => (body s1 h1).bind fun p h2 => match p.2 with
      | .nx => forGo bind body src k (i + 1) p.1 h2
      | .ct => forGo bind body src k (i + 1) p.1 h2
      | .bk => .ok (p.1, .nx) h2
      | .rt v => .ok (p.1, .rt v) h2
def whileGo (c : St → AH → R AV) (body : St → AH → R (St × Fl)) : Nat → St → AH → R (St × Fl)
  | 0, _, _ => .bad
  | k + 1, s, h => (c s h).bind fun b h1 => match b with
    | .bl true => (body s h1).bind fun p h2 => match p.2 with
      | .nx => whileGo c body k p.1 h2
      | .ct => whileGo c body k p.1 h2
      | .bk => .ok (p.1, .nx) h2
      | .rt v => .ok (p.1, .rt v) h2
    | .bl false => .ok (s, .nx) h1
    | _ => .bad

abbrev CallSem := Nat → List AV → AH → R AV
/-- the defs that may be called, the module's constants -/
structure Ctx where
  call : CallSem
  globs : List AV

def getV (s : St) (i : Nat) (h : AH) : R AV := match s[i]? with
  | some (some v) => .ok v h
  | _ => .bad
def setAt (o i v : AV) (h : AH) : R Unit := match o, i with
  | .ref n, .int i => match h[n]? with
    | some (.lst xs) => match ixA xs.length i with
      | some j => .ok () (h.set n (.lst (xs.set j v)))
      | none => .bad
    | _ => .bad
  | _, _ => .bad
def setAll : List Nat → List AV → St → Option St
  | [], [], s => some s
  | i :: is, v :: vs, s => setAll is vs (s.set i (some v))
  | _, _, _ => none

def loopL : Nat := bigL + 1
/-- turns of each of two -/
def loop2 : Nat := 4000

mutual
def evE (C : Ctx) (s : St) : E → AH → R AV
  | .lit c, h => .ok c h
  | .var i, h => getV s i h
  | .glob g, h => match C.globs[g]? with
    | some v => .ok v h
    | none => .bad
  | .bty n, h => .ok (.ty n) h
  | .bin op m a b, h => (evE C s a h).bind fun x h1 => (evE C s b h1).bind fun y h2 => binop op m x y h2
  | .neg a, h => (evE C s a h).bind fun x h1 => match x with
    | .int i => .ok (.int (-i)) h1
    | _ => .bad
  | .cmp op a b, h => (evE C s a h).bind fun x h1 => (evE C s b h1).bind fun y h2 => cmpop op x y h2
  | .chain o1 o2 a b c, h => (evE C s a h).bind fun x h1 => (evE C s b h1).bind fun y h2 => (cmpop o1 x y h2).bind fun k h3 => match k with
    | .bl true => (evE C s c h3).bind fun z h4 => cmpop o2 y z h4
    | .bl false => .ok (.bl false) h3
    | _ => .bad
  | .not a, h => (evE C s a h).bind fun x h1 => match x with
    | .bl b => .ok (.bl (!b)) h1
    | _ => .bad
  | .and a b, h => (evE C s a h).bind fun x h1 => match x with
    | .bl true => evE C s b h1
    | .bl false => .ok (.bl false) h1
    | _ => .bad
  | .or a b, h => (evE C s a h).bind fun x h1 => match x with
    | .bl true => .ok (.bl true) h1
    | .bl false => evE C s b h1
    | _ => .bad
  | .ife c a b, h => (evE C s c h).bind fun x h1 => match x with
    | .bl true => evE C s a h1
    | .bl false => evE C s b h1
    | _ => .bad
  | .tup es, h => (evA C s es h).bind fun vs h1 => .ok (.tup vs) h1
  | .lst m es, h => (evA C s es h).bind fun vs h1 => mk m vs h1
  | .idx a i, h => (evE C s a h).bind fun x h1 => (evE C s i h1).bind fun y h2 => idxop x y h2
  | .slice m a lo hi, h => (evE C s a h).bind fun x h1 => (evO C s lo h1).bind fun l h2 => (evO C s hi h2).bind fun u h3 => slop m x l u h3
  | .rev m a, h => (evE C s a h).bind fun x h1 => revop m x h1
  | .call f es, h => (evA C s es h).bind fun vs h1 => C.call f vs h1
  | .blt b m es, h => (evA C s es h).bind fun vs h1 => bltop b m vs h1
  | .mth b o es, h => (evE C s o h).bind fun x h1 => if recvOk b x h1 then (evA C s es h1).bind fun vs h2 => mthop b x vs h2 else .bad
  | .lc m own t it c elt, h => (evI C s it h).bind fun src h1 =>
      (lcGo (fun x h => evG C t x (wipeA s own) h) (fun s h => evC C s c h) (fun s h => evE C s elt h) src loopL 0 h1).bind fun ys h2 => mk m ys h2
  | .lc2 m own t it c t1 it1 c1 elt, h => (evI C s it h).bind fun src h1 =>
      (lc2Go (fun x h => evG C t x (wipeA s own) h) (fun s h => evC C s c h) (fun s h => (noX (evI C s it1 h)).bind fun src1 h1 => lcGo (fun x h => evG C t1 x (wipeA s (tgSlots t1)) h) (fun s h => evC C s c1 h) (fun s h => evE C s elt h) src1 loop2 0 h1) src loop2 0 h1).bind fun ys h2 => mk m ys h2
def evA (C : Ctx) (s : St) : Es → AH → R (List AV)
  | .nil, h => .ok [] h
  | .cons e r, h => (evE C s e h).bind fun v h1 => (evA C s r h1).bind fun vs h2 => .ok (v :: vs) h2
/-- a part of a slice -/
def evO (C : Ctx) (s : St) : Eo → AH → R (Option Int)
  | .no, h => .ok none h
  | .yes e, h => (evE C s e h).bind fun v h1 => match v with
    | .int i => .ok (some i) h1
    | _ => .bad
/-- a comprehension's test -/
def evC (C : Ctx) (s : St) : Eo → AH → R AV
  | .no, h => .ok (.bl true) h
  | .yes e, h => evE C s e h
def evI (C : Ctx) (s : St) : It → AH → R Src
  | .e e, h => (evE C s e h).bind fun v h1 => match viewOf v h1 with
    | some w => .ok (.one w) h1
    | none => .bad
  | .range1 a, h => (evE C s a h).bind fun v h1 => match v with
    | .int j => if rangeOk 0 j then .ok (.one (.xs (rangeA 0 j))) h1 else .bad
    | _ => .bad
  | .range2 a b, h => (evE C s a h).bind fun v h1 => (evE C s b h1).bind fun w h2 => match v, w with
    | .int i, .int j => if rangeOk i j then .ok (.one (.xs (rangeA i j))) h2 else .bad
    | _, _ => .bad
  | .enum e, h => (evE C s e h).bind fun v h1 => match viewL v h1 with
    | some w => .ok (.enum w) h1
    | none => match viewS v with
      | some w => .ok (.enum w) h1
      | none => .bad
  | .zip2 a b, h => (evE C s a h).bind fun v h1 => (evE C s b h1).bind fun w h2 => match viewL v h2, viewL w h2 with
    | some x, some y => .ok (.zip x y) h2
    | _, _ => match viewT v, viewT w with
      | some x, some y => .ok (.zip x y) h2
      | _, _ => .bad
def evG (C : Ctx) : Tg → AV → St → AH → R St
  | .name i, v, s, h => .ok (s.set i (some v)) h
  | .tup ts, v, s, h => match seqOf h v with
    | some xs => if xs.length = tgsLen ts then evGs C ts xs s h else .bad
    | none => .bad
  | .sub o i, v, s, h => (evE C s o h).bind fun x h1 => (evE C s i h1).bind fun y h2 => (setAt x y v h2).bind fun _ h3 => .ok s h3
def evGs (C : Ctx) : Tgs → List AV → St → AH → R St
  | .nil, xs, s, h => match xs with
    | [] => .ok s h
    | _ => .bad
  | .cons t r, xs, s, h => match xs with
    | x :: xs => (evG C t x s h).bind fun s1 h1 => evGs C r xs s1 h1
    | [] => .bad
end

mutual
def evS (C : Ctx) : S → St → AH → R (St × Fl)
  | .asg t e, s, h => (evE C s e h).bind fun v h1 => (evG C t v s h1).bind fun s1 h2 => .ok (s1, .nx) h2
  | .par ix es, s, h => (evA C s es h).bind fun vs h1 => match setAll ix vs s with
    | some s1 => .ok (s1, .nx) h1
    | none => .bad
  | .aug i op e, s, h => (getV s i h).bind fun x _ => (evE C s e h).bind fun y h1 => match op, x, y with
    | .Add, .int a, .int b => .ok (s.set i (some (.int (a + b))), .nx) h1
    | .Sub, .int a, .int b => .ok (s.set i (some (.int (a - b))), .nx) h1
    | _, _, _ => .bad
  | .expr e, s, h => (evE C s e h).bind fun _ h1 => .ok (s, .nx) h1
  | .ret e, s, h => (evE C s e h).bind fun v h1 => .ok (s, .rt v) h1
  | .ifs c a b, s, h => (evE C s c h).bind fun x h1 => match x with
    | .bl true => evSs C a s h1
    | .bl false => evSs C b s h1
    | _ => .bad
  | .for_ t it body, s, h => (evI C s it h).bind fun src h1 => forGo (fun x s h => evG C t x s h) (fun s h => evSs C body s h) src loopL 0 s h1
  | .while_ c body, s, h => whileGo (fun s h => evE C s c h) (fun s h => evSs C body s h) loopL s h
  | .pass, s, h => .ok (s, .nx) h
  | .brk, s, h => .ok (s, .bk) h
  | .cont, s, h => .ok (s, .ct) h
def evSs (C : Ctx) : Ss → St → AH → R (St × Fl)
  | .nil, s, h => .ok (s, .nx) h
  | .cons st r, s, h => (evS C st s h).bind fun p h1 => match p.2 with
    | .nx => evSs C r p.1 h1
    | f => .ok (p.1, f) h1
end

mutual
/-- no cell at n or beyond -/
def below (n : Nat) : AV → Bool
  | .ref k => decide (k < n)
  | .tup xs => belows n xs
  | .lst xs => belows n xs
  | .dcs _ vs => belows n vs
  | _ => true
def belows (n : Nat) : List AV → Bool
  | [] => true
  | x :: r => below n x && belows n r
end
def Cell.below (n : Nat) : Cell → Bool
  | .lst xs => belows n xs

structure FnD where
  name : String
  ps : List String
  N : List String
  body : Ss
  gc : Bool

def gcOf (g : Bool) (n : Nat) (v : AV) (h : AH) : R AV :=
  if g then (if SP.below n v && (h.take n).all (Cell.below n) then .ok v (h.take n) else .bad) else .ok v h

def callN (P : List FnD) (G : List AV) : Nat → CallSem
  | 0 => fun _ _ _ => .bad
  | k + 1 => fun f as h => match P[f]? with
    | none => .bad
    | some d => if as.length = d.ps.length then
        (evSs ⟨callN P G k, G⟩ d.body (as.map some ++ List.replicate (d.N.length - as.length) none) h).bind fun p h1 => match p.2 with
          | .rt v => gcOf d.gc h.length v h1
          | .nx => gcOf d.gc h.length .non h1
          | _ => .bad
      else .bad
end SP
end
section
/-! Whether a def of the text is what the small language says. -/
namespace SP
open PySem

structure CC where
  N : List Str
  sc : Scope
  own : Option Scope
  fns : List Str
  globs : List Str

def visB (sc : Scope) (x : Str) : Bool := match sc.names.lookup x with
  | some .local => true
  | some .cell => true
  | some .free => true
  | _ => false
def glB (sc : Scope) (x : Str) : Bool := decide (sc.names.lookup x = some .globalImplicit)
def locB (c : CC) (x : Str) : Bool := match c.sc.names.lookup x with
  | some .local => true
  | some .cell => match c.own with
    | none => true
    | some o => decide (o.names.lookup x = some .cell)
  | _ => false
def dbg (x : Str) : Bool := decide (x ≠ ("__debug__" : Str)) && decide (x ≠ ("__classdict__" : Str)) && decide (x ≠ ("__name__" : Str))

def bltStr : Blt → String
  | .len => "len" | .abs => "abs" | .min2 => "min" | .max2 => "max" | .int1 => "int" | .divmod => "divmod" | .all => "all" | .any => "any"
  | .sum => "sum" | .sorted => "sorted" | .list => "list" | .tuple => "tuple" | .repr => "repr" | .isi => "isinstance" | .dictzip => "dict" | .dictzips => "dict"
def mthStr : Mth → String
  | .append => "append" | .reverse => "reverse" | .join => "join" | .pop => "pop"
def litB : AV → Const → Bool
  | .non, .none => true
  | .bl b, .bool d => b == d
  | .int i, .int j => decide (i = j)
  | .str s, .str x => decide (x = ⟨s.toArray⟩) && decide (s.length ≤ bigL) && okS s
  | _, _ => false
/-- not a call without arguments (super()) -/
def baseB : Expr → Bool
  | .Call _ _ _ _ => false
  | _ => true
def isTup : Expr → Bool
  | .Tuple _ _ _ => true
  | _ => false
def isNil : Es → Bool
  | .nil => true
  | _ => false

def ownOf (N : List Str) (own : List Nat) : List (Str × Nat) := own.map fun i => ((N[i]?).getD ⟨#[]⟩, i)
def CC.blk (c : CC) (scope : Scope) : CC := { c with sc := L2.relS scope c.sc, own := some scope }

mutual
def chkE (c : CC) : E → Expr → Bool
  | .lit v, x => match x with
    | .Constant k _ _ => litB v k
    | _ => false
  | .var i, x => match x with
    | .Name n _ => decide (c.N[i]? = some n) && visB c.sc n && dbg n
    | _ => false
  | .glob g, x => match x with
    | .Name n _ => decide (c.globs[g]? = some n) && glB c.sc n && dbg n
    | _ => false
  | .bty t, x => match x with
    | .Name n _ => decide (n = Str.ofString t) && glB c.sc n && dbg n && typeNames.contains t
    | _ => false
  | .bin op _ a b, x => match x with
    | .BinOp l o r _ => decide (o = op) && chkE c a l && chkE c b r
    | _ => false
  | .neg a, x => match x with
    | .UnaryOp .USub e _ => chkE c a e
    | _ => false
  | .cmp op a b, x => match x with
    | .Compare l [o] [r] _ => decide (o = op) && chkE c a l && chkE c b r
    | _ => false
  | .chain o1 o2 a b d, x => match x with
    | .Compare l [p1, p2] [m, r] _ => decide (p1 = o1) && decide (p2 = o2) && chkE c a l && chkE c b m && chkE c d r
    | _ => false
  | .not a, x => match x with
    | .UnaryOp .Not e _ => chkE c a e
    | _ => false
  | .and a b, x => match x with
    | .BoolOp .And (u :: v :: r) pos => chkE c a u && (match r with
      | [] => chkE c b v
      | w :: q => chkE c b (.BoolOp .And (v :: w :: q) pos))
    | _ => false
  | .or a b, x => match x with
    | .BoolOp .Or (u :: v :: r) pos => chkE c a u && (match r with
      | [] => chkE c b v
      | w :: q => chkE c b (.BoolOp .Or (v :: w :: q) pos))
    | _ => false
  | .ife t a b, x => match x with
    | .IfExp u v w _ => chkE c t u && chkE c a v && chkE c b w
    | _ => false
  | .tup es, x => match x with
    | .Tuple xs _ _ => chkA c es xs && decide (xs.length ≤ 1000)
    | _ => false
  | .lst _ es, x => match x with
    | .List xs _ => chkA c es xs && decide (xs.length ≤ 1000)
    | _ => false
  | .idx a i, x => match x with
    | .Subscript u v _ => chkE c a u && chkE c i v
    | _ => false
  | .slice _ a lo hi, x => match x with
    | .Subscript u (.Slice l h none _) _ => chkE c a u && chkO c lo l && chkO c hi h
    | _ => false
  | .rev _ a, x => match x with
    | .Subscript u (.Slice none none (some (.UnaryOp .USub (.Constant (.int 1) _ _) _)) _) _ => chkE c a u
    | _ => false
  | .call f es, x => match x with
    | .Call (.Name n _) xs [] _ => decide (c.fns[f]? = some n) && glB c.sc n && dbg n && chkA c es xs
    | _ => false
  | .blt b _ es, x => if b = Blt.dictzip then (match x with
      | .Call (.Name n _) [.Call (.Name z _) [u, v] [] _] [] _ => decide (n = Str.ofString "dict") && glB c.sc n && decide (z = Str.ofString "zip") && glB c.sc z && chkA c es [u, v]
      | _ => false) else if b = Blt.dictzips then (match x with
      | .Call (.Name n _) [.Call (.Name z _) [u, v] [⟨some kw, .Constant (.bool true) _ _, _⟩] _] [] _ => decide (n = Str.ofString "dict") && glB c.sc n && decide (z = Str.ofString "zip") && glB c.sc z && decide (kw = Str.ofString "strict") && chkA c es [u, v]
      | _ => false) else (match x with
      | .Call (.Name n _) xs [] _ => decide (n = Str.ofString (bltStr b)) && glB c.sc n && !(isNil es) && chkA c es xs
      | _ => false)
  | .mth b o es, x => match x with
    | .Call (.Attribute u n ap) xs [] cp => decide (n = Str.ofString (mthStr b)) && baseB u && decide (ap.endLine = cp.line) && decide (xs.length < 20) && chkE c o u && chkA c es xs
    | _ => false
  | .lc _ own t it d elt, x => match x with
    | .ListComp el [g] scope _ => decide (g.is_async = 0) && decide (own = tgSlots t) && L2.blkC c.N c.sc scope (ownOf c.N own) && chkI c it g.target g.iter && chkG (c.blk scope) t g.target && chkC (c.blk scope) d g.ifs && chkE (c.blk scope) elt el
    | _ => false
  | .lc2 _ own t it d t1 it1 d1 elt, x => match x with
    | .ListComp el [g, g1] scope _ => decide (g.is_async = 0) && decide (g1.is_async = 0) && decide (own = tgSlots t ++ tgSlots t1) && L2.blkC c.N c.sc scope (ownOf c.N own) && chkI c it g.target g.iter && chkG (c.blk scope) t g.target && chkC (c.blk scope) d g.ifs &&
        chkI (c.blk scope) it1 g1.target g1.iter && chkG (c.blk scope) t1 g1.target && chkC (c.blk scope) d1 g1.ifs && chkE (c.blk scope) elt el
    | _ => false
def chkA (c : CC) : Es → List Expr → Bool
  | .nil, xs => match xs with
    | [] => true
    | _ => false
  | .cons e r, xs => match xs with
    | x :: xs => chkE c e x && chkA c r xs
    | [] => false
def chkO (c : CC) : Eo → Option Expr → Bool
  | .no, x => match x with
    | none => true
    | _ => false
  | .yes e, x => match x with
    | some v => chkE c e v
    | none => false
def chkC (c : CC) : Eo → List Expr → Bool
  | .no, xs => match xs with
    | [] => true
    | _ => false
  | .yes e, xs => match xs with
    | [v] => chkE c e v
    | _ => false
def chkI (c : CC) : It → Expr → Expr → Bool
  | .e e, _, x => chkE c e x
  | .range1 a, _, x => match x with
    | .Call (.Name n _) [u] [] _ => decide (n = Str.ofString "range") && glB c.sc n && chkE c a u
    | _ => false
  | .range2 a b, _, x => match x with
    | .Call (.Name n _) [u, v] [] _ => decide (n = Str.ofString "range") && glB c.sc n && chkE c a u && chkE c b v
    | _ => false
  | .enum e, tg, x => match x with
    | .Call (.Name n _) [u] [] _ => decide (n = Str.ofString "enumerate") && glB c.sc n && isTup tg && chkE c e u
    | _ => false
  | .zip2 a b, tg, x => match x with
    | .Call (.Name n _) [u, v] [] _ => decide (n = Str.ofString "zip") && glB c.sc n && isTup tg && chkE c a u && chkE c b v
    | _ => false
def chkG (c : CC) : Tg → Expr → Bool
  | .name i, x => match x with
    | .Name n _ => decide (c.N[i]? = some n) && locB c n
    | _ => false
  | .tup ts, x => match x with
    | .Tuple xs _ _ => chkGs c ts xs
    | _ => false
  | .sub o i, x => match x with
    | .Subscript u v _ => chkE c o u && chkE c i v
    | _ => false
def chkGs (c : CC) : Tgs → List Expr → Bool
  | .nil, xs => match xs with
    | [] => true
    | _ => false
  | .cons t r, xs => match xs with
    | x :: xs => chkG c t x && chkGs c r xs
    | [] => false
end

/-- is the value of y = [..] put into the name before the block is left? -/
def swapE (c : CC) (n : Str) (np : Pos) : Expr → Bool
  | .ListComp _ _ s p => decide (c.sc.names.lookup n = some .local) && decide (np.line = p.line) && !(s.names.any fun (m, k) => m == n && (k == .local || k == .cell))
  | _ => false
def isLc : Expr → Bool
  | .ListComp _ _ _ _ => true
  | _ => false
/-- names of targets that are locals on one line -/
def locNames (c : CC) (line : Nat) : List Expr → Option (List Str)
  | [] => some []
  | .Name n p :: r => if c.sc.names.lookup n = some .local ∧ p.line = line then (locNames c line r).map (n :: ·) else none
  | _ :: _ => none
def lineOf : List Expr → Nat
  | .Name _ p :: _ => p.line
  | _ => 0
def indexNames (N : List Str) : List Nat → List Str → Bool
  | [], [] => true
  | i :: is, x :: xs => decide (N[i]? = some x) && indexNames N is xs
  | _, _ => false
/-- a target that isn't a plain name -/
def hasSub : List Expr → Bool
  | [] => false
  | .Name _ _ :: r => hasSub r
  | _ :: _ => true
def hasCell (c : CC) : List Expr → Bool
  | [] => false
  | .Name n _ :: r => decide (c.sc.names.lookup n = some .cell) || hasCell c r
  | _ :: r => hasCell c r

mutual
def chkS (c : CC) : S → Stmt → Bool
  | .asg t e, x => match x with
    | .Assign [tg] v _ => chkG c t tg && chkE c e v && (match tg with
        | .Name _ _ => true
        | .Tuple xs _ _ => !(isTup v) || hasSub xs || hasCell c xs
        | _ => true)
    | _ => false
  | .par ix es, x => match x with
    | .Assign [.Tuple ts _ _] (.Tuple vs _ _) _ => (match locNames c (lineOf ts) ts with
        | some ns => indexNames c.N ix ns && decide (ns.Nodup) && decide (ix.Nodup)
        | none => false) && decide (ts.length = 2 ∨ ts.length = 3) && decide (vs.length = ts.length) && !(vs.all (foldedForSure 8)) && !(vs.all (constantsAlone 8)) && chkA c es vs
    | _ => false
  | .aug i op e, x => match x with
    | .AugAssign (.Name n _) o v _ => (decide (o = .Add) || decide (o = .Sub)) && decide (o = op) && decide (c.N[i]? = some n) && locB c n && chkE c e v
    | _ => false
  | .expr e, x => match x with
    | .Expr v _ => chkE c e v && !(isLc v)
    | _ => false
  | .ret e, x => match x with
    | .Return (some v) _ => chkE c e v
    | _ => false
  | .ifs t a b, x => match x with
    | .If u v w _ => chkE c t u && chkSs c a v && chkSs c b w
    | _ => false
  | .for_ t it body, x => match x with
    | .For tg i b [] _ => chkI c it tg i && chkG c t tg && chkSs c body b
    | _ => false
  | .while_ t body, x => match x with
    | .While u b [] _ => chkE c t u && chkSs c body b
    | _ => false
  | .pass, x => match x with
    | .Pass _ => true
    | _ => false
  | .brk, x => match x with
    | .Break _ => true
    | _ => false
  | .cont, x => match x with
    | .Continue _ => true
    | _ => false
def chkSs (c : CC) : Ss → List Stmt → Bool
  | .nil, xs => match xs with
    | [] => true
    | _ => false
  | .cons s r, xs => match xs with
    | x :: xs => chkS c s x && chkSs c r xs
    | [] => false
end
end SP
end
section
set_option maxRecDepth 100000
set_option maxHeartbeats 1000000
/-! The small language's things and the layer's: how they hang together. -/
namespace SP
open PySem PySem.Spec PyProof.Rows L2

abbrev Fg := PySem.W.Frag
/-- a tuple, a list that nobody changes -/
def TupAt (K : Fg) (Z m : List Addr) (H : Hp) (a : Addr) (vs : List V) : Prop :=
  (a ∉ m ∧ a ∉ Z ∧ H a = some (.tup vs)) ∨ (∃ (o : Obj) (q : Array Value) (n : Nat), K.lookup a = some o ∧ o.cls = .type "tuple" ∧ o.data = .seq q n ∧ q.size ≤ sizeLine ∧ Vals vs q.toList)
/-- a list of the module's own -/
def KLst (K : Fg) (a : Addr) (vs : List V) : Prop := ∃ (q : Array Value) (n : Nat), K.lookup a = some { cls := .type "list", data := .seq q n } ∧ q.size ≤ sizeLine ∧ Vals vs q.toList
def LstAt (K : Fg) (Z m : List Addr) (H : Hp) (a : Addr) (vs : List V) : Prop := (a ∉ m ∧ a ∉ Z ∧ Rd H a (.lst vs)) ∨ KLst K a vs

mutual
def Rel (K : Fg) (Z m : List Addr) (H : Hp) : AV → V → Prop
  | .non, v => v = .non
  | .bl b, v => v = .bl b
  | .int i, v => v = .int i
  | .str s, v => v = .str ⟨s.toArray⟩ ∧ s.length ≤ bigL ∧ okS s = true
  | .ty n, v => v = .ty n
  | .ref n, v => ∃ a, v = .ref a ∧ m[n]? = some a
  | .tup xs, v => ∃ a vs, v = .ref a ∧ TupAt K Z m H a vs ∧ RelL K Z m H xs vs
  | .lst xs, v => ∃ a vs, v = .ref a ∧ LstAt K Z m H a vs ∧ RelL K Z m H xs vs
  | .dcs ks ws, v => ∃ a kvs, v = .ref a ∧ (a ∉ m ∧ a ∉ Z ∧ H a = some (.dK kvs)) ∧ kvs.map (·.1) = ks.map (fun k => Sum.inr (Str.mk k.toArray)) ∧ RelL K Z m H ws (kvs.map (·.2))
def RelL (K : Fg) (Z m : List Addr) (H : Hp) : List AV → List V → Prop
  | [], vs => vs = []
  | x :: xs, vs => ∃ v r, vs = v :: r ∧ Rel K Z m H x v ∧ RelL K Z m H xs r
end

def CellRel (K : Fg) (Z m : List Addr) (H : Hp) (a : Addr) : Cell → Prop
  | .lst xs => ∃ vs, H a = some (.lst vs) ∧ RelL K Z m H xs vs

structure SRel (K : Fg) (Z m : List Addr) (h : AH) (H : Hp) : Prop where
  len : m.length = h.length
  nd : m.Nodup
  cell : ∀ (n : Nat) (a : Addr) (c : Cell), m[n]? = some a → h[n]? = some c → CellRel K Z m H a c
  zs : ∀ a ∈ Z, a ∉ m ∧ H a ≠ none

structure Ext (m : List Addr) (H : Hp) (m' : List Addr) (H' : Hp) : Prop where
  app : ∃ r, m' = m ++ r ∧ ∀ a ∈ r, H a = none
  keep : ∀ a o, a ∉ m → H a = some o → H' a = some o
  live : ∀ a ∈ m, H' a ≠ none

theorem SRel.has {K : Fg} {Z m : List Addr} {h : AH} {H : Hp} (S : SRel K Z m h H) {a : Addr} (ha : a ∈ m) : H a ≠ none := by
  obtain ⟨n, hn, e⟩ := List.mem_iff_getElem.mp ha
  have hn' : n < h.length := by rw [← S.len]; exact hn
  have q := S.cell n a (h[n]) (by rw [← e]; exact List.getElem?_eq_getElem hn) (List.getElem?_eq_getElem hn')
  cases hc : h[n] with
  | lst xs =>
    rw [hc] at q
    obtain ⟨vs, e1, _⟩ := q
    rw [e1]
    intro z
    cases z
theorem Ext.refl {K : Fg} {Z m : List Addr} {h : AH} {H : Hp} (S : SRel K Z m h H) : Ext m H m H :=
  ⟨⟨[], (List.append_nil m).symm, fun a z => absurd z (by simp)⟩, fun _ _ _ e => e, fun a ha => S.has ha⟩
theorem Ext.mem {m m' : List Addr} {H H' : Hp} (e : Ext m H m' H') {a : Addr} (ha : a ∈ m) : a ∈ m' := by
  obtain ⟨r, e1, _⟩ := e.app
  rw [e1]
  exact List.mem_append_left _ ha
theorem Ext.notMem {m m' : List Addr} {H H' : Hp} (e : Ext m H m' H') {a : Addr} {o : HO} (ha : a ∉ m) (h : H a = some o) : a ∉ m' := by
  obtain ⟨r, e1, e2⟩ := e.app
  rw [e1]
  intro z
  rcases List.mem_append.mp z with z | z
  · exact ha z
  · rw [e2 a z] at h
    cases h
theorem Ext.back {m m' : List Addr} {H H' : Hp} (e : Ext m H m' H') {a : Addr} (ha : a ∉ m') : a ∉ m := fun z => ha (e.mem z)
theorem Ext.gone {m m' : List Addr} {H H' : Hp} (e : Ext m H m' H') {a : Addr} (h : H' a = none) : H a = none := by
  by_cases ha : a ∈ m
  · exact absurd h (e.live a ha)
  · cases q : H a with
    | none => rfl
    | some o =>
      rw [e.keep a o ha q] at h
      cases h
theorem Ext.trans {m m1 m2 : List Addr} {H H1 H2 : Hp} (a : Ext m H m1 H1) (b : Ext m1 H1 m2 H2) : Ext m H m2 H2 := by
  obtain ⟨r1, e1, n1⟩ := id a.app
  obtain ⟨r2, e2, n2⟩ := id b.app
  refine ⟨⟨r1 ++ r2, by rw [e2, e1, List.append_assoc], fun c hc => ?_⟩, fun c o hc e => ?_, fun c hc => b.live c (a.mem hc)⟩
  · rcases List.mem_append.mp hc with z | z
    · exact n1 c z
    · exact a.gone (n2 c z)
  · exact b.keep c o (a.notMem hc e) (a.keep c o hc e)
theorem Ext.get {m m' : List Addr} {H H' : Hp} (e : Ext m H m' H') {n : Nat} {a : Addr} (h : m[n]? = some a) : m'[n]? = some a := by
  obtain ⟨r, e1, _⟩ := e.app
  rw [e1, List.getElem?_append_left (List.getElem?_eq_some_iff.mp h).1]
  exact h

theorem Rd.ext {m m' : List Addr} {H H' : Hp} (e : Ext m H m' H') {a : Addr} {u : HO} (ha : a ∉ m) (r : Rd H a u) : Rd H' a u ∧ a ∉ m' := by
  rcases r with r | ⟨o, r⟩
  · exact ⟨.inl (e.keep a _ ha r), e.notMem ha r⟩
  · exact ⟨.inr ⟨o, e.keep a _ ha r⟩, e.notMem ha r⟩
theorem TupAt.ext {K : Fg} {Z m m' : List Addr} {H H' : Hp} (e : Ext m H m' H') {a : Addr} {vs : List V} (t : TupAt K Z m H a vs) : TupAt K Z m' H' a vs := by
  rcases t with ⟨h1, h2, h3⟩ | t
  · exact .inl ⟨e.notMem h1 h3, h2, e.keep a _ h1 h3⟩
  · exact .inr t
theorem LstAt.ext {K : Fg} {Z m m' : List Addr} {H H' : Hp} (e : Ext m H m' H') {a : Addr} {vs : List V} (t : LstAt K Z m H a vs) : LstAt K Z m' H' a vs := by
  rcases t with ⟨h1, h2, h3⟩ | t
  · obtain ⟨q1, q2⟩ := Rd.ext e h1 h3
    exact .inl ⟨q2, h2, q1⟩
  · exact .inr t
mutual
theorem Rel.ext {K : Fg} {Z m m' : List Addr} {H H' : Hp} (e : Ext m H m' H') : ∀ (x : AV) (v : V), Rel K Z m H x v → Rel K Z m' H' x v
  | .non, v, r => r
  | .bl _, v, r => r
  | .int _, v, r => r
  | .str _, v, r => r
  | .ty _, v, r => r
  | .ref n, v, r => by
    obtain ⟨a, e1, e2⟩ := r
    exact ⟨a, e1, e.get e2⟩
  | .tup xs, v, r => by
    obtain ⟨a, vs, e1, t, l⟩ := r
    exact ⟨a, vs, e1, t.ext e, RelL.ext e xs vs l⟩
  | .lst xs, v, r => by
    obtain ⟨a, vs, e1, t, l⟩ := r
    exact ⟨a, vs, e1, t.ext e, RelL.ext e xs vs l⟩
  | .dcs ks ws, v, r => by
    obtain ⟨a, kvs, e1, ⟨t1, t2, t3⟩, k, l⟩ := r
    exact ⟨a, kvs, e1, ⟨e.notMem t1 t3, t2, e.keep a _ t1 t3⟩, k, RelL.ext e ws _ l⟩
theorem RelL.ext {K : Fg} {Z m m' : List Addr} {H H' : Hp} (e : Ext m H m' H') : ∀ (xs : List AV) (vs : List V), RelL K Z m H xs vs → RelL K Z m' H' xs vs
  | [], vs, r => r
  | x :: xs, vs, r => by
    obtain ⟨v, t, e1, r1, r2⟩ := r
    exact ⟨v, t, e1, Rel.ext e x v r1, RelL.ext e xs t r2⟩
end

/-- one more address that is left alone -/
theorem Rd.nz {H : Hp} {a D : Addr} {u : HO} (r : Rd H a u) (hD : H D = none) : a ≠ D := by
  rintro rfl
  rcases r with r | ⟨o, r⟩ <;> (rw [hD] at r; cases r)
mutual
theorem Rel.more {K : Fg} {Z m : List Addr} {H : Hp} {D : Addr} (hD : H D = none) : ∀ (x : AV) (v : V), Rel K Z m H x v → Rel K (D :: Z) m H x v
  | .non, v, r => r
  | .bl _, v, r => r
  | .int _, v, r => r
  | .str _, v, r => r
  | .ty _, v, r => r
  | .ref n, v, r => r
  | .tup xs, v, r => by
    obtain ⟨a, vs, e1, t, l⟩ := r
    refine ⟨a, vs, e1, ?_, RelL.more hD xs vs l⟩
    rcases t with ⟨h1, h2, h3⟩ | t
    · exact .inl ⟨h1, by simp only [List.mem_cons, not_or]; exact ⟨ne_of_none h3 hD, h2⟩, h3⟩
    · exact .inr t
  | .lst xs, v, r => by
    obtain ⟨a, vs, e1, t, l⟩ := r
    refine ⟨a, vs, e1, ?_, RelL.more hD xs vs l⟩
    rcases t with ⟨h1, h2, h3⟩ | t
    · exact .inl ⟨h1, by simp only [List.mem_cons, not_or]; exact ⟨Rd.nz h3 hD, h2⟩, h3⟩
    · exact .inr t
  | .dcs ks ws, v, r => by
    obtain ⟨a, kvs, e1, ⟨h1, h2, h3⟩, k, l⟩ := r
    exact ⟨a, kvs, e1, ⟨h1, by simp only [List.mem_cons, not_or]; exact ⟨Rd.nz (.inl h3) hD, h2⟩, h3⟩, k, RelL.more hD ws _ l⟩
theorem RelL.more {K : Fg} {Z m : List Addr} {H : Hp} {D : Addr} (hD : H D = none) : ∀ (xs : List AV) (vs : List V), RelL K Z m H xs vs → RelL K (D :: Z) m H xs vs
  | [], vs, r => r
  | x :: xs, vs, r => by
    obtain ⟨v, t, e1, r1, r2⟩ := r
    exact ⟨v, t, e1, Rel.more hD x v r1, RelL.more hD xs t r2⟩
end
mutual
theorem Rel.less {K : Fg} {Z m : List Addr} {H : Hp} {D : Addr} : ∀ (x : AV) (v : V), Rel K (D :: Z) m H x v → Rel K Z m H x v
  | .non, v, r => r
  | .bl _, v, r => r
  | .int _, v, r => r
  | .str _, v, r => r
  | .ty _, v, r => r
  | .ref n, v, r => r
  | .tup xs, v, r => by
    obtain ⟨a, vs, e1, t, l⟩ := r
    refine ⟨a, vs, e1, ?_, RelL.less xs vs l⟩
    rcases t with ⟨h1, h2, h3⟩ | t
    · exact .inl ⟨h1, fun z => h2 (List.mem_cons_of_mem _ z), h3⟩
    · exact .inr t
  | .lst xs, v, r => by
    obtain ⟨a, vs, e1, t, l⟩ := r
    refine ⟨a, vs, e1, ?_, RelL.less xs vs l⟩
    rcases t with ⟨h1, h2, h3⟩ | t
    · exact .inl ⟨h1, fun z => h2 (List.mem_cons_of_mem _ z), h3⟩
    · exact .inr t
  | .dcs ks ws, v, r => by
    obtain ⟨a, kvs, e1, ⟨h1, h2, h3⟩, k, l⟩ := r
    exact ⟨a, kvs, e1, ⟨h1, fun z => h2 (List.mem_cons_of_mem _ z), h3⟩, k, RelL.less ws _ l⟩
theorem RelL.less {K : Fg} {Z m : List Addr} {H : Hp} {D : Addr} : ∀ (xs : List AV) (vs : List V), RelL K (D :: Z) m H xs vs → RelL K Z m H xs vs
  | [], vs, r => r
  | x :: xs, vs, r => by
    obtain ⟨v, t, e1, r1, r2⟩ := r
    exact ⟨v, t, e1, Rel.less x v r1, RelL.less xs t r2⟩
end

theorem RelL.length {K : Fg} {Z m : List Addr} {H : Hp} : ∀ {xs : List AV} {vs : List V}, RelL K Z m H xs vs → vs.length = xs.length
  | [], vs, r => by rw [show vs = [] from r]; rfl
  | x :: xs, vs, r => by
    obtain ⟨v, t, e1, r1, r2⟩ := r
    rw [e1, List.length_cons, List.length_cons, RelL.length r2]
theorem RelL.get {K : Fg} {Z m : List Addr} {H : Hp} : ∀ {xs : List AV} {vs : List V} {i : Nat} {x : AV}, RelL K Z m H xs vs → xs[i]? = some x → ∃ v, vs[i]? = some v ∧ Rel K Z m H x v
  | [], vs, i, x, r, e => by simp at e
  | y :: xs, vs, 0, x, r, e => by
    obtain ⟨v, t, e1, r1, r2⟩ := r
    have e' : y = x := by simpa using e
    subst e'
    exact ⟨v, by rw [e1]; rfl, r1⟩
  | y :: xs, vs, i + 1, x, r, e => by
    obtain ⟨v, t, e1, r1, r2⟩ := r
    obtain ⟨w, h1, h2⟩ := RelL.get (i := i) (x := x) r2 (by simpa using e)
    exact ⟨w, by rw [e1]; simpa using h1, h2⟩
theorem RelL.past {K : Fg} {Z m : List Addr} {H : Hp} {xs : List AV} {vs : List V} {i : Nat} (r : RelL K Z m H xs vs) (e : xs[i]? = none) : vs.length ≤ i := by
  rw [r.length]
  exact List.getElem?_eq_none_iff.mp e
theorem RelL.append {K : Fg} {Z m : List Addr} {H : Hp} : ∀ {xs ys : List AV} {vs ws : List V}, RelL K Z m H xs vs → RelL K Z m H ys ws → RelL K Z m H (xs ++ ys) (vs ++ ws)
  | [], ys, vs, ws, r, q => by rw [show vs = [] from r]; exact q
  | x :: xs, ys, vs, ws, r, q => by
    obtain ⟨v, t, e1, r1, r2⟩ := r
    exact ⟨v, t ++ ws, by rw [e1]; rfl, r1, RelL.append r2 q⟩
theorem RelL.drop {K : Fg} {Z m : List Addr} {H : Hp} : ∀ (n : Nat) {xs : List AV} {vs : List V}, RelL K Z m H xs vs → RelL K Z m H (xs.drop n) (vs.drop n)
  | 0, xs, vs, r => r
  | n + 1, [], vs, r => by rw [show vs = [] from r]; exact (show RelL K Z m H [] [] from rfl)
  | n + 1, x :: xs, vs, r => by
    obtain ⟨v, t, e1, r1, r2⟩ := r
    rw [e1]
    exact RelL.drop n r2
theorem RelL.take {K : Fg} {Z m : List Addr} {H : Hp} : ∀ (n : Nat) {xs : List AV} {vs : List V}, RelL K Z m H xs vs → RelL K Z m H (xs.take n) (vs.take n)
  | 0, xs, vs, r => (show RelL K Z m H [] [] from rfl)
  | n + 1, [], vs, r => by rw [show vs = [] from r]; exact (show RelL K Z m H [] [] from rfl)
  | n + 1, x :: xs, vs, r => by
    obtain ⟨v, t, e1, r1, r2⟩ := r
    rw [e1]
    exact ⟨v, t.take n, rfl, r1, RelL.take n r2⟩
theorem RelL.set {K : Fg} {Z m : List Addr} {H : Hp} {y : AV} {w : V} (ry : Rel K Z m H y w) : ∀ (n : Nat) {xs : List AV} {vs : List V}, RelL K Z m H xs vs → RelL K Z m H (xs.set n y) (vs.set n w)
  | n, [], vs, r => by rw [show vs = [] from r]; exact (show RelL K Z m H [] [] from rfl)
  | 0, x :: xs, vs, r => by
    obtain ⟨v, t, e1, r1, r2⟩ := r
    rw [e1]
    exact ⟨w, t, rfl, ry, r2⟩
  | n + 1, x :: xs, vs, r => by
    obtain ⟨v, t, e1, r1, r2⟩ := r
    rw [e1]
    exact ⟨v, t.set n w, rfl, r1, RelL.set ry n r2⟩
theorem RelL.one {K : Fg} {Z m : List Addr} {H : Hp} {x : AV} {v : V} (r : Rel K Z m H x v) : RelL K Z m H [x] [v] := ⟨v, [], rfl, r, rfl⟩
theorem RelL.reverse {K : Fg} {Z m : List Addr} {H : Hp} : ∀ {xs : List AV} {vs : List V}, RelL K Z m H xs vs → RelL K Z m H xs.reverse vs.reverse
  | [], vs, r => by rw [show vs = [] from r]; exact (show RelL K Z m H [] [] from rfl)
  | x :: xs, vs, r => by
    obtain ⟨v, t, e1, r1, r2⟩ := r
    rw [e1, List.reverse_cons, List.reverse_cons]
    exact RelL.append (RelL.reverse r2) (RelL.one r1)

theorem TupAt.sq {K : Fg} {Z m : List Addr} {H : Hp} {a : Addr} {vs : List V} (t : TupAt K Z m H a vs) : SqT K H a vs := by
  rcases t with ⟨_, _, h⟩ | t
  · exact .inl (.inl h)
  · exact .inr t
theorem LstAt.sq {K : Fg} {Z m : List Addr} {H : Hp} {a : Addr} {vs : List V} (t : LstAt K Z m H a vs) : SqL K H a vs := by
  rcases t with ⟨_, _, h⟩ | ⟨q, n, h1, h2, h3⟩
  · exact .inl h
  · exact .inr ⟨_, q, n, h1, rfl, rfl, rfl, h2, h3⟩

/-- a new thing, laid and left alone -/
theorem Ext.laid {K : Fg} {Z m : List Addr} {h : AH} {H : Hp} (S : SRel K Z m h H) {p : Addr} {o : HO} (hp : H p = none) : Ext m H m (upd H p o) :=
  ⟨⟨[], (List.append_nil m).symm, fun a z => absurd z (by simp)⟩, fun a u _ e => by rw [upd_ne (ne_of_none e hp)]; exact e, fun a ha => by
    have q := S.has ha
    by_cases e : a = p
    · rw [e, upd_same]; intro z; cases z
    · rw [upd_ne e]; exact q⟩
theorem SRel.notNone {K : Fg} {Z m : List Addr} {h : AH} {H : Hp} (S : SRel K Z m h H) {p : Addr} (hp : H p = none) : p ∉ m ∧ p ∉ Z :=
  ⟨fun z => S.has z hp, fun z => (S.zs p z).2 hp⟩
/-- cells stand over steps that leave them -/
theorem SRel.step {K : Fg} {Z m m' : List Addr} {h : AH} {H H' : Hp} (S : SRel K Z m h H) (e : Ext m H m' H') (hm : m' = m) (hk : ∀ a ∈ m, H' a = H a) : SRel K Z m' h H' := by
  subst hm
  refine ⟨S.len, S.nd, fun n a c h1 h2 => ?_, fun a ha => ⟨(S.zs a ha).1, fun z => ?_⟩⟩
  · have q := S.cell n a c h1 h2
    cases c with
    | lst xs =>
      obtain ⟨vs, e1, r⟩ := q
      exact ⟨vs, by rw [hk a (List.mem_of_getElem? h1)]; exact e1, RelL.ext e xs vs r⟩
  · obtain ⟨z1, z2⟩ := S.zs a ha
    exact z2 (e.gone z)
theorem SRel.laid {K : Fg} {Z m : List Addr} {h : AH} {H : Hp} (S : SRel K Z m h H) {p : Addr} {o : HO} (hp : H p = none) : SRel K Z m h (upd H p o) :=
  S.step (Ext.laid S hp) rfl fun a ha => upd_ne fun e => S.has ha (by rw [e]; exact hp)
/-- a new cell -/
theorem newCell {K : Fg} {Z m : List Addr} {h : AH} {H : Hp} (S : SRel K Z m h H) {p : Addr} {xs : List AV} {vs : List V} (hp : H p = none) (r : RelL K Z m H xs vs) :
    Ext m H (m ++ [p]) (upd H p (.lst vs)) ∧ SRel K Z (m ++ [p]) (h ++ [.lst xs]) (upd H p (.lst vs)) ∧ Rel K Z (m ++ [p]) (upd H p (.lst vs)) (.ref h.length) (.ref p) := by
  have e : Ext m H (m ++ [p]) (upd H p (.lst vs)) := ⟨⟨[p], rfl, fun a ha => by rw [List.mem_singleton.mp ha]; exact hp⟩, (Ext.laid S hp).keep, (Ext.laid S hp).live⟩
  have hn := S.notNone hp
  refine ⟨e, ⟨by simp [S.len], ?_, fun n a c h1 h2 => ?_, fun a ha => ⟨?_, fun z => ?_⟩⟩, ⟨p, rfl, ?_⟩⟩
  · rw [List.nodup_append]
    refine ⟨S.nd, by simp, fun a ha b hb => ?_⟩
    rw [List.mem_singleton.mp hb]
    intro z
    exact hn.1 (z ▸ ha)
  · by_cases hl : n < h.length
    · rw [List.getElem?_append_left hl] at h2
      rw [List.getElem?_append_left (by rw [S.len]; exact hl)] at h1
      have q := S.cell n a c h1 h2
      cases c with
      | lst ys =>
        obtain ⟨ws, e1, r1⟩ := q
        exact ⟨ws, by rw [upd_ne (ne_of_none e1 hp)]; exact e1, RelL.ext e ys ws r1⟩
    · have hl' : h.length ≤ n := by omega
      rw [List.getElem?_append_right hl'] at h2
      rw [List.getElem?_append_right (by rw [S.len]; exact hl'), S.len] at h1
      cases hk : n - h.length with
      | zero =>
        rw [hk] at h1 h2
        cases h1; cases h2
        exact ⟨vs, upd_same, RelL.ext e xs vs r⟩
      | succ k =>
        rw [hk] at h2
        simp at h2
  · intro z
    rcases List.mem_append.mp z with z | z
    · exact (S.zs a ha).1 z
    · rw [List.mem_singleton.mp z] at ha
      exact hn.2 ha
  · exact (S.zs a ha).2 (e.gone z)
  · rw [List.getElem?_append_right (by rw [S.len]; exact Nat.le_refl _), S.len, Nat.sub_self]
    rfl
/-- a cell is changed -/
theorem setCell {K : Fg} {Z m : List Addr} {h : AH} {H : Hp} (S : SRel K Z m h H) {n : Nat} {a : Addr} {xs : List AV} {vs : List V} (ha : m[n]? = some a) (hn : n < h.length) (r : RelL K Z m H xs vs) :
    Ext m H m (upd H a (.lst vs)) ∧ SRel K Z m (h.set n (.lst xs)) (upd H a (.lst vs)) := by
  have hm : a ∈ m := List.mem_of_getElem? ha
  have e : Ext m H m (upd H a (.lst vs)) := ⟨⟨[], (List.append_nil m).symm, fun a z => absurd z (by simp)⟩, fun b o hb q => by
      rw [upd_ne (show b ≠ a from fun z => hb (by rw [z]; exact hm))]; exact q, fun b hb => by
    by_cases q : b = a
    · rw [q, upd_same]; intro z; cases z
    · rw [upd_ne q]; exact S.has hb⟩
  refine ⟨e, ⟨by rw [List.length_set]; exact S.len, S.nd, fun k b c h1 h2 => ?_, fun b hb => ⟨(S.zs b hb).1, fun z => (S.zs b hb).2 (e.gone z)⟩⟩⟩
  by_cases hk : k = n
  · subst hk
    rw [ha] at h1
    cases h1
    rw [List.getElem?_set_self hn] at h2
    cases h2
    exact ⟨vs, upd_same, RelL.ext e xs vs r⟩
  · rw [List.getElem?_set_ne (Ne.symm hk)] at h2
    have nb : b ≠ a := fun z => hk (nd_ix S.nd (x := b) h1 (by rw [z]; exact ha))
    have q := S.cell k b c h1 h2
    cases c with
    | lst ys =>
      obtain ⟨ws, e1, r1⟩ := q
      exact ⟨ws, by rw [upd_ne nb]; exact e1, RelL.ext e ys ws r1⟩
end SP
end
section
set_option maxRecDepth 100000
set_option maxHeartbeats 1000000
/-! What is wanted behind a run of the small language; the operations by values. -/
namespace SP
open PySem PySem.Spec PyProof.Rows L2

structure KC where
  K : Fg
  cl : Nat → Addr

def PostG {α β : Type} (k : KC) (Z m : List Addr) (H : Hp) (w0 : XK) (rel : List Addr → Hp → α → β → Prop) (r : R α) (Q : β → Hp → Prop) : Prop :=
  match r with
  | .ok v h' => ∀ m' H' v', Ext m H m' H' → SRel k.K Z m' h' H' → rel m' H' v v' → Q v' H'
  | .exc c w h' => ∀ m' H' d x, Ext m H m' H' → SRel k.K Z m' h' H' → H' d = some (.xd [(Str.ofString "what", x)]) → Rel k.K Z m' H' w x → w0 (.ref (k.cl c)) (some d) H'
  | .bad => False

section
variable {α β γ δ : Type} {k : KC} {Z m m1 : List Addr} {H H1 : Hp} {w0 : XK} {rel : List Addr → Hp → α → β → Prop} {rel2 : List Addr → Hp → γ → δ → Prop}
theorem PostG.ext {r : R α} {Q : β → Hp → Prop} (p : PostG k Z m H w0 rel r Q) (e : Ext m H m1 H1) : PostG k Z m1 H1 w0 rel r Q := by
  cases r with
  | ok v h' => exact fun m' H' v' e' => p m' H' v' (e.trans e')
  | exc c w h' => exact fun m' H' d x e' => p m' H' d x (e.trans e')
  | bad => exact p
theorem PostG.mono {r : R α} {Q Q' : β → Hp → Prop} (p : PostG k Z m H w0 rel r Q) (h : ∀ v H', Q v H' → Q' v H') : PostG k Z m H w0 rel r Q' := by
  cases r with
  | ok v h' => exact fun m' H' v' e' s' r' => h _ _ (p m' H' v' e' s' r')
  | exc c w h' => exact p
  | bad => exact p
/-- one step, then the rest -/
theorem PostG.bind {r : R α} {f : α → AH → R γ} {Q : δ → Hp → Prop} (p : PostG k Z m H w0 rel2 (r.bind f) Q) :
    PostG k Z m H w0 rel r (fun v' H' => ∃ m' v h', Ext m H m' H' ∧ SRel k.K Z m' h' H' ∧ rel m' H' v v' ∧ PostG k Z m' H' w0 rel2 (f v h') Q) := by
  cases r with
  | ok v h' => exact fun m' H' v' e' s' r' => ⟨m', v, h', e', s', r', PostG.ext p e'⟩
  | exc c w h' => exact p
  | bad => exact p
end

def StRel (K : Fg) (Z m : List Addr) (H : Hp) (s : St) (t : L2.St) : Prop :=
  t.length = s.length ∧ ∀ (i : Nat) (v : AV), s[i]? = some (some v) → ∃ v', t[i]? = some (some v') ∧ Rel K Z m H v v'
theorem StRel.ext {K : Fg} {Z m m' : List Addr} {H H' : Hp} {s : St} {t : L2.St} (r : StRel K Z m H s t) (e : Ext m H m' H') : StRel K Z m' H' s t :=
  ⟨r.1, fun i v h => let ⟨v', h1, h2⟩ := r.2 i v h; ⟨v', h1, Rel.ext e v v' h2⟩⟩
theorem StRel.more {K : Fg} {Z m : List Addr} {H : Hp} {D : Addr} {s : St} {t : L2.St} (r : StRel K Z m H s t) (hD : H D = none) : StRel K (D :: Z) m H s t :=
  ⟨r.1, fun i v h => let ⟨v', h1, h2⟩ := r.2 i v h; ⟨v', h1, Rel.more hD v v' h2⟩⟩
theorem StRel.set {K : Fg} {Z m : List Addr} {H : Hp} {s : St} {t : L2.St} (r : StRel K Z m H s t) (i : Nat) {x : AV} {x' : V} (q : Rel K Z m H x x') : StRel K Z m H (s.set i (some x)) (t.set i (some x')) := by
  refine ⟨by rw [List.length_set, List.length_set]; exact r.1, fun j v h => ?_⟩
  by_cases e : i = j
  · subst e
    have hl : i < s.length := by
      have := (List.getElem?_eq_some_iff.mp h).1
      rw [List.length_set] at this
      exact this
    rw [List.getElem?_set_self hl] at h
    cases h
    exact ⟨x', List.getElem?_set_self (by rw [r.1]; exact hl), q⟩
  · rw [List.getElem?_set_ne e] at h ⊢
    exact r.2 j v h
theorem StRel.wipe {K : Fg} {Z m : List Addr} {H : Hp} {s : St} {t : L2.St} (r : StRel K Z m H s t) : ∀ vs : List Nat, StRel K Z m H (wipeA s vs) (L2.wipe t vs)
  | [] => r
  | v :: vs => by
    have ih := StRel.wipe r vs
    refine ⟨?_, fun j x h => ?_⟩
    · show ((L2.wipe t vs).set v none).length = ((wipeA s vs).set v none).length
      rw [List.length_set, List.length_set]
      exact ih.1
    · have h' : ((wipeA s vs).set v none)[j]? = some (some x) := h
      show ∃ v', ((L2.wipe t vs).set v none)[j]? = some (some v') ∧ _
      by_cases e : v = j
      · subst e
        by_cases hl : v < (wipeA s vs).length
        · rw [List.getElem?_set_self hl] at h'; cases h'
        · rw [List.getElem?_eq_none (by rw [List.length_set]; omega)] at h'; cases h'
      · rw [List.getElem?_set_ne e] at h' ⊢
        exact ih.2 j x h'

/-- the reading of an expression: its run -/
def tI (k : KC) (C : Ctx) (w0 : XK) (e : E) : TE := fun t H Q => ∃ Z m s h, SRel k.K Z m h H ∧ StRel k.K Z m H s t ∧ PostG k Z m H w0 (Rel k.K Z) (evE C s e h) Q
def tIA (k : KC) (C : Ctx) (w0 : XK) (es : Es) : TA := fun t H Q => ∃ Z m s h, SRel k.K Z m h H ∧ StRel k.K Z m H s t ∧ PostG k Z m H w0 (RelL k.K Z) (evA C s es h) Q

theorem PE.mono {X : Cx} {e : Expr} {t t' : TE} (h : PE X e t) (hm : ∀ u H Q, t' u H Q → t u H Q) : PE X e t' := ⟨fun pins s u H Q I q => h.run pins s u H Q I (hm u H Q q)⟩
theorem PT.mono {X : Cx} {e : Expr} {t t' : TT} (h : PT X e t) (hm : ∀ u H Q, t' u H Q → t u H Q) : PT X e t' := ⟨fun pins s u H Q I q => h.run pins s u H Q I (hm u H Q q)⟩
theorem PW.mono {X : Cx} {e : Expr} {t t' : TT} (h : PW X e t) (hm : ∀ u H Q, t' u H Q → t u H Q) : PW X e t' := ⟨fun wh pins s u H Q I q => h.run wh pins s u H Q I (hm u H Q q)⟩
theorem PA.mono {X : Cx} {es : List Expr} {t t' : TA} (h : PA X es t) (hm : ∀ u H Q, t' u H Q → t u H Q) : PA X es t' := ⟨fun pos pins s u H Q I q => h.run pos pins s u H Q I (hm u H Q q)⟩
theorem PS.mono {X : Cx} {e : Stmt} {t t' : TS} (h : PS X e t) (hm : ∀ D u H, t' D u H → t D u H) : PS X e t' := ⟨fun pins s u H D I q => h.run pins s u H D I (hm D u H q)⟩
theorem PSs.mono {X : Cx} {e : List Stmt} {t t' : TS} (h : PSs X e t) (hm : ∀ D u H, t' D u H → t D u H) : PSs X e t' := ⟨fun pins s u H D I q => h.run pins s u H D I (hm D u H q)⟩

/-- two things in a row -/
theorem tI_two {k : KC} {C : Ctx} {w0 : XK} {a b : E} {f : AV → AV → AH → R AV} {t : L2.St} {H : Hp} {Q : VK} {r : R2}
    (hr : ∀ Z m h H x y x' y', SRel k.K Z m h H → Rel k.K Z m H x x' → Rel k.K Z m H y y' → PostG k Z m H w0 (Rel k.K Z) (f x y h) Q → r x' y' H Q)
    (p : ∃ Z m s h, SRel k.K Z m h H ∧ StRel k.K Z m H s t ∧ PostG k Z m H w0 (Rel k.K Z) ((evE C s a h).bind fun x h1 => (evE C s b h1).bind fun y h2 => f x y h2) Q) :
    tOp r (tI k C w0 a) (tI k C w0 b) t H Q := by
  obtain ⟨Z, m, s, h, S, St, p⟩ := p
  refine ⟨Z, m, s, h, S, St, (PostG.bind p).mono fun x' H1 ⟨m1, x, h1, e1, S1, r1, p1⟩ => ?_⟩
  refine ⟨Z, m1, s, h1, S1, St.ext e1, (PostG.bind p1).mono fun y' H2 ⟨m2, y, h2, e2, S2, r2, p2⟩ => ?_⟩
  exact hr Z m2 h2 H2 x y x' y' S2 (Rel.ext e2 x x' r1) r2 p2

section
variable {k : KC} {Z m : List Addr} {h : AH} {H : Hp} {w0 : XK} {Q : VK}
theorem PostG.now {v : AV} {v' : V} (S : SRel k.K Z m h H) (p : PostG k Z m H w0 (Rel k.K Z) (.ok v h) Q) (r : Rel k.K Z m H v v') : Q v' H := p m H v' (Ext.refl S) S r
/-- a new list -/
theorem PostG.mk {fl : Bool} {xs : List AV} {vs : List V} (S : SRel k.K Z m h H) (p : PostG k Z m H w0 (Rel k.K Z) (mk fl xs h) Q) (r : RelL k.K Z m H xs vs) {q : Addr} (hq : H q = none) : Q (.ref q) (upd H q (.lst vs)) := by
  cases fl with
  | true =>
    obtain ⟨e, s, rr⟩ := newCell S hq r
    exact p _ _ _ e s rr
  | false =>
    have e := Ext.laid (o := .lst vs) S hq
    exact p _ _ _ e (S.laid hq) ⟨q, vs, rfl, .inl ⟨(S.notNone hq).1, (S.notNone hq).2, .inl upd_same⟩, RelL.ext e xs vs r⟩
theorem PostG.tup {xs : List AV} {vs : List V} (S : SRel k.K Z m h H) (p : PostG k Z m H w0 (Rel k.K Z) (.ok (.tup xs) h) Q) (r : RelL k.K Z m H xs vs) {q : Addr} (hq : H q = none) : Q (.ref q) (upd H q (.tup vs)) := by
  have e := Ext.laid (o := .tup vs) S hq
  exact p _ _ _ e (S.laid hq) ⟨q, vs, rfl, .inl ⟨(S.notNone hq).1, (S.notNone hq).2, upd_same⟩, RelL.ext e xs vs r⟩
/-- a list, read -/
theorem listOf_sq {x : AV} {x' : V} {xs : List AV} (S : SRel k.K Z m h H) (r : Rel k.K Z m H x x') (e : listOf h x = some xs) : ∃ a vs, x' = .ref a ∧ SqL k.K H a vs ∧ (Rd H a (.lst vs) ∨ KLst k.K a vs) ∧ RelL k.K Z m H xs vs := by
  cases x <;> try (simp [listOf] at e; done)
  case lst ys =>
    simp only [listOf, Option.some.injEq] at e
    subst e
    obtain ⟨a, vs, e1, t, l⟩ := r
    exact ⟨a, vs, e1, t.sq, t.elim (fun z => .inl z.2.2) .inr, l⟩
  case ref n =>
    obtain ⟨a, e1, e2⟩ := r
    cases hn : h[n]? with
    | none => simp [listOf, hn] at e
    | some c =>
      cases c with
      | lst ys =>
        simp only [listOf, hn, Option.some.injEq] at e
        subst e
        obtain ⟨vs, e3, l⟩ := S.cell n a _ e2 hn
        exact ⟨a, vs, e1, .inl (.inl e3), .inl (.inl e3), l⟩
theorem seqOf_sq {x : AV} {x' : V} {xs : List AV} (S : SRel k.K Z m h H) (r : Rel k.K Z m H x x') (e : seqOf h x = some xs) : ∃ a vs, x' = .ref a ∧ (SqL k.K H a vs ∨ (SqT k.K H a vs ∧ x = .tup xs)) ∧ RelL k.K Z m H xs vs := by
  cases x <;> try (simp [seqOf] at e; done)
  case tup ys =>
    simp only [seqOf, Option.some.injEq] at e
    subst e
    obtain ⟨a, vs, e1, t, l⟩ := r
    exact ⟨a, vs, e1, .inr ⟨t.sq, rfl⟩, l⟩
  case lst ys =>
    obtain ⟨a, vs, e1, t, _, l⟩ := listOf_sq (x := .lst ys) S r e
    exact ⟨a, vs, e1, .inl t, l⟩
  case ref n =>
    obtain ⟨a, vs, e1, t, _, l⟩ := listOf_sq (x := .ref n) S r e
    exact ⟨a, vs, e1, .inl t, l⟩
end
end SP
end
section
set_option maxRecDepth 100000
set_option maxHeartbeats 2000000
/-! Operators and comparisons. -/
namespace SP
open PySem PySem.Spec PyProof.Rows L2

mutual
def toD : AV → PyData
  | .non => .none
  | .bl b => .bool b
  | .int i => .int i
  | .str s => .str ⟨s.toArray⟩
  | .tup xs => .tuple (toDs xs)
  | .lst xs => .list (toDs xs)
  | _ => .none
def toDs : List AV → List PyData
  | [] => []
  | x :: r => toD x :: toDs r
end
mutual
def isD : AV → Bool
  | .non => true
  | .bl _ => true
  | .int _ => true
  | .str _ => true
  | .tup xs => isDs xs
  | .lst xs => isDs xs
  | _ => false
def isDs : List AV → Bool
  | [] => true
  | x :: r => isD x && isDs r
end
mutual
theorem eqA_eqv : ∀ x y : AV, isD x = true → isD y = true → eqA x y = PyData.eqv (toD x) (toD y) := by
  intro x y hx hy
  cases x <;> (try (simp [isD] at hx; done)) <;> cases y <;> (try (simp [isD] at hy; done)) <;> simp only [eqA, toD, PyData.eqv]
  case bl.int a j => cases a <;> rfl
  case int.bl i b => cases b <;> rfl
  case str.str s t =>
    by_cases e : s = t
    · subst e; simp
    · rw [decide_eq_false e]
      symm
      rw [beq_eq_false_iff_ne]
      intro q
      injection q with q
      exact e (by simpa using congrArg Array.toList q)
  case tup.tup xs ys => exact eqAs_eqv xs ys (by simpa [isD] using hx) (by simpa [isD] using hy)
  case lst.lst xs ys => exact eqAs_eqv xs ys (by simpa [isD] using hx) (by simpa [isD] using hy)
theorem eqAs_eqv : ∀ xs ys : List AV, isDs xs = true → isDs ys = true → eqAs xs ys = PyData.eqvAll (toDs xs) (toDs ys)
  | [], [], _, _ => rfl
  | [], _ :: _, _, _ => rfl
  | _ :: _, [], _, _ => rfl
  | x :: xs, y :: ys, hx, hy => by
    simp only [isDs, Bool.and_eq_true] at hx hy
    simp only [eqAs, toDs, PyData.eqvAll]
    rw [eqA_eqv x y hx.1 hy.1, eqAs_eqv xs ys hx.2 hy.2]
end

theorem strOk_of {s : List Nat} (h : okS s = true) : PyData.strOk ⟨s.toArray⟩ = true := by
  unfold PyData.strOk
  rw [Array.all_eq_true_iff_forall_mem]
  intro c hc
  have q := List.all_eq_true.mp h c (by simpa using hc)
  have q' := of_decide_eq_true q
  exact decide_eq_true (by omega)

section
variable {k : KC} {Z m : List Addr} {h : AH} {H : Hp}
theorem flat_dp (S : SRel k.K Z m h H) : ∀ (n : Nat) (v : AV) (v' : V) (d : AV), flat h n v = some d → Rel k.K Z m H v v' → Dp k.K H v' (toD d) ∧ isD d = true ∧ (toD d).canLay0 = true ∧ (toD d).depth ≤ n := by
  intro n
  induction n with
  | zero => intro v v' d e r; simp [flat] at e
  | succ n ih =>
    have ihL : ∀ (xs : List AV) (vs : List V) (ds : List AV), flatL (flat h n) xs = some ds → RelL k.K Z m H xs vs → DpAll k.K H vs (toDs ds) ∧ isDs ds = true ∧ PyData.canLayAll0 (toDs ds) = true ∧ PyData.depthAll (toDs ds) ≤ n := by
      intro xs
      induction xs with
      | nil =>
        intro vs ds e r
        simp only [flatL, Option.some.injEq] at e
        subst e
        rw [show vs = [] from r]
        exact ⟨.nil, rfl, rfl, Nat.zero_le _⟩
      | cons x xs ihx =>
        intro vs ds e r
        obtain ⟨v, t, e1, r1, r2⟩ := r
        subst e1
        simp only [flatL] at e
        split at e
        · rename_i a b ea eb
          simp only [Option.some.injEq] at e
          subst e
          obtain ⟨p1, p2, p3, p4⟩ := ih x v a ea r1
          obtain ⟨q1, q2, q3, q4⟩ := ihx t b eb r2
          refine ⟨.cons p1 q1, by simp only [isDs, p2, q2, Bool.and_self], by simp only [toDs, PyData.canLayAll0, p3, q3, Bool.and_self], ?_⟩
          simp only [toDs, PyData.depthAll]
          omega
        · cases e
    intro v v' d e r
    cases v with
    | non => simp only [flat, Option.some.injEq] at e; subst e; rw [show v' = V.non from r]; exact ⟨.non, rfl, rfl, Nat.zero_le _⟩
    | bl b => simp only [flat, Option.some.injEq] at e; subst e; rw [show v' = V.bl b from r]; exact ⟨.bl b, rfl, rfl, Nat.zero_le _⟩
    | int i => simp only [flat, Option.some.injEq] at e; subst e; rw [show v' = V.int i from r]; exact ⟨.int i, rfl, rfl, Nat.zero_le _⟩
    | str s =>
      simp only [flat, Option.some.injEq] at e
      subst e
      obtain ⟨r1, _, r3⟩ := r
      rw [r1]
      exact ⟨.str _, rfl, strOk_of r3, Nat.zero_le _⟩
    | ty _ => simp [flat] at e
    | dcs _ _ => simp [flat] at e
    | tup xs =>
      simp only [flat, Option.map_eq_some_iff] at e
      obtain ⟨ds, e1, e2⟩ := e
      subst e2
      obtain ⟨a, vs, e3, t, l⟩ := r
      obtain ⟨q1, q2, q3, q4⟩ := ihL xs vs ds e1 l
      rw [e3]
      refine ⟨.tup t.sq q1, q2, q3, ?_⟩
      simp only [toD, PyData.depth]
      omega
    | lst xs =>
      simp only [flat, Option.map_eq_some_iff] at e
      obtain ⟨ds, e1, e2⟩ := e
      subst e2
      obtain ⟨a, vs, e3, t, l⟩ := r
      obtain ⟨q1, q2, q3, q4⟩ := ihL xs vs ds e1 l
      rw [e3]
      refine ⟨.lst t.sq q1, q2, q3, ?_⟩
      simp only [toD, PyData.depth]
      omega
    | ref j =>
      obtain ⟨a, e3, e4⟩ := r
      simp only [flat] at e
      split at e
      · rename_i xs hx
        simp only [Option.map_eq_some_iff] at e
        obtain ⟨ds, e1, e2⟩ := e
        subst e2
        obtain ⟨vs, e5, l⟩ := S.cell j a _ e4 hx
        obtain ⟨q1, q2, q3, q4⟩ := ihL xs vs ds e1 l
        rw [e3]
        refine ⟨.lst (.inl (.inl e5)) q1, q2, q3, ?_⟩
        simp only [toD, PyData.depth]
        omega
      · cases e
theorem flat_shaped (S : SRel k.K Z m h H) {v : AV} {v' : V} {d : AV} (e : flat h depthL v = some d) (r : Rel k.K Z m H v v') : Dp k.K H v' (toD d) ∧ isD d = true ∧ SeqAt.shaped (toD d) = true := by
  obtain ⟨p1, p2, p3, p4⟩ := flat_dp S depthL v v' d e r
  refine ⟨p1, p2, ?_⟩
  have p4' : (toD d).depth ≤ 12 := p4
  unfold SeqAt.shaped
  rw [p3, decide_eq_true (show (toD d).depth ≤ 64 by omega)]
  rfl
end

/-- the operations by values, as they run -/
def rB (k : KC) (w0 : XK) (f : AV → AV → AH → R AV) : R2 := fun x' y' H Q => ∃ Z m h x y, SRel k.K Z m h H ∧ Rel k.K Z m H x x' ∧ Rel k.K Z m H y y' ∧ PostG k Z m H w0 (Rel k.K Z) (f x y h) Q

section
variable {X : Cx} {k : KC} {w0 : XK}
theorem okS_app {s t : List Nat} (h1 : okS s = true) (h2 : okS t = true) : okS (s ++ t) = true := by
  unfold okS at *
  rw [List.all_append, h1, h2]
  rfl
theorem str_app (s t : List Nat) : (Str.mk s.toArray) ++ (Str.mk t.toArray) = Str.mk (s ++ t).toArray := by
  show Str.mk (s.toArray ++ t.toArray) = _
  simp
theorem str_len (s : List Nat) : (Str.mk s.toArray).length = s.length := by
  show s.toArray.size = s.length
  simp
theorem bigL_le {n : Nat} (h : n ≤ bigL) : n ≤ sizeLine := Nat.le_trans h (by decide)

theorem rep_one (c : Nat) : ∀ n : Nat, (List.replicate n [c]).flatten = List.replicate n c
  | 0 => rfl
  | n + 1 => by rw [List.replicate_succ, List.flatten_cons, rep_one c n]; rfl
theorem fold_app : ∀ (l : List (Array Nat)) (acc : Array Nat), (l.foldl (· ++ ·) acc).toList = acc.toList ++ (l.map Array.toList).flatten
  | [], acc => by simp
  | x :: r, acc => by rw [List.foldl_cons, fold_app r]; simp
theorem mul_one_sign (c : Nat) (j : Int) : Txt.mul ⟨[c].toArray⟩ j = ⟨(List.replicate j.toNat [c]).flatten.toArray⟩ := by
  unfold Txt.mul
  split
  · rename_i hj
    rw [show j.toNat = 0 by omega]
    rfl
  · split
    · rename_i hj h1
      have e : j = 1 := by
        rcases Bool.or_eq_true_iff.mp h1 with q | q
        · exact eq_of_beq q
        · exact absurd q (by show ¬ (((1 : Nat) == 0) = true); decide)
      subst e
      rfl
    · refine congrArg Str.mk (Array.ext' ?_)
      rw [fold_app]
      simp
theorem lst_obj {pins : List (Addr × Obj)} {t : L2.St} {H : Hp} {s : Shared} {a : Addr} {xs : List V} (I : Inv X pins t H s) (h : Rd H a (.lst xs) ∨ KLst X.K a xs) : xs.length ≤ sizeLine ∧ ∃ (q : List Value) (n : Nat), Vals xs q ∧ s.heap.get? a = some { cls := .type "list", data := .seq q.toArray n } := by
  rcases h with h | ⟨q, n, h1, h2, h3⟩
  · exact h.ok I.hok
  · refine ⟨?_, q.toList, n, h3, by simpa using I.kIn a _ h1⟩
    have e : xs.length = q.size := by rw [Vals.length h3, Array.length_toList]
    rw [e]
    exact h2
def rCatR (K : Fg) : R2 := fun x y H Q => ∃ l b xs zs, x = .ref l ∧ y = .ref b ∧ (Rd H l (.lst xs) ∨ KLst K l xs) ∧ (Rd H b (.lst zs) ∨ KLst K b zs) ∧ xs.length + zs.length ≤ sizeLine ∧ ∀ p, H p = none → Q (.ref p) (upd H p (.lst (xs ++ zs)))
theorem op_catR : OpR X (binaryOp .Add) (rCatR X.K) := by
  intro pins s t H x y v u Q I rx ry hh
  obtain ⟨l, b, xs, zs, rfl, rfl, hH, hB, hz, q⟩ := hh
  cases rx
  cases ry
  obtain ⟨z, i1, n, r, e⟩ := lst_obj I hH
  obtain ⟨z2, i2, n2, r2, e2⟩ := lst_obj I hB
  have f1 := r.length
  have f2 := r2.length
  refine PySem.P.add_list e e2 ?_ (by rw [List.size_toArray, List.size_toArray]; omega)
  rw [show i1.toArray ++ i2.toArray = (i1 ++ i2).toArray by simp]
  exact ⟨.ref _, _, I.lnew (t' := s.toks) (r.append r2) (by rw [List.length_append]; omega), rfl, q _ I.fresh⟩

/-- a list, tracked or not, times an int -/
theorem rep_run {pins : List (Addr × Obj)} {s : Shared} {t : L2.St} {H : Hp} {Q : VK} {a : Addr} {vs : List V} {j : Int} {u : Value} (I : Inv X pins t H s) (hq : Rd H a (.lst vs) ∨ KLst X.K a vs) (ry : RelV (.int j) u) (h1 : 0 ≤ j) (h2 : j < 2 ^ 63) (hz : vs.length * j.toNat ≤ sizeLine)
    (q : ∀ p, H p = none → Q (.ref p) (upd H p (.lst (List.replicate j.toNat vs).flatten))) : wpAny (model X.prog X.w) X.A (binaryOp .Mult (.ref a) u) (EP X pins t Q) X.xe s := by
  obtain ⟨tk, rfl⟩ := ry
  obtain ⟨us, n, r, e⟩ : ∃ (us : List Value) (n : Nat), Vals vs us ∧ s.heap.get? a = some { cls := .type "list", data := .seq us.toArray n } := by
    rcases hq with hq | ⟨arr, n, k1, k2, k3⟩
    · obtain ⟨z, us, n, r, e⟩ := hq.ok I.hok
      exact ⟨us, n, r, e⟩
    · exact ⟨arr.toList, n, k3, by simpa using I.kIn a _ k1⟩
  have ln : vs.length = us.length := r.length
  have hsz : us.toArray.size * j.toNat ≤ sizeLine := by rw [List.size_toArray, ← ln]; exact hz
  have b1 : ¬ us.toArray.size * j.toNat > (2 ^ 63 - 1) / 8 := fun z => by
    have : (sizeLine : Nat) ≤ (2 ^ 63 - 1) / 8 := by decide
    omega
  have b2 : ¬ (!Builtin.List.listFitsIndex j) = true := fun z => by
    rw [fitsIndex_both (Int.le_trans (by decide) h1) h2] at z
    exact Bool.false_ne_true z
  have b3 : ¬ Builtin.List.listTooLong (us.toArray.size * j.toNat) = true := fun z => by
    rw [notLongL hsz] at z
    exact Bool.false_ne_true z
  have fl : ∀ i : Nat, List.foldl (fun x1 x2 => x1 ++ x2) #[] (List.replicate i us.toArray) = (List.replicate i us).flatten.toArray := fun i => by
    have z := foldl_rep us i []
    rw [List.nil_append] at z
    exact z
  have nw : List.foldl (fun x1 x2 => x1 ++ x2) #[] (List.replicate (if us.toArray.isEmpty = true then 0 else j.toNat) us.toArray) = (List.replicate j.toNat us).flatten.toArray := by
    rw [fl]
    cases us with
    | nil => simp
    | cons b c => rw [if_neg (by simp)]
  refine wpAny_binaryOp_repeat_ref (T := "list") (U := "int") (by decide) ⟨_, e, rfl⟩ (fun s' => typeIs_int s' j tk) noFill_list_mul F.fills_int_mul F.slot_int_rmul repeat_list F.slot_int_index.lookup (call_meets F.slot_int_rmul (typeIs_int s j tk) F.entry_int_rmul (F.args_int_rmul_2 _ _)
    (int___rmul___int_list j tk a us.toArray n) ⟨e, rfl, ⟨_, e, rfl⟩, call_meets F.slot_list_mul ⟨_, e, rfl⟩ F.entry_list_mul (F.args_list_mul_2 _ _) (AutoListH.list___mul___list_int_3 a us.toArray n j tk b2 b1 b3) ⟨e, ?_⟩⟩)
  rw [nw]
  exact ⟨.ref _, _, I.lnew (t' := s.toks) (r.rep j.toNat) (by rw [PyProof.Rows.lm_len_rep_flat, Nat.mul_comm]; exact hz), rfl, q _ I.fresh⟩
theorem RelL.rep {K : Fg} {Z m : List Addr} {H : Hp} {xs : List AV} {vs : List V} (r : RelL K Z m H xs vs) : ∀ n : Nat, RelL K Z m H (List.replicate n xs).flatten (List.replicate n vs).flatten
  | 0 => rfl
  | n + 1 => by
    rw [List.replicate_succ, List.replicate_succ, List.flatten_cons, List.flatten_cons]
    exact RelL.append r (RelL.rep r n)

theorem op_bin (hK : X.K = k.K) {op : Operator} {fl : Bool} : OpR X (binaryOp op) (rB k w0 (binop op fl)) := by
  intro pins s t H x' y' v u Q I rx ry hh
  obtain ⟨Z, m, h, x, y, S, Rx, Ry, p⟩ := hh
  unfold binop at p
  split at p
  · rename_i i j
    exact op_add pins s t H x' y' v u Q I rx ry ⟨i, j, Rx, Ry, p.now S rfl⟩
  · rename_i i j
    exact op_sub pins s t H x' y' v u Q I rx ry ⟨i, j, Rx, Ry, p.now S rfl⟩
  · rename_i i j
    split at p
    · rename_i hc
      refine op_mul pins s t H x' y' v u Q I rx ry ⟨i, j, Rx, Ry, ?_, p.now S rfl⟩
      rcases hc with hc | hc
      · exact .inl ⟨by omega, by omega⟩
      · exact .inr ⟨by omega, by omega⟩
    · exact p.elim
  · rename_i i j
    split at p
    · rename_i hc
      exact op_fdiv pins s t H x' y' v u Q I rx ry ⟨i, j, Rx, Ry, hc, p.now S rfl⟩
    · exact p.elim
  · rename_i i j
    split at p
    · rename_i hc
      exact op_mod pins s t H x' y' v u Q I rx ry ⟨i, j, Rx, Ry, hc, p.now S rfl⟩
    · exact p.elim
  · rename_i i j
    split at p
    · rename_i hc
      exact op_pow pins s t H x' y' v u Q I rx ry ⟨i, j, Rx, Ry, ⟨hc.1, by omega, hc.2.2⟩, p.now S rfl⟩
    · exact p.elim
  · rename_i a b
    split at p
    · rename_i hc
      obtain ⟨r1, r2, r3⟩ := Rx
      obtain ⟨q1, q2, q3⟩ := Ry
      refine op_add_str pins s t H x' y' v u Q I rx ry ⟨_, _, r1, q1, ?_, p.now S ⟨by rw [str_app], by rw [List.length_append]; exact hc, okS_app r3 q3⟩⟩
      rw [str_len, str_len]
      exact bigL_le hc
    · exact p.elim
  · rename_i a j
    split at p
    · rename_i hc
      obtain ⟨hc1, hc2, hc3⟩ := hc
      obtain ⟨r1, r2, r3⟩ := Rx
      have Ry' : y' = .int j := Ry
      subst r1 Ry'
      obtain ⟨t1, rfl⟩ := rx
      obtain ⟨t2, rfl⟩ := ry
      obtain ⟨c, rfl⟩ := List.length_eq_one_iff.mp hc1
      have hb : (j : Int) ≤ 1000000 := hc3
      refine SB.mul (x := ⟨[c].toArray⟩) (n := j) ⟨?_, fun h1 h2 => ?_, fun h1 h2 => ?_⟩ fun t' kk => ⟨.str (Txt.mul ⟨[c].toArray⟩ j), H, I.tok _, ⟨_, rfl⟩, ?_⟩
      · rw [decide_eq_false (by omega), decide_eq_false (by omega)]
        rfl
      · show ¬ ((1 : Int) > _)
        have : (1 : Int) ≤ (2 ^ 63 - 1) / j := by
          rw [Int.le_ediv_iff_mul_le (by omega)]
          omega
        omega
      · unfold Builtin.Str.tooLong
        refine decide_eq_false ?_
        show ¬ (1 * j.toNat > sizeLine)
        have : j.toNat ≤ sizeLine := bigL_le (by show j.toNat ≤ 1000000; omega)
        omega
      · rw [mul_one_sign c j]
        refine p.now S ⟨rfl, ?_, ?_⟩
        · rw [rep_one, List.length_replicate]
          show j.toNat ≤ 1000000
          omega
        · rw [rep_one]
          unfold okS at r3 ⊢
          rw [List.all_eq_true] at r3 ⊢
          intro d hd
          rw [(List.mem_replicate.mp hd).2]
          exact r3 c (List.mem_singleton.mpr rfl)
    · exact p.elim
  · rename_i xs ys
    split at p
    · rename_i hc
      obtain ⟨a, vs, e1, t1, l1⟩ := id Rx
      obtain ⟨b, ws, e2, t2, l2⟩ := id Ry
      subst e1 e2
      refine op_catA pins s t H _ _ v u Q I rx ry ⟨a, b, vs, ws, rfl, rfl, by rw [hK]; exact t1.sq, by rw [hK]; exact t2.sq, ?_, fun e => ?_, fun n1 e => ?_, fun _ _ q hq => ?_⟩
      · rw [l1.length, l2.length]; exact bigL_le hc
      · have e' : xs = [] := List.length_eq_zero_iff.mp (by rw [← l1.length, e]; rfl)
        subst e'
        exact p.now S Ry
      · have e' : ys = [] := List.length_eq_zero_iff.mp (by rw [← l2.length, e]; rfl)
        subst e'
        rw [List.append_nil] at p
        exact p.now S Rx
      · exact PostG.tup S p (l1.append l2) hq
    · exact p.elim
  · rename_i xs j
    split at p
    · rename_i hc
      obtain ⟨a, vs, e1, _, t1, l1⟩ := listOf_sq (x := .lst xs) S Rx rfl
      have Ry' : y' = .int j := Ry
      subst e1 Ry'
      have hv : v = .ref a := rx
      subst hv
      have hb : (j : Int) ≤ 1000000 := hc.2.1
      exact rep_run I (by rw [hK]; exact t1) ry hc.1 (by omega) (by rw [l1.length]; exact bigL_le hc.2.2) fun q hq => PostG.mk S p (l1.rep j.toNat) hq
    · exact p.elim
  · split at p
    · rename_i xs ys ex ey
      split at p
      · rename_i hc
        obtain ⟨a, vs, e1, _, t1, l1⟩ := listOf_sq S Rx ex
        obtain ⟨b, ws, e2, _, t2, l2⟩ := listOf_sq S Ry ey
        subst e1 e2
        exact op_catR pins s t H _ _ v u Q I rx ry ⟨a, b, vs, ws, rfl, rfl, by rw [hK]; exact t1, by rw [hK]; exact t2, by rw [l1.length, l2.length]; exact bigL_le hc, fun q hq => PostG.mk S p (l1.append l2) hq⟩
      · exact p.elim
    · exact p.elim
  · exact p.elim

theorem non_of {Z m : List Addr} {H : Hp} {a : AV} {x : V} (r : Rel k.K Z m H a x) : decide (x = V.non) = isNon a := by
  cases a with
  | non => rw [show x = V.non from r]; rfl
  | bl b => rw [show x = V.bl b from r]; rfl
  | int i => rw [show x = V.int i from r]; rfl
  | str s => rw [r.1]; rfl
  | ty n => rw [show x = V.ty n from r]; rfl
  | ref n => obtain ⟨a, e, _⟩ := r; rw [e]; rfl
  | tup xs => obtain ⟨a, vs, e, _⟩ := r; rw [e]; rfl
  | lst xs => obtain ⟨a, vs, e, _⟩ := r; rw [e]; rfl
  | dcs xs ys => obtain ⟨a, vs, e, _⟩ := r; rw [e]; rfl
theorem flat_V {Z m : List Addr} {H : Hp} {a : AV} {x : V} (r : Rel k.K Z m H a x) (f : flatA a = true) : flatV x = true := by
  cases a <;> simp [flatA] at f
  case non => rw [show x = V.non from r]; rfl
  case bl b => rw [show x = V.bl b from r]; rfl
  case int i => rw [show x = V.int i from r]; rfl
  case str s => rw [r.1]; rfl
theorem eqV_A {Z m : List Addr} {H : Hp} {a b : AV} {x y : V} (r : Rel k.K Z m H a x) (q : Rel k.K Z m H b y) (f : flatA a = true) (g : flatA b = true) : eqV x y = eqA a b := by
  cases a <;> (try (simp [flatA] at f; done)) <;> cases b <;> (try (simp [flatA] at g; done))
  case str.str s t =>
    rw [r.1, q.1]
    show ((Str.mk s.toArray) == (Str.mk t.toArray)) = decide (s = t)
    by_cases e : s = t
    · subst e; simp
    · rw [decide_eq_false e, beq_eq_false_iff_ne]
      intro z
      injection z with z
      exact e (by simpa using congrArg Array.toList z)
  case bl.int a j =>
    rw [show x = V.bl a from r, show y = V.int j from q]
    cases a <;> rfl
  case int.bl a j =>
    rw [show x = V.int a from r, show y = V.bl j from q]
    cases j <;> rfl
  all_goals
    first
    | (rw [show x = V.non from r, show y = V.non from q]; rfl)
    | (rw [show x = V.bl _ from r, show y = V.bl _ from q]; rfl)
    | (rw [show x = V.int _ from r, show y = V.int _ from q]; rfl)
    | (rw [show x = V.non from r, show y = V.bl _ from q]; rfl)
    | (rw [show x = V.non from r, show y = V.int _ from q]; rfl)
    | (rw [show x = V.bl _ from r, show y = V.non from q]; rfl)
    | (rw [show x = V.int _ from r, show y = V.non from q]; rfl)
    | (rw [show x = V.non from r, q.1]; rfl)
    | (rw [show x = V.bl _ from r, q.1]; rfl)
    | (rw [show x = V.int _ from r, q.1]; rfl)
    | (rw [r.1, show y = V.non from q]; rfl)
    | (rw [r.1, show y = V.bl _ from q]; rfl)
    | (rw [r.1, show y = V.int _ from q]; rfl)
theorem flats_V {Z m : List Addr} {H : Hp} : ∀ {xs : List AV} {vs : List V}, RelL k.K Z m H xs vs → xs.all flatA = true → vs.all flatV = true
  | [], vs, r, f => by rw [show vs = [] from r]; rfl
  | x :: xs, vs, r, f => by
    obtain ⟨v, t, e, r1, r2⟩ := r
    rw [List.all_cons, Bool.and_eq_true] at f
    rw [e, List.all_cons, flat_V r1 f.1, flats_V r2 f.2]
    rfl
theorem any_V {Z m : List Addr} {H : Hp} {a : AV} {x : V} (ra : Rel k.K Z m H a x) (fa : flatA a = true) : ∀ {xs : List AV} {vs : List V}, RelL k.K Z m H xs vs → xs.all flatA = true → inV x vs = xs.any (fun y => eqA y a)
  | [], vs, r, f => by rw [show vs = [] from r]; rfl
  | y :: xs, vs, r, f => by
    obtain ⟨v, t, e, r1, r2⟩ := r
    rw [List.all_cons, Bool.and_eq_true] at f
    have ih := any_V ra fa r2 f.2
    unfold inV at ih ⊢
    rw [e, List.any_cons, List.any_cons, eqV_A r1 ra f.1 fa, ih]
theorem any_D {d : AV} (hd : isD d = true) : ∀ {ys : List AV}, isDs ys = true → ((toDs ys).any fun z => PyData.eqv z (toD d)) = ys.any fun y => eqA y d
  | [], _ => rfl
  | y :: ys, h => by
    simp only [isDs, Bool.and_eq_true] at h
    simp only [toDs, List.any_cons]
    rw [any_D hd h.2, eqA_eqv y d h.1 hd]
theorem flatL_dp {Z m : List Addr} {h : AH} {H : Hp} (S : SRel k.K Z m h H) : ∀ {xs : List AV} {vs : List V} {ds : List AV}, flatL (flat h depthL) xs = some ds → RelL k.K Z m H xs vs → DpAll k.K H vs (toDs ds) ∧ isDs ds = true ∧ PyData.canLayAll0 (toDs ds) = true ∧ PyData.depthAll (toDs ds) ≤ 12
  | [], vs, ds, e, r => by
    simp only [flatL, Option.some.injEq] at e
    subst e
    rw [show vs = [] from r]
    exact ⟨.nil, rfl, rfl, Nat.zero_le _⟩
  | x :: xs, vs, ds, e, r => by
    obtain ⟨v, t, e1, r1, r2⟩ := r
    subst e1
    simp only [flatL] at e
    split at e
    · rename_i a b ea eb
      simp only [Option.some.injEq] at e
      subst e
      obtain ⟨p1, p2, p3, p4⟩ := flat_dp S depthL x v a ea r1
      obtain ⟨q1, q2, q3, q4⟩ := flatL_dp S eb r2
      have p4' : (toD a).depth ≤ 12 := p4
      refine ⟨.cons p1 q1, by simp only [isDs, p2, q2, Bool.and_self], by simp only [toDs, PyData.canLayAll0, p3, q3, Bool.and_self], ?_⟩
      simp only [toDs, PyData.depthAll]
      omega
    · cases e

/-- what is told of a in b -/
inductive InW (K : Fg) (H : Hp) (x' y' : V) (b : Bool) : Prop where
  | sign (c : Nat) (z : Str) (h1 : x' = .str ⟨#[c]⟩) (h2 : y' = .str z) (h3 : decide (c ∈ z.cps.toList) = b)
  | flat (p : Addr) (xs : List V) (h1 : y' = .ref p) (h2 : SqT K H p xs) (h3 : flatV x' = true) (h4 : xs.all flatV = true) (h5 : inV x' xs = b)
  | deep (d : PyData) (ds : List PyData) (h1 : Dp K H x' d) (h2 : Dp K H y' (.list ds)) (h3 : SeqAt.shaped d = true) (h4 : SeqAt.shaped (.list ds) = true) (h5 : (ds.any fun z => PyData.eqv z d) = b)
theorem inop_w {Z m : List Addr} {h : AH} {H : Hp} {a b : AV} {x' y' : V} {c : Bool} (S : SRel k.K Z m h H) (ra : Rel k.K Z m H a x') (rb : Rel k.K Z m H b y') (e : inop a b h = some c) : InW k.K H x' y' c := by
  unfold inop at e
  split at e
  · split at e
    · rename_i t s d
      simp only [Option.some.injEq] at e
      exact .sign d ⟨t.toArray⟩ ra.1 rb.1 (by rw [← e])
    · cases e
  · rename_i xs _
    split at e
    · rename_i hc
      rw [Bool.and_eq_true] at hc
      simp only [Option.some.injEq] at e
      obtain ⟨p, vs, e1, t, l⟩ := rb
      exact .flat p vs e1 t.sq (flat_V ra hc.1) (flats_V l hc.2) (by rw [any_V ra hc.1 l hc.2]; exact e)
    · cases e
  · split at e
    · rename_i xs ex
      split at e
      · rename_i d ds ed eds
        simp only [Option.some.injEq] at e
        obtain ⟨p, vs, e1, t, _, l⟩ := listOf_sq S rb ex
        obtain ⟨q1, q2, q3⟩ := flat_shaped S ed ra
        obtain ⟨w1, w2, w3, w4⟩ := flatL_dp S eds l
        refine .deep (toD d) (toDs ds) q1 (by rw [e1]; exact .lst t w1) q3 ?_ (by rw [any_D q2 w2]; exact e)
        unfold SeqAt.shaped
        rw [show PyData.canLay0 (.list (toDs ds)) = true from w3, decide_eq_true (show PyData.depth (.list (toDs ds)) ≤ 64 by simp only [PyData.depth]; omega)]
        rfl
      · cases e
    · cases e

theorem op_cmp (hK : X.K = k.K) (hu : X.A.units + 65 < cLine) {op : CmpOp} : OpR X (compareOp op) (rB k w0 (cmpop op)) := by
  intro pins s t H x' y' v u Q I rx ry hh
  obtain ⟨Z, m, h, x, y, S, Rx, Ry, p⟩ := hh
  have eqs : ∀ {b : Bool}, eqD x y h = some b → ∃ d e, Dp X.K H x' d ∧ Dp X.K H y' e ∧ SeqAt.shaped d = true ∧ SeqAt.shaped e = true ∧ PyData.eqv d e = b := fun {b} e => by
    unfold eqD at e
    split at e
    · rename_i c d ec ed
      simp only [Option.some.injEq] at e
      obtain ⟨q1, q2, q3⟩ := flat_shaped S ec Rx
      obtain ⟨w1, w2, w3⟩ := flat_shaped S ed Ry
      rw [hK]
      exact ⟨toD c, toD d, q1, w1, q3, w3, by rw [← eqA_eqv c d q2 w2]; exact e⟩
    · cases e
  unfold cmpop at p
  split at p
  · split at p
    · rename_i b hb
      obtain ⟨d, e, q1, q2, q3, q4, q5⟩ := eqs hb
      exact op_eqD (by omega) pins s t H x' y' v u Q I rx ry ⟨d, e, q1, q2, q3, q4, by rw [q5]; exact p.now S rfl⟩
    · exact p.elim
  · split at p
    · rename_i b hb
      obtain ⟨d, e, q1, q2, q3, q4, q5⟩ := eqs hb
      exact op_neD (by omega) pins s t H x' y' v u Q I rx ry ⟨d, e, q1, q2, q3, q4, by rw [q5]; exact p.now S rfl⟩
    · exact p.elim
  · split at p
    · exact op_lt pins s t H x' y' v u Q I rx ry ⟨_, _, Rx, Ry, p.now S rfl⟩
    · exact p.elim
  · split at p
    · exact op_le pins s t H x' y' v u Q I rx ry ⟨_, _, Rx, Ry, p.now S rfl⟩
    · exact p.elim
  · split at p
    · exact op_gt pins s t H x' y' v u Q I rx ry ⟨_, _, Rx, Ry, p.now S rfl⟩
    · exact p.elim
  · split at p
    · exact op_ge pins s t H x' y' v u Q I rx ry ⟨_, _, Rx, Ry, p.now S rfl⟩
    · exact p.elim
  · split at p
    · exact op_isN pins s t H x' y' v u Q I rx ry ⟨Ry, by rw [non_of Rx]; exact p.now S rfl⟩
    · exact p.elim
  · split at p
    · exact op_notN pins s t H x' y' v u Q I rx ry ⟨Ry, by rw [non_of Rx]; exact p.now S rfl⟩
    · exact p.elim
  · split at p
    · rename_i b hb
      have q := p.now S (show Rel k.K Z m H (.bl b) (.bl b) from rfl)
      cases inop_w S Rx Ry hb with
      | sign c z h1 h2 h3 => exact op_in_sign pins s t H x' y' v u Q I rx ry ⟨c, z, h1, h2, by rw [h3]; exact q⟩
      | flat a xs h1 h2 h3 h4 h5 => exact op_in_seq pins s t H x' y' v u Q I rx ry ⟨a, xs, h1, by rw [hK]; exact .inr h2, h3, h4, by show Q (.bl (inV x' xs)) H; rw [h5]; exact q⟩
      | deep d ds h1 h2 h3 h4 h5 => exact op_inD hu pins s t H x' y' v u Q I rx ry ⟨d, ds, by rw [hK]; exact h1, by rw [hK]; exact h2, h3, h4, by rw [h5]; exact q⟩
    · exact p.elim
  · split at p
    · rename_i b hb
      have q := p.now S (show Rel k.K Z m H (.bl (!b)) (.bl (!b)) from rfl)
      cases inop_w S Rx Ry hb with
      | sign c z h1 h2 h3 => exact op_notIn_sign pins s t H x' y' v u Q I rx ry ⟨c, z, h1, h2, by rw [h3]; exact q⟩
      | flat a xs h1 h2 h3 h4 h5 => exact op_notIn_seq pins s t H x' y' v u Q I rx ry ⟨a, xs, h1, by rw [hK]; exact .inr h2, h3, h4, by show Q (.bl (!inV x' xs)) H; rw [h5]; exact q⟩
      | deep d ds h1 h2 h3 h4 h5 => exact op_notInD hu pins s t H x' y' v u Q I rx ry ⟨d, ds, by rw [hK]; exact h1, by rw [hK]; exact h2, h3, h4, by rw [h5]; exact q⟩
    · exact p.elim
end
end SP
end
section
set_option maxRecDepth 100000
set_option maxHeartbeats 2000000
/-! Subscripts, slices, built-ins, methods. -/
namespace SP
open PySem PySem.Spec PyProof.Rows L2
section
variable {X : Cx} {k : KC} {w0 : XK}

theorem ix_dict (hu : X.A.units + 1 < cLine) : IxR X (fun x y H Q => ∃ a v, x = .ref a ∧ DGet H a y (some v) ∧ Q v H) := by
  intro value slice pins s t H x y v u Q I rx ry hh hs
  obtain ⟨a, z, rfl, g, q⟩ := hh
  cases rx
  exact tail_any (dict_typeIs I g) PySem.F.slot_dict_getitem.lookup (d_getItem hu I g ry fun w' s3 I3 rw' => ⟨z, H, I3, rw', q⟩) hs

theorem lookS_val : ∀ {ks : List (List Nat)} {ws : List AV} {kvs : List (Key × V)} {c : List Nat} {v : AV} {Z m : List Addr} {H : Hp}, kvs.map (·.1) = ks.map (fun k => Sum.inr (Str.mk k.toArray)) → RelL k.K Z m H ws (kvs.map (·.2)) → lookS c ks ws = some v →
    ∃ v', valV kvs (Sum.inr (Str.mk c.toArray)) = some v' ∧ Rel k.K Z m H v v'
  | [], ws, kvs, c, v, Z, m, H, e, r, h => by simp [lookS] at h
  | a :: ks, [], kvs, c, v, Z, m, H, e, r, h => by simp [lookS] at h
  | a :: ks, w :: ws, [], c, v, Z, m, H, e, r, h => by simp at e
  | a :: ks, w :: ws, (k0, v0) :: kvs, c, v, Z, m, H, e, r, h => by
    simp only [List.map_cons, List.cons.injEq] at e
    obtain ⟨v1, t, e1, r1, r2⟩ := r
    simp only [List.map_cons, List.cons.injEq] at e1
    obtain ⟨e1a, e1b⟩ := e1
    subst e1a
    rw [← e1b] at r2
    by_cases hc : a = c
    · subst hc
      simp only [lookS, if_true, Option.some.injEq] at h
      subst h
      refine ⟨v0, ?_, r1⟩
      have e2 : k0 = Sum.inr (Str.mk a.toArray) := e.1
      subst e2
      simp [valV]
    · simp only [lookS, if_neg hc] at h
      obtain ⟨v', q1, q2⟩ := lookS_val e.2 r2 h
      refine ⟨v', ?_, q2⟩
      have e2 : k0 = Sum.inr (Str.mk a.toArray) := e.1
      subst e2
      have hne : ¬ (Sum.inr (Str.mk a.toArray) : Key) = Sum.inr (Str.mk c.toArray) := fun z => by
        injection z with z
        injection z with z
        exact hc (by simpa using congrArg Array.toList z)
      unfold valV at q1 ⊢
      rw [List.find?_cons_of_neg (by simpa using hne)]
      exact q1

theorem at_rel {Z m : List Addr} {H : Hp} {xs : List AV} {vs : List V} {i : Int} {v : AV} (r : RelL k.K Z m H xs vs) (e : ((ixA xs.length i).bind fun j => xs[j]?) = some v) : ∃ v', atI vs i = some v' ∧ Rel k.K Z m H v v' := by
  obtain ⟨j, e1, e2⟩ := Option.bind_eq_some_iff.mp e
  obtain ⟨v', e3, e4⟩ := r.get e2
  refine ⟨v', ?_, e4⟩
  unfold atI
  rw [r.length]
  exact Option.bind_eq_some_iff.mpr ⟨j, e1, e3⟩

theorem ix_run (hK : X.K = k.K) (hu : X.A.units + 65 < cLine) : IxR X (rB k w0 idxop) := by
  intro value slice pins s t H x' y' v u Q I rx ry hh hs
  obtain ⟨Z, m, h, x, y, S, Rx, Ry, p⟩ := hh
  unfold idxop at p
  split at p
  · rename_i a i
    split at p
    · rename_i c hc
      obtain ⟨r1, r2, r3⟩ := Rx
      refine ix_str value slice pins s t H x' y' v u Q I rx ry ⟨_, i, c, r1, Ry, by rw [str_len]; exact bigL_le r2, ?_, p.now S ⟨rfl, ?_, ?_⟩⟩ hs
      · exact hc
      · show 1 ≤ 1000000
        decide
      · obtain ⟨j, _, e2⟩ := Option.bind_eq_some_iff.mp hc
        have q := List.all_eq_true.mp r3 c (List.mem_of_getElem? e2)
        unfold okS
        simp only [List.all_cons, List.all_nil, Bool.and_true]
        exact q
    · exact p.elim
  · rename_i ks vs c
    split at p
    · rename_i z hz
      obtain ⟨a, kvs, e1, ⟨q1, q2, q3⟩, e2, l⟩ := Rx
      obtain ⟨v', g1, g2⟩ := lookS_val e2 l hz
      subst e1
      obtain ⟨s1, _, _⟩ := Ry
      subst s1
      refine ix_dict (by omega) value slice pins s t H _ _ v u Q I rx ry ⟨a, v', rfl, ?_, p.now S g2⟩ hs
      have q := DGet.k (k := Sum.inr (Str.mk c.toArray)) q3
      rw [g1] at q
      exact q
    · exact p.elim
  · rename_i i _ _
    split at p
    · rename_i xs hx
      split at p
      · rename_i z hz
        obtain ⟨a, vs, e1, t1, l⟩ := seqOf_sq S Rx hx
        obtain ⟨v', g1, g2⟩ := at_rel l hz
        subst e1
        rcases t1 with t1 | ⟨t1, _⟩
        · exact ix_list value slice pins s t H _ y' v u Q I rx ry ⟨a, vs, _, v', rfl, Ry, by rw [hK]; exact t1, g1, p.now S g2⟩ hs
        · exact ix_tup value slice pins s t H _ y' v u Q I rx ry ⟨a, vs, _, v', rfl, Ry, by rw [hK]; exact t1, g1, p.now S g2⟩ hs
      · exact p.elim
    · exact p.elim
  · exact p.elim

theorem okS_sub {s t : List Nat} (h : okS s = true) (hs : ∀ c ∈ t, c ∈ s) : okS t = true := by
  unfold okS at *
  rw [List.all_eq_true] at *
  exact fun c hc => h c (hs c hc)
theorem cut_mem {α : Type} {xs : List α} {lo hi : Option Int} {c : α} (h : c ∈ cutA xs lo hi) : c ∈ xs := List.mem_of_mem_drop (List.mem_of_mem_take h)
theorem cut_len {α : Type} (xs : List α) (lo hi : Option Int) : (cutA xs lo hi).length ≤ xs.length := by
  unfold cutA
  rw [List.length_take, List.length_drop]
  omega
theorem sIx_eq (n d : Nat) (o : Option Int) : sIxA n d o = HT.sIx n d o := by cases o <;> rfl
theorem cut_V {Z m : List Addr} {H : Hp} {xs : List AV} {vs : List V} (r : RelL k.K Z m H xs vs) (lo hi : Option Int) : RelL k.K Z m H (cutA xs lo hi) (cutV vs lo hi) := by
  unfold cutA cutV
  rw [sIx_eq, sIx_eq, r.length]
  exact RelL.take _ (RelL.drop _ r)
theorem cut_S (s : List Nat) (lo hi : Option Int) : cutS ⟨s.toArray⟩ lo hi = ⟨(cutA s lo hi).toArray⟩ := by
  unfold cutA cutS
  rw [sIx_eq, sIx_eq, str_len]
def rSlR (k : KC) (w0 : XK) (fl : Bool) : V → Option Int → Option Int → Hp → VK → Prop := fun x' lo hi H Q => ∃ Z m h x, SRel k.K Z m h H ∧ Rel k.K Z m H x x' ∧ PostG k Z m H w0 (Rel k.K Z) (slop fl x lo hi h) Q
theorem sl_run (hK : X.K = k.K) {fl : Bool} : SlR X (rSlR k w0 fl) := by
  intro pins s t H x' v vl vu lo hi sl Q I rx hsl pl pu hh
  obtain ⟨Z, m, h, x, S, Rx, p⟩ := hh
  unfold slop at p
  split at p
  · rename_i a
    obtain ⟨r1, r2, r3⟩ := Rx
    refine sl_str pins s t H x' v vl vu lo hi sl Q I rx hsl pl pu ⟨_, r1, by rw [str_len]; exact bigL_le r2, ?_⟩
    rw [cut_S]
    exact p.now S ⟨rfl, Nat.le_trans (cut_len a lo hi) r2, okS_sub r3 fun c hc => cut_mem hc⟩
  · rename_i xs
    obtain ⟨a, vs, e1, t1, l⟩ := id Rx
    subst e1
    refine sl_tupA pins s t H _ v vl vu lo hi sl Q I rx hsl pl pu ⟨a, vs, rfl, by rw [hK]; exact t1.sq, fun hw => ?_, fun _ q hq => PostG.tup S p (cut_V l lo hi) hq⟩
    have e : cutA xs lo hi = xs := by
      unfold cutA
      rw [sIx_eq, sIx_eq, ← l.length, hw.1, hw.2, List.drop_zero, l.length]
      exact List.take_of_length_le (by omega)
    rw [e] at p
    exact p.now S Rx
  · split at p
    · rename_i xs hx
      obtain ⟨a, vs, e1, t1, _, l⟩ := listOf_sq S Rx hx
      subst e1
      exact sl_list pins s t H _ v vl vu lo hi sl Q I rx hsl pl pu ⟨a, vs, rfl, by rw [hK]; exact t1, fun q hq => PostG.mk S p (cut_V l lo hi) hq⟩
    · exact p.elim

/-! e[::-1] -/
theorem rev_str (z : Str) (t : Tok) : (slicePicked z none none (some (-1, t))).filterMap (z.cps[·]?) = z.cps.toList.reverse := by
  have e : slicePicked z none none (some (-1, t)) = sliceRange ((z.cps.size : Int) - 1) (-1) (-1) := rfl
  rw [e, PySem.W.krv_sliceRange, PySem.W.krv_range, List.filterMap_reverse, PySem.W.krv_all]
def tRev (K : Fg) (te : TE) : TE := fun t H Q => te t H fun x H1 => (∃ a xs, x = .ref a ∧ SqL K H1 a xs ∧ ∀ p, H1 p = none → Q (.ref p) (upd H1 p (.lst xs.reverse))) ∨ ∃ z : Str, x = .str z ∧ z.length ≤ sizeLine ∧ Q (.str ⟨z.cps.toList.reverse.toArray⟩) H1
theorem pe_rev {e : Expr} {te : TE} {j : Nat} {p1 p2 p3 pos : Pos} (he : PE X e te) : PE X (.Subscript e (.Slice none none (some (.UnaryOp .USub (.Constant (.int 1) j p1) p2)) p3) pos) (tRev X.K te) := by
  refine ⟨fun pins s t H Q I hh => ?_⟩
  refine Subscript_ (thn (he.run pins s t H _ I hh) fun v s1 ⟨x, H1, I1, r1, q1⟩ => ?_)
  have hst : PO X (some (.UnaryOp .USub (.Constant (.int 1) j p1) p2)) (tPart (tUn (rU fun i => .int (-i)) (tC (.int 1)))) := po_some (pe_un un_neg pe_int)
  refine wpAny_Slice (thn (po_none.run pins s1 t H1 (fun o H2 => o = none ∧ H2 = H1) I1 ⟨rfl, rfl⟩) fun vl s2 ⟨l, H2, I2, pl, el, e2⟩ => ?_)
  subst el e2
  refine thn (po_none.run pins s2 t H2 (fun o H3 => o = none ∧ H3 = H2) I2 ⟨rfl, rfl⟩) fun vu s3 ⟨u, H3, I3, pu, eu, e3⟩ => ?_
  subst eu e3
  refine thn (hst.run pins s3 t H3 (fun o H4 => o = some (-1) ∧ H4 = H3) I3 ⟨1, rfl, -1, rfl, rfl, rfl⟩) fun vs s4 ⟨o, H4, I4, ps, eo, e4⟩ => ?_
  subst eo e4
  have I5 : Inv X pins t H4 { s4 with heap := s4.heap.push { cls := .type "slice", data := .fields #[vl, vu, vs] } } := I4.kept (t' := s4.toks) fun b ob q => Heap.get?_push_of_some _ q
  rcases q1 with ⟨a, xs, ex, hx, q⟩ | ⟨z, ex, hz, q⟩
  · subst ex
    cases r1
    obtain ⟨its, r, ht, hz⟩ := I5.list hx
    have hlen := r.length
    refine tail_any (ops := [.ref a, .ref s4.heap.objs.size]) ht.isList.typeIs (PySem.slot_list_getitem.lookup) ?_ (by with_unfolding_all rfl)
    refine wpAny_getItem_list_slice ht.isList (Heap.IsSliceOf.new _ vl vu vs) pl pu ps (by decide) ?_ (by rw [List.size_toArray]; omega)
    rw [PySem.W.krv_pick]
    refine ⟨.ref _, _, I5.laid (t' := s4.toks) (o := .lst xs.reverse) (fun b ob q => Heap.get?_push_of_some _ q) (Nat.le_refl _) ?_, rfl, q _ (I5.hok.fresh (Nat.le_refl _))⟩
    exact ⟨by rw [List.length_reverse]; exact hz, _, 0, r.reverse, Heap.get?_push_size _ rfl⟩
  · subst ex
    obtain ⟨tk, rfl⟩ := r1
    cases pl
    cases pu
    cases ps with
    | int i tk2 =>
      refine tail_any (ops := [.str z tk, .ref s4.heap.objs.size]) (typeIs_str _ _ _) PySem.F.slot_str_getitem.lookup ?_ (by with_unfolding_all rfl)
      refine wpAny_getItem_str_slice (l := none) (u := none) (st := some (-1, tk2)) (Heap.IsSliceOf.new _ _ _ _) rfl ?_
      unfold sliceMade
      rw [if_neg (by simp)]
      rw [rev_str]
      refine ⟨?_, .str _, H4, I5.tok _, ⟨_, rfl⟩, q⟩
      have hz' : z.cps.size ≤ sizeLine := hz
      show (z.cps.toList.reverse.toArray).size ≤ sizeLine
      simpa using hz'
end
end SP
end
section
set_option maxRecDepth 100000
set_option maxHeartbeats 2000000
/-! Built-ins and methods. -/
namespace SP
open PySem PySem.Spec PyProof.Rows L2

def rC (k : KC) (w0 : XK) (f : List AV → AH → R AV) : List V → Hp → VK → Prop := fun vs' H Q => ∃ Z m h vs, SRel k.K Z m h H ∧ RelL k.K Z m H vs vs' ∧ PostG k Z m H w0 (Rel k.K Z) (f vs h) Q
def rM (k : KC) (w0 : XK) (f : AV → List AV → AH → R AV) : V → List V → Hp → VK → Prop := fun x' vs' H Q => ∃ Z m h x vs, SRel k.K Z m h H ∧ Rel k.K Z m H x x' ∧ RelL k.K Z m H vs vs' ∧ PostG k Z m H w0 (Rel k.K Z) (f x vs h) Q

section
variable {X : Cx} {k : KC} {w0 : XK} {Z m : List Addr} {h : AH} {H : Hp}
theorem rel1 {v : AV} {vs' : List V} (r : RelL k.K Z m H [v] vs') : ∃ v', vs' = [v'] ∧ Rel k.K Z m H v v' := by
  obtain ⟨v', t, e, r1, r2⟩ := r
  rw [show t = [] from r2] at e
  exact ⟨v', e, r1⟩
theorem rel2 {v w : AV} {vs' : List V} (r : RelL k.K Z m H [v, w] vs') : ∃ v' w', vs' = [v', w'] ∧ Rel k.K Z m H v v' ∧ Rel k.K Z m H w w' := by
  obtain ⟨v', t, e, r1, r2⟩ := r
  obtain ⟨w', e2, r3⟩ := rel1 r2
  exact ⟨v', w', by rw [e, e2], r1, r3⟩
theorem bools_V : ∀ {xs : List AV} {vs : List V} {bs : List Bool}, bools xs = some bs → RelL k.K Z m H xs vs → vs = bs.map V.bl
  | [], vs, bs, e, r => by
    simp only [bools, Option.some.injEq] at e
    rw [← e, show vs = [] from r]
    rfl
  | x :: xs, vs, bs, e, r => by
    obtain ⟨v, t, e1, r1, r2⟩ := r
    cases x <;> simp only [bools, reduceCtorEq, Option.map_eq_some_iff] at e
    rename_i b
    obtain ⟨cs, e2, e3⟩ := e
    rw [e1, ← e3, bools_V e2 r2, show v = V.bl b from r1]
    rfl
theorem strs_V : ∀ {xs : List AV} {vs : List V} {ts : List (List Nat)}, textsA xs = some ts → RelL k.K Z m H xs vs → vs = (ts.map fun t => Str.mk t.toArray).map V.str ∧ ∀ t ∈ ts, okS t = true
  | [], vs, ts, e, r => by
    simp only [textsA, Option.some.injEq] at e
    rw [← e, show vs = [] from r]
    exact ⟨rfl, fun t ht => absurd ht (by simp)⟩
  | x :: xs, vs, ts, e, r => by
    obtain ⟨v, t, e1, r1, r2⟩ := r
    cases x <;> simp only [textsA, reduceCtorEq, Option.map_eq_some_iff] at e
    rename_i s
    obtain ⟨cs, e2, e3⟩ := e
    obtain ⟨q1, q2⟩ := strs_V e2 r2
    rw [e1, ← e3, q1, r1.1]
    refine ⟨rfl, fun z hz => ?_⟩
    rcases List.mem_cons.mp hz with hz | hz
    · rw [hz]; exact r1.2.2
    · exact q2 z hz
theorem tys_V : ∀ {xs : List AV} {vs : List V} {ns : List String}, tys xs = some ns → RelL k.K Z m H xs vs → vs = ns.map V.ty
  | [], vs, ns, e, r => by
    simp only [tys, Option.some.injEq] at e
    rw [← e, show vs = [] from r]
    rfl
  | x :: xs, vs, ns, e, r => by
    obtain ⟨v, t, e1, r1, r2⟩ := r
    cases x <;> simp only [tys, reduceCtorEq, Option.map_eq_some_iff] at e
    rename_i n
    obtain ⟨cs, e2, e3⟩ := e
    rw [e1, ← e3, tys_V e2 r2, show v = V.ty n from r1]
    rfl
theorem typeOf_X {x : AV} {x' : V} {t : String} (S : SRel k.K Z m h H) (r : Rel k.K Z m H x x') (e : SP.typeOf h x = some t) : TyX k.K H x' (.type t) ∧ ["NoneType", "bool", "int", "str", "tuple", "list"].contains t = true := by
  cases x <;> simp only [SP.typeOf, Option.some.injEq, reduceCtorEq] at e
  case non => subst e; rw [show x' = V.non from r]; exact ⟨.base .non, rfl⟩
  case bl b => subst e; rw [show x' = V.bl b from r]; exact ⟨.base (.bl b), rfl⟩
  case int i => subst e; rw [show x' = V.int i from r]; exact ⟨.base (.int i), rfl⟩
  case str s => subst e; rw [r.1]; exact ⟨.base (.str _), rfl⟩
  case tup xs =>
    subst e
    obtain ⟨a, vs, e1, t1, _⟩ := r
    rw [e1]
    refine ⟨?_, rfl⟩
    rcases t1 with ⟨_, _, q⟩ | ⟨o, q, n, h1, h2, _⟩
    · exact .base (.tup q)
    · exact .kTuple h1 h2
  case lst xs =>
    subst e
    obtain ⟨a, vs, e1, t1, _⟩ := r
    rw [e1]
    refine ⟨?_, rfl⟩
    rcases t1 with ⟨_, _, q | ⟨o, q⟩⟩ | ⟨q, n, h1, _⟩
    · exact .base (.lst q)
    · exact .base (.frz q)
    · exact .kList h1 rfl
  case ref n =>
    obtain ⟨a, e1, e2⟩ := r
    cases hn : h[n]? with
    | none => rw [hn] at e; cases e
    | some c =>
      cases c with
      | lst xs =>
        rw [hn] at e
        simp only [Option.some.injEq] at e
        subst e
        obtain ⟨vs, q, _⟩ := S.cell n a _ e2 hn
        rw [e1]
        exact ⟨.base (.lst q), rfl⟩
theorem kit_all : (["NoneType", "bool", "int", "str", "tuple", "list"].all fun t => typeNames.all fun n => decide (kitB t n = some (isaT t n))) = true := by decide +kernel
theorem kit_is {t n : String} (ht : ["NoneType", "bool", "int", "str", "tuple", "list"].contains t = true) (hn : typeNames.contains n = true) : kitB t n = some (isaT t n) := by
  have q := List.all_eq_true.mp kit_all t (List.elem_iff.mp ht)
  have q2 := List.all_eq_true.mp q n (List.elem_iff.mp hn)
  exact of_decide_eq_true q2
theorem kit_any {K : Fg} {t : String} (ht : ["NoneType", "bool", "int", "str", "tuple", "list"].contains t = true) : ∀ {ns : List String}, ns.all typeNames.contains = true → PySem.W.kitAny K (.type t) (ns.map Value.type) = some (ns.any (isaT t))
  | [], _ => rfl
  | n :: ns, hn => by
    rw [List.all_cons, Bool.and_eq_true] at hn
    have ih := kit_any (K := K) ht hn.2
    show PySem.W.kitAny K (.type t) (Value.type n :: ns.map Value.type) = some (isaT t n || ns.any (isaT t))
    refine kitAny_cons (kit_ty (kit_is ht hn.1)) (fun e => ?_) (fun e => by rw [e]; rfl)
    rw [ih, e]
    rfl
theorem cls_all : ∀ ns : List String, Paired ClsV (ns.map V.ty) (ns.map Value.type)
  | [] => .nil
  | n :: ns => .cons (.ty n) (cls_all ns)

/-! join -/
theorem join_T (sep : List Nat) : ∀ ts : List (List Nat), (Str.join (Str.mk sep.toArray) (ts.map fun t => Str.mk t.toArray)) = Str.mk (joinT sep ts).toArray
  | [] => rfl
  | [x] => rfl
  | x :: y :: r => by
    show Str.mk x.toArray ++ Str.mk sep.toArray ++ Str.join (Str.mk sep.toArray) ((y :: r).map fun t => Str.mk t.toArray) = _
    rw [join_T sep (y :: r), str_app, str_app]
    rfl
theorem okS_join {sep : List Nat} (hs : okS sep = true) : ∀ {ts : List (List Nat)}, (∀ t ∈ ts, okS t = true) → okS (joinT sep ts) = true
  | [], _ => rfl
  | [x], hx => hx x (List.mem_singleton.mpr rfl)
  | x :: y :: r, hx => by
    show okS (x ++ sep ++ joinT sep (y :: r)) = true
    exact okS_app (okS_app (hx x List.mem_cons_self) hs) (okS_join hs fun t ht => hx t (List.mem_cons_of_mem _ ht))
theorem join_len (sep : List Nat) : ∀ ts : List (List Nat), (joinT sep ts).length ≤ (ts.map (·.length)).sum + ts.length * sep.length
  | [] => Nat.zero_le _
  | [x] => by show x.length ≤ (x.length + 0) + (0 + 1) * sep.length; omega
  | x :: y :: r => by
    have ih := join_len sep (y :: r)
    show (x ++ sep ++ joinT sep (y :: r)).length ≤ (x.length + ((y :: r).map (·.length)).sum) + ((y :: r).length + 1) * sep.length
    rw [List.length_append, List.length_append, Nat.add_mul]
    omega

theorem RelL.erase {K : Fg} {Z m : List Addr} {H : Hp} : ∀ {xs : List AV} {vs : List V}, RelL K Z m H xs vs → ∀ j : Nat, RelL K Z m H (xs.eraseIdx j) (vs.eraseIdx j)
  | [], vs, r, j => by
    have e : vs = [] := r
    subst e
    exact rfl
  | x :: xs, vs, r, j => by
    obtain ⟨v, t, e, r1, r2⟩ := r
    subst e
    cases j with
    | zero => exact r2
    | succ j => exact ⟨v, _, rfl, r1, RelL.erase r2 j⟩
theorem ixA_seq {n : Nat} {i : Int} {j : Nat} (h : ixA n i = some j) : seqIndex? i n = some j := by
  unfold ixA at h
  unfold seqIndex?
  split at h
  · rename_i h0
    split at h
    · rename_i h1
      have e0 : ¬ i < 0 := by omega
      simp only [e0, if_false, h0, h1, decide_true, Bool.and_self, if_true]
      exact h
    · cases h
  · rename_i h0
    split at h
    · rename_i h1
      have e0 : i < 0 := by omega
      have e1 : 0 ≤ i + (n : Int) := by omega
      have e2 : i + (n : Int) < n := by omega
      simp only [e0, if_true, e1, e2, decide_true, Bool.and_self]
      exact h
    · cases h
theorem mt_run (hK : X.K = k.K) : ∀ {b : Mth}, (match b with
    | .append => MtM X "list.append" (rM k w0 (mthop .append))
    | .reverse => MtM X "list.reverse" (rM k w0 (mthop .reverse))
    | .pop => MtM X "list.pop" (rM k w0 (mthop .pop))
    | .join => MtR X "str.join" (rM k w0 (mthop .join)))
  | .pop => by
    intro pins s t H x' vs' v us Q I rx rv hh
    obtain ⟨Z, m, h, x, vs, S, Rx, Rv, p⟩ := hh
    unfold mthop at p
    split at p
    case h_4 n i _ =>
      split at p
      · rename_i xs hn
        split at p
        · rename_i j hj
          split at p
          · rename_i y hy
            obtain ⟨a, e1, e2⟩ := Rx
            obtain ⟨w', e3, r3⟩ := rel1 Rv
            obtain ⟨ws, e4, l⟩ := S.cell n a _ e2 hn
            have hn' : n < h.length := (List.getElem?_eq_some_iff.mp hn).1
            obtain ⟨y', f3, f4⟩ := l.get hy
            obtain ⟨f1, f2⟩ := setCell S e2 hn' (l.erase j)
            have hz : ws.length ≤ sizeLine := (I.lstM e4).1
            have hlen := l.length
            have hb : -(sizeLine : Int) ≤ i ∧ i < (sizeLine : Int) := by
              unfold ixA at hj
              split at hj
              · split at hj
                · omega
                · cases hj
              · split at hj
                · omega
                · cases hj
            have hs : (sizeLine : Int) ≤ 16777216 := by decide
            refine mt_popAt pins s t H x' vs' v us Q I rx rv ⟨a, ws, i, j, y', e1, by rw [e3, show w' = V.int i from r3], e4, by omega, by omega, ?_, f3, p _ _ _ f1 f2 (Rel.ext f1 _ _ f4)⟩
            rw [hlen]
            exact ixA_seq hj
          · exact p.elim
        · exact p.elim
      · exact p.elim
    all_goals first | exact p.elim | cases ‹Mth.pop = _›
  | .append => by
    intro pins s t H x' vs' v us Q I rx rv hh
    obtain ⟨Z, m, h, x, vs, S, Rx, Rv, p⟩ := hh
    unfold mthop at p
    split at p
    case h_1 n w _ =>
      split at p
      · rename_i xs hn
        split at p
        · rename_i hl
          obtain ⟨a, e1, e2⟩ := Rx
          obtain ⟨w', e3, r3⟩ := rel1 Rv
          obtain ⟨ws, e4, l⟩ := S.cell n a _ e2 hn
          have hn' : n < h.length := (List.getElem?_eq_some_iff.mp hn).1
          obtain ⟨f1, f2⟩ := setCell S e2 hn' (l.append (RelL.one r3))
          refine mt_append pins s t H x' vs' v us Q I rx rv ⟨a, ws, w', e1, e3, e4, ?_, p _ _ _ f1 f2 rfl⟩
          rw [l.length]
          exact Nat.lt_of_lt_of_le hl (by decide)
        · exact p.elim
      · exact p.elim
    all_goals first | exact p.elim | cases ‹Mth.append = _›
  | .reverse => by
    intro pins s t H x' vs' v us Q I rx rv hh
    obtain ⟨Z, m, h, x, vs, S, Rx, Rv, p⟩ := hh
    unfold mthop at p
    split at p
    case h_2 n _ =>
      split at p
      · rename_i xs hn
        obtain ⟨a, e1, e2⟩ := Rx
        obtain ⟨ws, e4, l⟩ := S.cell n a _ e2 hn
        have hn' : n < h.length := (List.getElem?_eq_some_iff.mp hn).1
        obtain ⟨f1, f2⟩ := setCell S e2 hn' l.reverse
        exact mt_reverse pins s t H x' vs' v us Q I rx rv ⟨a, ws, e1, Rv, e4, p _ _ _ f1 f2 rfl⟩
      · exact p.elim
    all_goals first | exact p.elim | cases ‹Mth.reverse = _›
  | .join => by
    intro pins s t H x' vs' v us Q I rx rv hh
    obtain ⟨Z, m, h, x, vs, S, Rx, Rv, p⟩ := hh
    unfold mthop at p
    split at p
    case h_3 sep w _ =>
      split at p
      · rename_i xs hx
        split at p
        · rename_i ts ht
          split at p
          · rename_i hl
            obtain ⟨r1, r2, r3⟩ := Rx
            obtain ⟨w', e3, rw'⟩ := rel1 Rv
            obtain ⟨a, ws, e4, t4, l⟩ := seqOf_sq S rw' hx
            obtain ⟨q1, q2⟩ := strs_V ht l
            subst e3 e4
            refine mt_join pins s t H x' _ v us Q I rx rv ⟨_, a, ts.map fun t => Str.mk t.toArray, r1, rfl, ?_, ?_, ?_⟩
            · rw [hK, ← q1]
              rcases t4 with t4 | ⟨t4, _⟩
              · exact .inl t4
              · exact .inr t4
            · rw [List.map_map, List.length_map, str_len]
              have e : ((fun x : Str => x.length) ∘ fun t : List Nat => Str.mk t.toArray) = fun t : List Nat => t.length := funext fun t => str_len t
              rw [e]
              have hl' : (ts.map (·.length)).sum + ts.length * sep.length ≤ 1000000 := hl
              omega
            · have e : Txt.join (Str.mk sep.toArray) (ts.map fun t => Str.mk t.toArray) = Str.mk (joinT sep ts).toArray := by
                rw [← join_T]
                exact PySem.StrLaws.glued_eq_join _ _
              rw [e]
              exact p.now S ⟨rfl, Nat.le_trans (join_len sep ts) hl, okS_join r3 q2⟩
          · exact p.elim
        · exact p.elim
      · exact p.elim
    all_goals first | exact p.elim | cases ‹Mth.join = _›
end
end SP
end
section
set_option maxRecDepth 100000
set_option maxHeartbeats 4000000
/-! Built-in functions. -/
namespace SP
open PySem PySem.Spec PyProof.Rows L2
section
variable {X : Cx} {k : KC} {w0 : XK}

/-! ### sorted -/
mutual
theorem kd_D : ∀ (x : AV) (d : Kd), kdOf x = some d → isD x = true ∧ (toD x).depth = Kd.deep d
  | .int _, d, e => by simp only [kdOf, Option.some.injEq] at e; subst e; exact ⟨rfl, rfl⟩
  | .str _, d, e => by simp only [kdOf, Option.some.injEq] at e; subst e; exact ⟨rfl, rfl⟩
  | .tup xs, d, e => by
    simp only [kdOf, Option.map_eq_some_iff] at e
    obtain ⟨ks, e1, e2⟩ := e
    subst e2
    obtain ⟨q1, q2⟩ := kds_D xs ks e1
    refine ⟨q1, ?_⟩
    simp only [toD, PyData.depth, Kd.deep, q2]
  | .non, d, e => by simp [kdOf] at e
  | .bl _, d, e => by simp [kdOf] at e
  | .ty _, d, e => by simp [kdOf] at e
  | .ref _, d, e => by simp [kdOf] at e
  | .lst _, d, e => by simp [kdOf] at e
  | .dcs _ _, d, e => by simp [kdOf] at e
theorem kds_D : ∀ (xs : List AV) (ds : List Kd), kdsOf xs = some ds → isDs xs = true ∧ PyData.depthAll (toDs xs) = Kd.deeps ds
  | [], ds, e => by simp only [kdsOf, Option.some.injEq] at e; subst e; exact ⟨rfl, rfl⟩
  | x :: xs, ds, e => by
    simp only [kdsOf] at e
    split at e
    · rename_i a b ea eb
      simp only [Option.some.injEq] at e
      subst e
      obtain ⟨p1, p2⟩ := kd_D x a ea
      obtain ⟨q1, q2⟩ := kds_D xs b eb
      refine ⟨by simp only [isDs, p1, q1, Bool.and_self], ?_⟩
      simp only [toDs, PyData.depthAll, Kd.deeps, p2, q2]
    · cases e
end
mutual
theorem kd_alike : ∀ (x y : AV) (d e : Kd), kdOf x = some d → kdOf y = some e → Kd.same d e = true → PySem.W.alike (toD x) (toD y) = true ∧ PySem.W.dataLt (toD x) (toD y) = ltA x y := by
  intro x y d e hx hy hs
  cases x <;> simp only [kdOf, Option.some.injEq, reduceCtorEq, Option.map_eq_some_iff] at hx <;> cases y <;> simp only [kdOf, Option.some.injEq, reduceCtorEq, Option.map_eq_some_iff] at hy
  case int.int i j => exact ⟨by simp [toD, PySem.W.alike], PySem.W.dataLt_int i j⟩
  case int.str => subst hx hy; simp [Kd.same] at hs
  case str.int => subst hx hy; simp [Kd.same] at hs
  case int.tup => obtain ⟨_, _, hy⟩ := hy; subst hx hy; simp [Kd.same] at hs
  case str.tup => obtain ⟨_, _, hy⟩ := hy; subst hx hy; simp [Kd.same] at hs
  case tup.int => obtain ⟨_, _, hx⟩ := hx; subst hx hy; simp [Kd.same] at hs
  case tup.str => obtain ⟨_, _, hx⟩ := hx; subst hx hy; simp [Kd.same] at hs
  case str.str s t => exact ⟨by simp [toD, PySem.W.alike], PySem.W.dataLt_str _ _⟩
  case tup.tup xs ys =>
    obtain ⟨ks, e1, hx⟩ := hx
    obtain ⟨js, e2, hy⟩ := hy
    subst hx hy
    obtain ⟨q1, q2⟩ := kds_alike xs ys ks js e1 e2 hs
    refine ⟨?_, ?_⟩
    · simp only [toD, PySem.W.alike]
      exact q1
    · simp only [toD, ltA]
      rw [PySem.W.dataLt_tuple]
      exact q2
theorem kds_alike : ∀ (xs ys : List AV) (ds es : List Kd), kdsOf xs = some ds → kdsOf ys = some es → Kd.sames ds es = true →
    PySem.W.alikeAll (toDs xs) (toDs ys) = true ∧ PyProof.Rows.lexLt itemOrd (PySem.W.keyToksAll (toDs xs)) (PySem.W.keyToksAll (toDs ys)) = ltAs xs ys
  | [], [], ds, es, hx, hy, hs => ⟨by simp [toDs, PySem.W.alikeAll], lex_irrefl _⟩
  | [], y :: ys, ds, es, hx, hy, hs => by
    simp only [kdsOf, Option.some.injEq] at hx
    subst hx
    simp only [kdsOf] at hy
    split at hy
    · simp only [Option.some.injEq] at hy
      subst hy
      simp [Kd.sames] at hs
    · cases hy
  | x :: xs, [], ds, es, hx, hy, hs => by
    simp only [kdsOf, Option.some.injEq] at hy
    subst hy
    simp only [kdsOf] at hx
    split at hx
    · simp only [Option.some.injEq] at hx
      subst hx
      simp [Kd.sames] at hs
    · cases hx
  | x :: xs, y :: ys, ds, es, hx, hy, hs => by
    simp only [kdsOf] at hx hy
    split at hx
    · rename_i a b ea eb
      simp only [Option.some.injEq] at hx
      subst hx
      split at hy
      · rename_i a' b' ea' eb'
        simp only [Option.some.injEq] at hy
        subst hy
        simp only [Kd.sames, Bool.and_eq_true] at hs
        obtain ⟨p1, p2⟩ := kd_alike x y a a' ea ea' hs.1
        obtain ⟨q1, q2⟩ := kds_alike xs ys b b' eb eb' hs.2
        refine ⟨by simp only [toDs, PySem.W.alikeAll, p1, q1, Bool.and_self], ?_⟩
        simp only [toDs, ltAs]
        rw [PySem.W.dataLt_cons p1, q2, p2, eqA_eqv x y (kd_D x a ea).1 (kd_D y a' ea').1]
      · cases hy
    · cases hx
end
mutual
theorem kd_refl : ∀ d : Kd, Kd.same d d = true
  | .i => rfl
  | .s => rfl
  | .t ks => kds_refl ks
theorem kds_refl : ∀ ds : List Kd, Kd.sames ds ds = true
  | [] => rfl
  | d :: ds => by simp only [Kd.sames, kd_refl d, kds_refl ds, Bool.and_self]
end
mutual
theorem kd_eq : ∀ d e : Kd, Kd.same d e = true → d = e := by
  intro d e hs
  cases d <;> cases e <;> simp only [Kd.same, reduceCtorEq, Bool.false_eq_true] at hs
  · rfl
  · rfl
  · rename_i ks js
    rw [kds_eq ks js hs]
theorem kds_eq : ∀ ds es : List Kd, Kd.sames ds es = true → ds = es
  | [], [], _ => rfl
  | [], _ :: _, h => by simp [Kd.sames] at h
  | _ :: _, [], h => by simp [Kd.sames] at h
  | d :: ds, e :: es, h => by
    simp only [Kd.sames, Bool.and_eq_true] at h
    rw [kd_eq d e h.1, kds_eq ds es h.2]
end
theorem sortable_kd {xs : List AV} (hs : sortable xs = true) : xs = [] ∨ ∃ d, Kd.ok d = true ∧ ∀ x ∈ xs, kdOf x = some d := by
  cases xs with
  | nil => exact .inl rfl
  | cons x r =>
    refine .inr ?_
    simp only [sortable] at hs
    split at hs
    · cases hs
    · rename_i d hd
      rw [Bool.and_eq_true] at hs
      refine ⟨d, hs.1, fun y hy => ?_⟩
      rcases List.mem_cons.mp hy with e | hy
      · rw [e]; exact hd
      · have q := List.all_eq_true.mp hs.2 y hy
        split at q
        · rename_i j hj
          rw [hj, kd_eq d j q]
        · cases q

mutual
theorem rel_dp {Z m : List Addr} {H : Hp} : ∀ (x : AV) (v : V), isD x = true → Rel k.K Z m H x v → Dp k.K H v (toD x)
  | .non, v, _, r => by rw [show v = V.non from r]; exact .non
  | .bl b, v, _, r => by rw [show v = V.bl b from r]; exact .bl b
  | .int i, v, _, r => by rw [show v = V.int i from r]; exact .int i
  | .str s, v, _, r => by rw [r.1]; exact .str _
  | .tup xs, v, hd, r => by
    obtain ⟨a, vs, e1, t, l⟩ := r
    rw [e1]
    exact .tup t.sq (rels_dp xs vs hd l)
  | .lst xs, v, hd, r => by
    obtain ⟨a, vs, e1, t, l⟩ := r
    rw [e1]
    exact .lst t.sq (rels_dp xs vs hd l)
  | .ty _, v, hd, r => by simp [isD] at hd
  | .ref _, v, hd, r => by simp [isD] at hd
  | .dcs _ _, v, hd, r => by simp [isD] at hd
theorem rels_dp {Z m : List Addr} {H : Hp} : ∀ (xs : List AV) (vs : List V), isDs xs = true → RelL k.K Z m H xs vs → DpAll k.K H vs (toDs xs)
  | [], vs, _, r => by rw [show vs = [] from r]; exact .nil
  | x :: xs, vs, hd, r => by
    obtain ⟨v, t, e1, r1, r2⟩ := r
    simp only [isDs, Bool.and_eq_true] at hd
    rw [e1]
    exact .cons (rel_dp x v hd.1 r1) (rels_dp xs t hd.2 r2)
end
/-- a value and a thing -/
def VR (K : Fg) (Z m : List Addr) (H : Hp) (u : Value) (x : AV) : Prop := ∃ v, RelV v u ∧ Rel K Z m H x v
theorem each_VR {Z m : List Addr} {H : Hp} : ∀ {xs : List AV} {vs : List V} {us : List Value}, RelL k.K Z m H xs vs → Vals vs us → PySem.W.EachIs (VR k.K Z m H) us xs
  | [], vs, us, r, q => by
    rw [show vs = [] from r] at q
    cases q
    exact .nil
  | x :: xs, vs, us, r, q => by
    obtain ⟨v, t, e1, r1, r2⟩ := r
    rw [e1] at q
    cases q with
    | cons q1 q2 => exact .cons ⟨v, q1, r1⟩ (each_VR r2 q2)
theorem of_each_VR {Z m : List Addr} {H : Hp} : ∀ {xs : List AV} {us : List Value}, PySem.W.EachIs (VR k.K Z m H) us xs → ∃ vs, RelL k.K Z m H xs vs ∧ Vals vs us
  | [], _, .nil => ⟨[], rfl, .nil⟩
  | x :: xs, _, .cons ⟨v, q1, r1⟩ t => by
    obtain ⟨vs, l, q⟩ := of_each_VR t
    exact ⟨v :: vs, ⟨v, vs, rfl, r1, l⟩, .cons q1 q⟩
theorem each_imp {α β : Type} {R1 R2 : α → β → Prop} : ∀ {as : List α} {bs : List β}, PySem.W.EachIs R1 as bs → (∀ a b, b ∈ bs → R1 a b → R2 a b) → PySem.W.EachIs R2 as bs
  | _, _, .nil, _ => .nil
  | _, _, .cons r t, f => .cons (f _ _ List.mem_cons_self r) (each_imp t fun a b hb => f a b (List.mem_cons_of_mem _ hb))

theorem call_sortedR (hK : X.K = k.K) (hu : X.A.units + 65 < cLine) {fl : Bool} : CallR X (.builtin "sorted") (rC k w0 (bltop .sorted fl)) := by
  intro pins st t H vs' us Q I rv hh
  obtain ⟨Z, m, h, vs, S, Rv, p⟩ := hh
  rcases vs with _ | ⟨v, _ | ⟨w, vs⟩⟩
  · simp only [bltop] at p; exact p.elim
  · simp only [bltop] at p
    split at p
    · rename_i xs hx
      split at p
      · rename_i hs
        obtain ⟨v', e0, r0⟩ := rel1 Rv
        obtain ⟨a, ws, e1, t1, _, l⟩ := listOf_sq S r0 hx
        subst e0 e1
        obtain ⟨u, rfl, ru⟩ := vals1 rv
        cases ru
        obtain ⟨its, r, pl, hz⟩ := I.list (by rw [hK]; exact t1)
        have hlen : xs.length ≤ sizeLine := by rw [← l.length]; exact hz
        have good : xs = [] ∨ ∃ d, Kd.ok d = true ∧ ∀ x ∈ xs, kdOf x = some d := sortable_kd hs
        have isd : ∀ x ∈ xs, isD x = true ∧ (toD x).depth ≤ 13 := fun x hx' => by
          rcases good with e | ⟨d, h1, h2⟩
          · rw [e] at hx'; cases hx'
          · obtain ⟨q1, q2⟩ := kd_D x d (h2 x hx')
            refine ⟨q1, ?_⟩
            rw [q2]
            cases d with
            | i => exact Nat.zero_le _
            | s => exact Nat.zero_le _
            | t ks =>
              cases ks with
              | nil => simp [Kd.ok] at h1
              | cons k0 ks =>
                have := of_decide_eq_true h1
                omega
        have hal : PySem.W.AllAlike (xs.map toD) := fun d1 hd1 d2 hd2 => by
          obtain ⟨x1, m1, rfl⟩ := List.mem_map.mp hd1
          obtain ⟨x2, m2, rfl⟩ := List.mem_map.mp hd2
          rcases good with e | ⟨d, h1, h2⟩
          · rw [e] at m1; cases m1
          · exact (kd_alike x1 x2 d d (h2 x1 m1) (h2 x2 m2) (kd_refl d)).1
        have hk : PySem.W.Sortable (xs.map toD) := by
          rcases good with e | ⟨d, h1, h2⟩
          · rw [e]
            exact .inl fun d hd => absurd hd (by simp)
          · cases d with
            | i =>
              refine .inr fun d hd => ?_
              obtain ⟨x, mx, rfl⟩ := List.mem_map.mp hd
              have q := h2 x mx
              cases x <;> simp only [kdOf, Option.some.injEq, reduceCtorEq, Option.map_eq_some_iff, and_false, exists_false] at q
              exact ⟨fun z => by simp [toD] at z, fun _ z => by simp [toD] at z⟩
            | s =>
              refine .inr fun d hd => ?_
              obtain ⟨x, mx, rfl⟩ := List.mem_map.mp hd
              have q := h2 x mx
              cases x <;> simp only [kdOf, Option.some.injEq, reduceCtorEq, Option.map_eq_some_iff, and_false, exists_false] at q
              exact ⟨fun z => by simp [toD] at z, fun _ z => by simp [toD] at z⟩
            | t ks =>
              refine .inl fun d hd => ?_
              obtain ⟨x, mx, rfl⟩ := List.mem_map.mp hd
              have q := h2 x mx
              cases x <;> simp only [kdOf, Option.some.injEq, reduceCtorEq, Option.map_eq_some_iff, and_false, exists_false] at q
              rename_i ys
              cases ys with
              | nil =>
                obtain ⟨a0, q1, q2⟩ := q
                simp only [kdsOf, Option.some.injEq] at q1
                subst q1
                cases q2
                simp [Kd.ok] at h1
              | cons y ys => exact ⟨toD y, toDs ys, by simp only [toD, toDs]⟩
        have er := each_VR l r
        have er2 : PySem.W.EachIs (fun v b => ∃ as, Reads st.heap v (toD b) as) its xs := each_imp er fun u x hx' ⟨v, q1, q2⟩ => Dp.reads I (toD x) v u (by rw [hK]; exact rel_dp x v (isd x hx').1 q2) q1
        have hsort : xs.mergeSort (PySem.W.dataLe false toD) = sortA xs := by
          unfold sortA
          refine PySem.W.sort_congr fun a ha b hb => ?_
          rw [PySem.W.dataLe_eq]
          show (!PySem.W.dataLt (toD b) (toD a)) = !ltA b a
          rcases good with e | ⟨d, h1, h2⟩
          · rw [e] at ha; cases ha
          · rw [(kd_alike b a d d (h2 b hb) (h2 a ha) (kd_refl d)).2]
        refine PySem.W.sorted_data pl.isList er er2 hal hk hlen (fun b hb => ?_) fun out ho eo => ?_
        · have := (isd b hb).2
          omega
        · rw [hsort] at eo
          obtain ⟨ys, l2, r2⟩ := of_each_VR eo
          obtain ⟨c, hc⟩ := sortedAll_at st.heap its out.toArray
          have hf : H (st.heap.objs.size + 1) = none := I.hok.fresh (Nat.le_succ _)
          refine ⟨.ref (st.heap.objs.size + 1), upd H (st.heap.objs.size + 1) (.lst ys), I.laid (t' := st.toks) (fun b o e => sortedAll_old e) (Nat.le_succ _) ?_, rfl, PostG.mk S p l2 hf⟩
          refine ⟨?_, out, c, r2, hc⟩
          rw [r2.length, ho]
          exact hlen
      · exact p.elim
    · exact p.elim
  · simp only [bltop] at p; exact p.elim
end
end SP
end
section
set_option maxRecDepth 100000
set_option maxHeartbeats 4000000
/-! repr, and the other built-ins. -/
namespace SP
open PySem PySem.Spec PyProof.Rows L2

theorem printable : ∀ c < 127, 32 ≤ c → Unicode.isPrintable c = true := by decide +kernel
theorem char_plain {c : Nat} (h : (decide (32 ≤ c) && decide (c < 127) && c != 39 && c != 92) = true) : Builtin.Str.reprChar 39 c = [c] := by
  simp only [Bool.and_eq_true, decide_eq_true_eq, bne_iff_ne, ne_eq] at h
  obtain ⟨⟨⟨h1, h2⟩, h3⟩, h4⟩ := h
  unfold Builtin.Str.reprChar
  rw [if_neg (by simp [h3, h4]), if_neg (by simp; omega), if_neg (by simp; omega), if_neg (by simp; omega), if_pos (printable c h2 h1)]
theorem fold_plain : ∀ (s : List Nat) (acc : Array Nat), plainT s = true → s.foldl (fun out c => out ++ (Builtin.Str.reprChar 39 c).toArray) acc = acc ++ s.toArray
  | [], acc, _ => by simp
  | c :: r, acc, h => by
    unfold plainT at h
    rw [List.all_cons, Bool.and_eq_true] at h
    rw [List.foldl_cons, char_plain h.1, fold_plain r _ h.2]
    simp
theorem reprText_plain {s : List Nat} (h : plainT s = true) : reprText ⟨s.toArray⟩ = ⟨(39 :: s ++ [39]).toArray⟩ := by
  have hn : 39 ∉ s := fun z => by
    unfold plainT at h
    have q := List.all_eq_true.mp h 39 z
    exact absurd q (by decide)
  have hq : reprQuote ⟨s.toArray⟩ = 39 := by
    unfold reprQuote
    rw [if_neg (by simp [hn])]
  unfold reprText
  rw [hq]
  refine congrArg Str.mk ?_
  show Array.push (Array.foldl (fun out c => out ++ (Builtin.Str.reprChar 39 c).toArray) #[39] s.toArray) 39 = _
  rw [List.foldl_toArray, fold_plain s _ h]
  apply Array.ext'
  simp
theorem digs_ok (n : Nat) : ∀ c ∈ digs n, c < 128 := by
  intro c hc
  unfold digs at hc
  obtain ⟨d, hd, rfl⟩ := List.mem_map.mp hc
  have q := Nat.isDigit_of_mem_toDigits (b := 10) (by decide) (by decide) hd
  simp only [Char.isDigit, Bool.and_eq_true, decide_eq_true_eq] at q
  have : d.toNat ≤ 57 := by
    have := q.2
    exact this
  omega
theorem showI_ok (i : Int) : okS (showI i) = true := by
  unfold okS
  rw [List.all_eq_true]
  intro c hc
  refine decide_eq_true ?_
  unfold showI at hc
  split at hc
  · rcases List.mem_cons.mp hc with e | hc
    · omega
    · have := digs_ok _ c hc
      omega
  · have := digs_ok _ c hc
    omega
theorem text_int (i : Int) : Str.ofString (toString i) = ⟨(showI i).toArray⟩ := by
  rw [Str.ofString_eq_toList]
  refine congrArg Str.mk (congrArg List.toArray ?_)
  unfold showI
  cases i with
  | ofNat n =>
    rw [if_neg (show ¬ (Int.ofNat n < 0) from Int.not_lt.mpr (Int.natCast_nonneg n))]
    show (Nat.repr n).toList.map Char.toNat = _
    rw [Nat.toList_repr]
    rfl
  | negSucc n =>
    rw [if_pos (show Int.negSucc n < 0 from Int.negSucc_lt_zero n)]
    show ("-" ++ Nat.repr (n + 1)).toList.map Char.toNat = _
    rw [String.toList_append, Nat.toList_repr]
    rfl
theorem textFrom_T : ∀ (ts : List (List Nat)) (n : Nat) (acc : List Nat), textFrom (n + 1) ⟨acc.toArray⟩ (ts.map fun t => Str.mk t.toArray) = ⟨(acc ++ (ts.map fun t => [44, 32] ++ t).flatten).toArray⟩
  | [], n, acc => by simp [textFrom]
  | t :: ts, n, acc => by
    show textFrom (n + 1 + 1) (Str.mk acc.toArray ++ Str.ofString ", " ++ Str.mk t.toArray) (ts.map fun t => Str.mk t.toArray) = _
    rw [show Str.ofString ", " = Str.mk [44, 32].toArray by decide +kernel, str_app, str_app, textFrom_T ts (n + 1)]
    simp
theorem joinT_flat (x : List Nat) : ∀ ts : List (List Nat), joinT [44, 32] (x :: ts) = x ++ (ts.map fun t => [44, 32] ++ t).flatten
  | [] => by simp [joinT]
  | t :: ts => by
    show x ++ [44, 32] ++ joinT [44, 32] (t :: ts) = _
    rw [joinT_flat t ts]
    simp
theorem listText_T (ts : List (List Nat)) : listText (ts.map fun t => Str.mk t.toArray) = ⟨(91 :: joinT [44, 32] ts ++ [93]).toArray⟩ := by
  unfold listText
  cases ts with
  | nil => decide +kernel
  | cons t ts =>
    show textFrom 1 (Str.ofString "[" ++ Str.ofString "" ++ Str.mk t.toArray) (ts.map fun t => Str.mk t.toArray) ++ Str.ofString "]" = _
    rw [show Str.ofString "[" = Str.mk [91].toArray by decide +kernel, show Str.ofString "" = Str.mk ([] : List Nat).toArray by decide +kernel, show Str.ofString "]" = Str.mk [93].toArray by decide +kernel, str_app, str_app, textFrom_T ts 0, str_app, joinT_flat]
    simp
theorem tupleText_T (ts : List (List Nat)) : tupleText (ts.map fun t => Str.mk t.toArray) = ⟨(40 :: joinT [44, 32] ts ++ (if ts.length = 1 then [44, 41] else [41])).toArray⟩ := by
  unfold tupleText
  rw [show (", " : Str) = Str.mk [44, 32].toArray by decide +kernel, join_T, show ("(" : Str) = Str.mk [40].toArray by decide +kernel, str_app, List.length_map]
  by_cases e : ts.length = 1
  · rw [if_pos (by simp [e]), if_pos e, show ((",)" : String) : Str) = Str.mk [44, 41].toArray by decide +kernel, str_app]
    rfl
  · rw [if_neg (by simp [e]), if_neg e, show ((")" : String) : Str) = Str.mk [41].toArray by decide +kernel, str_app]
    rfl
mutual
theorem repr_D : ∀ (d : AV) (t : List Nat), reprA d = some t → (toD d).shown = ⟨t.toArray⟩ ∧ (toD d).showable = true ∧ (toD d).hasDict = false ∧ okS t = true
  | .non, t, e => by
    simp only [reprA, Option.some.injEq] at e; subst e
    exact ⟨by decide +kernel, rfl, rfl, rfl⟩
  | .bl true, t, e => by
    simp only [reprA, Option.some.injEq] at e; subst e
    exact ⟨by decide +kernel, rfl, rfl, rfl⟩
  | .bl false, t, e => by
    simp only [reprA, Option.some.injEq] at e; subst e
    exact ⟨by decide +kernel, rfl, rfl, rfl⟩
  | .int i, t, e => by
    simp only [reprA] at e
    split at e
    · rename_i hi
      simp only [Option.some.injEq] at e
      subst e
      refine ⟨?_, ?_, rfl, showI_ok i⟩
      · show Str.ofString (toString i) = _
        exact text_int i
      · show decide (i.natAbs.log2 < 1920) = true
        refine decide_eq_true ?_
        by_cases h0 : i.natAbs = 0
        · rw [h0]; decide
        · rw [Nat.log2_lt h0]
          exact Nat.lt_trans hi (by decide +kernel)
    · cases e
  | .str s, t, e => by
    simp only [reprA] at e
    split at e
    · rename_i hs
      simp only [Option.some.injEq] at e
      subst e
      refine ⟨reprText_plain hs, rfl, rfl, ?_⟩
      unfold okS
      rw [List.all_eq_true]
      intro c hc
      refine decide_eq_true ?_
      have hc' : c = 39 ∨ c ∈ s ∨ c = 39 := by simpa using hc
      rcases hc' with e | hc' | e
      · omega
      · have q := List.all_eq_true.mp hs c hc'
        simp only [Bool.and_eq_true, decide_eq_true_eq] at q
        omega
      · omega
    · cases e
  | .tup xs, t, e => by
    simp only [reprA] at e
    split at e
    · cases e
    · rename_i hx
      simp only [Option.some.injEq] at e
      obtain ⟨q1, q2, q3, q4⟩ := reprs_D xs _ hx
      subst e
      refine ⟨?_, q2, q3, rfl⟩
      simp only [toD, PyData.shown, q1]
      decide +kernel
    · rename_i y hx
      simp only [Option.some.injEq] at e
      obtain ⟨q1, q2, q3, q4⟩ := reprs_D xs _ hx
      subst e
      refine ⟨?_, q2, q3, ?_⟩
      · simp only [toD, PyData.shown, q1]
        rw [tupleText_T]
        rfl
      · show okS ([40] ++ y ++ [44, 41]) = true
        exact okS_app (okS_app rfl (q4 y (List.mem_singleton.mpr rfl))) rfl
    · rename_i ys h0 h1 hx
      simp only [Option.some.injEq] at e
      obtain ⟨q1, q2, q3, q4⟩ := reprs_D xs _ hx
      subst e
      refine ⟨?_, q2, q3, ?_⟩
      · simp only [toD, PyData.shown, q1]
        rw [tupleText_T, if_neg]
        intro z
        obtain ⟨y, hy⟩ := List.length_eq_one_iff.mp z
        exact h1 y hy
      · show okS ([40] ++ joinT [44, 32] ys ++ [41]) = true
        exact okS_app (okS_app rfl (okS_join rfl q4)) rfl
  | .lst xs, t, e => by
    simp only [reprA] at e
    split at e
    · cases e
    · rename_i ys hx
      simp only [Option.some.injEq] at e
      obtain ⟨q1, q2, q3, q4⟩ := reprs_D xs _ hx
      subst e
      refine ⟨?_, q2, q3, ?_⟩
      · simp only [toD, PyData.shown, q1]
        exact listText_T ys
      · show okS ([91] ++ joinT [44, 32] ys ++ [93]) = true
        exact okS_app (okS_app rfl (okS_join rfl q4)) rfl
  | .ty _, t, e => by simp [reprA] at e
  | .ref _, t, e => by simp [reprA] at e
  | .dcs _ _, t, e => by simp [reprA] at e
theorem reprs_D : ∀ (ds : List AV) (ts : List (List Nat)), reprAs ds = some ts → PyData.shownAll (toDs ds) = ts.map (fun t => Str.mk t.toArray) ∧ PyData.showableAll (toDs ds) = true ∧ PyData.hasDictAll (toDs ds) = false ∧ ∀ t ∈ ts, okS t = true
  | [], ts, e => by
    simp only [reprAs, Option.some.injEq] at e
    subst e
    exact ⟨rfl, rfl, rfl, fun t ht => absurd ht (by simp)⟩
  | d :: ds, ts, e => by
    simp only [reprAs] at e
    split at e
    · rename_i a b ea eb
      simp only [Option.some.injEq] at e
      subst e
      obtain ⟨p1, p2, p3, p4⟩ := repr_D d a ea
      obtain ⟨q1, q2, q3, q4⟩ := reprs_D ds b eb
      refine ⟨by simp only [toDs, PyData.shownAll, p1, q1, List.map_cons], by simp only [toDs, PyData.showableAll, p2, q2, Bool.and_self], by simp only [toDs, PyData.hasDictAll, p3, q3, Bool.or_self], fun z hz => ?_⟩
      rcases List.mem_cons.mp hz with e | hz
      · rw [e]; exact p4
      · exact q4 z hz
    · cases e
end
section
variable {X : Cx} {k : KC} {w0 : XK}
theorem call_reprR (hK : X.K = k.K) (hu : X.A.units + 65 < cLine) (hg : X.A.guards = some []) {fl : Bool} : CallR X (.builtin "repr") (rC k w0 (bltop .repr fl)) := by
  intro pins st t H vs' us Q I rv hh
  obtain ⟨Z, m, h, vs, S, Rv, p⟩ := hh
  rcases vs with _ | ⟨v, _ | ⟨w, vs⟩⟩
  · simp only [bltop] at p; exact p.elim
  · simp only [bltop] at p
    split at p
    · rename_i d hd
      split at p
      · rename_i tx ht
        split at p
        · rename_i hl
          obtain ⟨v', e0, r0⟩ := rel1 Rv
          subst e0
          obtain ⟨u, rfl, ru⟩ := vals1 rv
          obtain ⟨p1, p2, p3, p4⟩ := flat_dp S depthL v v' d hd r0
          have p4' : (toD d).depth ≤ 12 := p4
          obtain ⟨q1, q2, q3, q4⟩ := repr_D d tx ht
          obtain ⟨as, rd⟩ := Dp.reads I (toD d) v' u (by rw [hK]; exact p1) ru
          have fin : Q (.str ⟨tx.toArray⟩) H := p.now S ⟨rfl, hl, q4⟩
          have hsz : (toD d).shown.length ≤ sizeLine := by
            rw [q1, str_len]
            exact bigL_le hl
          have hq : ∀ (a : Addr) (h' : Heap) (tk1 : Tok) (tk : Nat), (∀ b o, st.heap.get? b = some o → h'.get? b = some o) → EP X pins t Q (.str (toD d).shown tk1) { st with heap := h', toks := tk } := fun a h' tk1 tk hk => ⟨.str ⟨tx.toArray⟩, H, I.kept hk, ⟨tk1, by rw [q1]⟩, fin⟩
          generalize hD : toD d = dd at *
          cases p1 with
          | non =>
            cases (show u = Value.none from ru)
            refine PySem.P.repr_of_none ?_
            have e : (PyData.none).shown = ("None" : Str) := rfl
            rw [e] at hq
            exact hq 0 st.heap _ _ fun _ _ z => z
          | bl b =>
            cases (show u = Value.bool b from ru)
            refine PySem.P.repr_of_bool ?_
            have e : (PyData.bool b).shown = (if b = true then Str.ofString "True" else Str.ofString "False") := by cases b <;> rfl
            rw [e] at hq
            exact hq 0 st.heap _ _ fun _ _ z => z
          | int i =>
            obtain ⟨tk, rfl⟩ := ru
            refine PySem.P.repr_of_int (of_decide_eq_true q2) ?_
            exact hq 0 st.heap _ _ fun _ _ z => z
          | str x =>
            obtain ⟨tk, rfl⟩ := ru
            refine PySem.P.repr_of_str ?_ hsz
            exact hq 0 st.heap _ _ fun _ _ z => z
          | lst hs ha =>
            cases ru
            exact repr_of_reads' rd q2 (fun z => by rw [q3] at z; cases z) hg (by omega) (fun _ _ z => z) (fun h' tk1 tk hk => hq 0 h' tk1 tk hk) hsz
          | tup hs ha =>
            cases ru
            exact repr_of_reads' rd q2 (fun z => by rw [q3] at z; cases z) hg (by omega) (fun _ _ z => z) (fun h' tk1 tk hk => hq 0 h' tk1 tk hk) hsz
        · exact p.elim
      · exact p.elim
    · exact p.elim
  · simp only [bltop] at p; exact p.elim
end
end SP
end
section
set_option maxRecDepth 100000
set_option maxHeartbeats 4000000
/-! The other built-ins. -/
namespace SP
open PySem PySem.Spec PyProof.Rows L2
section
variable {X : Cx} {k : KC} {w0 : XK}

def bltVal : Blt → Value
  | .int1 => .type "int"
  | .list => .type "list"
  | .tuple => .type "tuple"
  | .dictzip => .type "dict"
  | .dictzips => .type "dict"
  | .isi => .builtin "isinstance"
  | .min2 => .builtin "min"
  | .max2 => .builtin "max"
  | b => .builtin (bltStr b)

def Blt.dz : Blt → Bool
  | .dictzip => true
  | .dictzips => true
  | _ => false
theorem signs_rel {K : Fg} {Z m : List Addr} {H : Hp} : ∀ {s : List Nat}, okS s = true → RelL K Z m H (s.map fun c => .str [c]) (s.map fun c => .str ⟨#[c]⟩)
  | [], _ => rfl
  | c :: r, h => by
    unfold okS at h
    simp only [List.all_cons, Bool.and_eq_true] at h
    refine ⟨.str ⟨#[c]⟩, _, rfl, ⟨rfl, by simp [bigL], ?_⟩, signs_rel h.2⟩
    unfold okS
    simp only [List.all_cons, List.all_nil, Bool.and_true]
    exact h.1
theorem signs_vals' : ∀ (s : List Nat) (l : List Value), l.length = s.length → (∀ (j : Nat) (v : Value), l[j]? = some v → ∃ c u, s[j]? = some c ∧ v = .str ⟨#[c]⟩ u) → Vals (s.map fun c => V.str ⟨#[c]⟩) l
  | [], [], _, _ => .nil
  | [], _ :: _, h, _ => by simp at h
  | _ :: _, [], h, _ => by simp at h
  | c :: s, v :: l, h, q => by
    obtain ⟨c', u, e1, e2⟩ := q 0 v rfl
    simp only [List.getElem?_cons_zero, Option.some.injEq] at e1
    subst e1 e2
    exact .cons ⟨u, rfl⟩ (signs_vals' s l (by simpa using h) fun j v hv => by
      have := q (j + 1) v (by rw [List.getElem?_cons_succ]; exact hv)
      rw [List.getElem?_cons_succ] at this
      exact this)
theorem signs_vals {s : List Nat} {acc : Array Value} (it : ItemsOf (SignAt ⟨s.toArray⟩) acc (Str.mk s.toArray).cps.size) : Vals (s.map fun c => V.str ⟨#[c]⟩) acc.toList :=
  signs_vals' s acc.toList (by rw [Array.length_toList, it.1]; simp) fun j v hv => by
    obtain ⟨c, u, e1, e2⟩ := it.2 j v (by rw [← Array.getElem?_toList]; exact hv)
    exact ⟨c, u, by simpa using e1, e2⟩
/-- list(text) -/
theorem call_listS (hc : X.calm = true) : CallR X (.type "list") (fun xs H Q => ∃ s : List Nat, xs = [.str ⟨s.toArray⟩] ∧ s.length ≤ bigL ∧ ∀ l, H l = none → Q (.ref l) (upd H l (.lst (s.map fun c => .str ⟨#[c]⟩)))) := by
  intro pins st t H xs us Q I r h
  obtain ⟨s, rfl, hl, q⟩ := h
  obtain ⟨u, rfl, rx⟩ := vals1 r
  obtain ⟨tk, rfl⟩ := rx
  have hz : s.length ≤ sizeLine := bigL_le hl
  refine call_list_str (I.ok.hd hc) ⟨s.toArray⟩ tk (fun h' tk' acc c' kp e it => ?_) (by simpa using hz)
  have vv : Vals (s.map fun c => V.str ⟨#[c]⟩) acc.toList := signs_vals it
  exact ⟨.ref st.heap.objs.size, _, I.laid (t' := tk') kp (Nat.le_refl _) (show ObjOk X.prog X.w _ h' _ (.lst _) from ⟨by rw [List.length_map]; exact hz, acc.toList, c', vv, e⟩), rfl, q _ (I.hok.fresh (Nat.le_refl _))⟩
theorem sum_rel {K : Fg} {Z m : List Addr} {H : Hp} : ∀ {xs : List AV} {i : Int} {vs : List V}, sumA xs = some i → RelL K Z m H xs vs → ∃ ns : List Int, vs = ns.map V.int ∧ i = ns.sum
  | [], i, vs, e, r => by
    simp only [sumA, Option.some.injEq] at e
    exact ⟨[], r, e.symm⟩
  | x :: xs, i, vs, e, r => by
    cases x <;> simp only [sumA, reduceCtorEq] at e
    rename_i j
    obtain ⟨k, e1, e2⟩ := Option.map_eq_some_iff.mp e
    obtain ⟨v, t, rfl, r1, r2⟩ := r
    obtain ⟨ns, q1, q2⟩ := sum_rel e1 r2
    have r1' : v = .int j := r1
    subst r1' q1
    exact ⟨j :: ns, rfl, by rw [List.sum_cons, ← q2, ← e2]⟩
theorem call_blt (hK : X.K = k.K) (hc : X.calm = true) (hu : X.A.units + 65 < cLine) (hg : X.A.guards = some []) {fl : Bool} : ∀ {b : Blt}, b.dz = false → CallR X (bltVal b) (rC k w0 (bltop b fl))
  | .sorted, _ => call_sortedR hK hu
  | .repr, _ => call_reprR hK hu hg
  | .dictzip, z => Bool.noConfusion z
  | .dictzips, z => Bool.noConfusion z
  | .sum, _ => by
    intro pins st t H vs' us Q I rv hh
    obtain ⟨Z, m, h, vs, S, Rv, p⟩ := hh
    rcases vs with _ | ⟨v, _ | ⟨w, vs⟩⟩
    · simp only [bltop] at p; exact p.elim
    · obtain ⟨v', e0, r0⟩ := rel1 Rv
      subst e0
      simp only [bltop] at p
      split at p
      · rename_i xs hx
        split at p
        · rename_i i hi
          obtain ⟨a, ws, e1, t1, _, l⟩ := listOf_sq S r0 hx
          obtain ⟨ns, e2, e3⟩ := sum_rel hi l
          subst e1 e2 e3
          exact cr_sum hc pins st t H _ us Q I rv ⟨a, ns, rfl, by rw [hK]; exact t1, p.now S rfl⟩
        · exact p.elim
      · exact p.elim
    · simp only [bltop] at p; exact p.elim
  | .len, _ => by
    intro pins st t H vs' us Q I rv hh
    obtain ⟨Z, m, h, vs, S, Rv, p⟩ := hh
    rcases vs with _ | ⟨v, _ | ⟨w, vs⟩⟩
    · simp only [bltop] at p; exact p.elim
    · obtain ⟨v', e0, r0⟩ := rel1 Rv
      subst e0
      simp only [bltop] at p
      split at p
      · rename_i s
        obtain ⟨r1, r2, r3⟩ := r0
        exact call_len pins st t H _ us Q I rv ⟨v', s.length, rfl, by rw [r1]; exact ⟨by rw [str_len]; exact bigL_le r2, by rw [str_len]⟩, p.now S rfl⟩
      · split at p
        · rename_i xs hx
          obtain ⟨a, ws, e1, t1, l⟩ := seqOf_sq S r0 hx
          refine call_len pins st t H _ us Q I rv ⟨v', xs.length, rfl, ?_, p.now S rfl⟩
          rw [e1, hK]
          rcases t1 with t1 | ⟨t1, _⟩
          · exact .inl ⟨ws, t1, l.length.symm⟩
          · exact .inr ⟨ws, t1, l.length.symm⟩
        · exact p.elim
    · simp only [bltop] at p; exact p.elim
  | .abs, _ => by
    intro pins st t H vs' us Q I rv hh
    obtain ⟨Z, m, h, vs, S, Rv, p⟩ := hh
    unfold bltop at p
    split at p
    case h_2 i _ =>
      obtain ⟨v', e0, r0⟩ := rel1 Rv
      rw [show v' = V.int i from r0] at e0
      exact call_abs pins st t H _ us Q I rv ⟨i, e0, p.now S rfl⟩
    all_goals first | exact p.elim | cases ‹Blt.abs = _›
  | .min2, _ => by
    intro pins st t H vs' us Q I rv hh
    obtain ⟨Z, m, h, vs, S, Rv, p⟩ := hh
    unfold bltop at p
    split at p
    case h_3 i j _ =>
      obtain ⟨v', w', e0, r0, r1⟩ := rel2 Rv
      rw [show v' = V.int i from r0, show w' = V.int j from r1] at e0
      exact call_min2 hc pins st t H _ us Q I rv ⟨i, j, e0, p.now S rfl⟩
    all_goals first | exact p.elim | cases ‹Blt.min2 = _›
  | .max2, _ => by
    intro pins st t H vs' us Q I rv hh
    obtain ⟨Z, m, h, vs, S, Rv, p⟩ := hh
    unfold bltop at p
    split at p
    case h_4 i j _ =>
      obtain ⟨v', w', e0, r0, r1⟩ := rel2 Rv
      rw [show v' = V.int i from r0, show w' = V.int j from r1] at e0
      exact call_max2 hc pins st t H _ us Q I rv ⟨i, j, e0, p.now S rfl⟩
    all_goals first | exact p.elim | cases ‹Blt.max2 = _›
  | .int1, _ => by
    intro pins st t H vs' us Q I rv hh
    obtain ⟨Z, m, h, vs, S, Rv, p⟩ := hh
    unfold bltop at p
    split at p
    case h_5 i _ =>
      obtain ⟨v', e0, r0⟩ := rel1 Rv
      rw [show v' = V.int i from r0] at e0
      exact call_int1 pins st t H _ us Q I rv (.inl ⟨i, e0, p.now S rfl⟩)
    case h_6 b _ =>
      obtain ⟨v', e0, r0⟩ := rel1 Rv
      rw [show v' = V.bl b from r0] at e0
      exact call_int1 pins st t H _ us Q I rv (.inr ⟨b, e0, p.now S rfl⟩)
    all_goals first | exact p.elim | cases ‹Blt.int1 = _›
  | .divmod, _ => by
    intro pins st t H vs' us Q I rv hh
    obtain ⟨Z, m, h, vs, S, Rv, p⟩ := hh
    unfold bltop at p
    split at p
    case h_7 i j _ =>
      split at p
      · rename_i hd
        obtain ⟨v', w', e0, r0, r1⟩ := rel2 Rv
        rw [show v' = V.int i from r0, show w' = V.int j from r1] at e0
        refine call_divmodW pins st t H _ us Q I rv ⟨i, j, e0, ⟨hd.2.1, PyProof.noPylong_small (by omega)⟩, fun q hq => PostG.tup S p ⟨_, _, rfl, rfl, _, _, rfl, rfl, rfl⟩ hq⟩
      · exact p.elim
    all_goals first | exact p.elim | cases ‹Blt.divmod = _›
  | .all, _ => by
    intro pins st t H vs' us Q I rv hh
    obtain ⟨Z, m, h, vs, S, Rv, p⟩ := hh
    unfold bltop at p
    split at p
    case h_8 v _ =>
      split at p
      · rename_i xs hx
        split at p
        · rename_i bs hb
          obtain ⟨v', e0, r0⟩ := rel1 Rv
          obtain ⟨a, ws, e1, t1, _, l⟩ := listOf_sq S r0 hx
          subst e1
          refine cr_all hc pins st t H _ us Q I rv ⟨a, bs, e0, ?_, p.now S rfl⟩
          rw [hK, ← bools_V hb l]
          exact t1
        · exact p.elim
      · exact p.elim
    all_goals first | exact p.elim | cases ‹Blt.all = _›
  | .any, _ => by
    intro pins st t H vs' us Q I rv hh
    obtain ⟨Z, m, h, vs, S, Rv, p⟩ := hh
    unfold bltop at p
    split at p
    case h_9 v _ =>
      split at p
      · rename_i xs hx
        split at p
        · rename_i bs hb
          obtain ⟨v', e0, r0⟩ := rel1 Rv
          obtain ⟨a, ws, e1, t1, _, l⟩ := listOf_sq S r0 hx
          subst e1
          refine cr_any hc pins st t H _ us Q I rv ⟨a, bs, e0, ?_, p.now S rfl⟩
          rw [hK, ← bools_V hb l]
          exact t1
        · exact p.elim
      · exact p.elim
    all_goals first | exact p.elim | cases ‹Blt.any = _›
  | .list, _ => by
    intro pins st t H vs' us Q I rv hh
    obtain ⟨Z, m, h, vs, S, Rv, p⟩ := hh
    rcases vs with _ | ⟨v, _ | ⟨w, vs⟩⟩
    · simp only [bltop] at p; exact p.elim
    · simp only [bltop] at p
      split at p
      · rename_i z
        obtain ⟨v', e0, r0⟩ := rel1 Rv
        obtain ⟨q1, q2, q3⟩ := r0
        exact call_listS hc pins st t H _ us Q I rv ⟨z, by rw [e0, q1], q2, fun l hl => PostG.mk S p (signs_rel q3) hl⟩
      split at p
      · rename_i xs hx
        obtain ⟨v', e0, r0⟩ := rel1 Rv
        obtain ⟨a, ws, e1, t1, l⟩ := seqOf_sq S r0 hx
        subst e1
        refine call_list_of pins st t H _ us Q I rv ⟨a, ws, e0, ?_, fun q hq => PostG.mk S p l hq⟩
        rw [hK]
        rcases t1 with t1 | ⟨t1, _⟩
        · exact .inl t1
        · exact .inr t1
      · exact p.elim
    · simp only [bltop] at p; exact p.elim
  | .tuple, _ => by
    intro pins st t H vs' us Q I rv hh
    obtain ⟨Z, m, h, vs, S, Rv, p⟩ := hh
    rcases vs with _ | ⟨v, _ | ⟨w, vs⟩⟩
    · simp only [bltop] at p; exact p.elim
    · simp only [bltop] at p
      split at p
      · rename_i xs hx
        obtain ⟨v', e0, r0⟩ := rel1 Rv
        obtain ⟨a, ws, e1, t1, l⟩ := seqOf_sq S r0 hx
        subst e1
        refine call_tuple_of pins st t H _ us Q I rv ⟨a, ws, e0, ?_⟩
        rw [hK]
        rcases t1 with t1 | ⟨t1, ex⟩
        · exact .inl ⟨t1, fun q hq => PostG.tup S p l hq⟩
        · rw [ex] at r0
          exact .inr ⟨t1, p.now S r0⟩
      · exact p.elim
    · simp only [bltop] at p; exact p.elim
  | .isi, _ => by
    intro pins st t H vs' us Q I rv hh
    obtain ⟨Z, m, h, vs, S, Rv, p⟩ := hh
    unfold bltop at p
    split at p
    case h_15 v n _ =>
      split at p
      · rename_i ty hty
        split at p
        · rename_i hn
          obtain ⟨v', w', e0, r0, r1⟩ := rel2 Rv
          obtain ⟨q1, q2⟩ := typeOf_X S r0 hty
          rw [show w' = V.ty n from r1] at e0
          exact call_isi pins st t H _ us Q I rv ⟨v', .ty n, .type ty, .type n, isaT ty n, e0, .ty n, by rw [hK]; exact q1, kit_ty (kit_is q2 hn), p.now S rfl⟩
        · exact p.elim
      · exact p.elim
    case h_16 v ts _ =>
      split at p
      · rename_i ty ns hty hts
        split at p
        · rename_i hn
          obtain ⟨v', w', e0, r0, r1⟩ := rel2 Rv
          obtain ⟨q1, q2⟩ := typeOf_X S r0 hty
          obtain ⟨a, ws, e1, t1, l⟩ := r1
          subst e1
          have ew := tys_V hts l
          rcases t1 with ⟨_, _, t1⟩ | ⟨o, its, n, k1, k2, k3, k4, k5⟩
          · exact call_isiT pins st t H _ us Q I rv ⟨v', a, ws, .type ty, ns.map Value.type, ns.any (isaT ty), e0, t1, by rw [ew]; exact cls_all ns, by rw [hK]; exact q1, kit_any q2 hn, p.now S rfl⟩
          · obtain ⟨oc, od, dt, sl⟩ := o
            simp only at k2 k3
            subst k2 k3
            rw [ew] at k5
            have e3 : its.toList = ns.map Value.type := ClsV.all (cls_all ns) k5
            refine call_isiK pins st t H _ us Q I rv ⟨v', a, od, ns.map Value.type, n, sl, .type ty, ns.any (isaT ty), e0, ?_, by rw [hK]; exact q1, kit_any q2 hn, p.now S rfl⟩
            rw [hK, k1, ← e3]
        · exact p.elim
      · exact p.elim
    all_goals first | exact p.elim | cases ‹Blt.isi = _›
end
end SP
end
section
set_option maxRecDepth 100000
set_option maxHeartbeats 4000000
/-! Defs, contexts, expressions. -/
namespace SP
open PySem PySem.Spec PyProof.Rows L2

/-- a def's promise, wherever no repr is under way -/
structure FnG (P : Program) (w : World) (K : Fg) (mg : Str → Option Value) (base : Heap) (CX : CXT) (n : Nat) (f : Addr) (fd : FuncData) (ps : List Str) (sp : Sp) : Prop where
  len : ∀ vs H Q W, sp vs H Q W → vs.length = ps.length
  run : ∀ (A : Around) (outer : List Env) (s : Shared) (H : Hp) (args : Args) (us : List Value) (vs : List V) (Q : VK) (W : XK), Room n A → A.guards = some [] → Env0 P w K mg base A outer s H → BindsTo s fd args (ps.zip us) → Vals vs us → sp vs H Q W →
    codeAny (model P w) A (.call (.ref f) args) (CR CX outer P w H s Q W) s
/-- what a def is worth: a run -/
def spF (k : KC) (np : Nat) (f : List AV → AH → R AV) : Sp := fun vs' H Q W => ∃ Z m h vs, SRel k.K Z m h H ∧ RelL k.K Z m H vs vs' ∧ vs.length = np ∧ PostG k Z m H W (Rel k.K Z) (f vs h) Q

def bltNames : List String := ["len", "abs", "min", "max", "int", "divmod", "all", "any", "sum", "sorted", "list", "tuple", "repr", "isinstance", "dict", "zip", "range", "enumerate", "str", "bool"]

structure Good (k : KC) (CX : CXT) (w0 : XK) (C : Ctx) (c : CC) (X : Cx) : Prop where
  K : X.K = k.K
  N : c.N = X.N
  nd : X.N.Nodup
  sc : c.sc = X.env.scope
  kind : X.env.scope.kind = .function
  calm : X.calm = true
  own : PassesOwn (model X.prog X.w) X.A X.env X.xe
  pass : Passes CX X w0
  units : X.A.units + 200 < cLine
  guards : X.A.guards = some []
  fn : ∀ x, locB c x = true → Loc X.env.scope x ∧ (X.fn x = true ∨ X.env.scope.names.lookup x = some .local)
  blt : ∀ x, bltNames.contains x = true → X.mg (Str.ofString x) = none
  fns : ∀ (f : Nat) (n : Str), c.fns[f]? = some n → ∃ a fd ps lvl, X.mg n = some (.ref a) ∧ PySem.W.keepIn X.K (.ref a) = true ∧ FnG X.prog X.w X.K X.mg X.base CX lvl a fd ps (spF k ps.length (C.call f)) ∧ Room lvl X.A ∧ Binds X.K fd ps [] ∧
    ∀ vs h, vs.length ≠ ps.length → C.call f vs h = .bad
  globs : ∀ (g : Nat) (n : Str), c.globs[g]? = some n → ∃ v u v', C.globs[g]? = some v ∧ X.mg n = some u ∧ RelV v' u ∧ ∀ Z m H, Rel k.K Z m H v v'
  cx0 : ∀ outer H s e s', CX outer H s E0 e s' → False

theorem gl_of {c : CC} {X : Cx} {x : Str} (h : c.sc = X.env.scope) (g : glB c.sc x = true) : Gl X x := by
  have q : c.sc.names.lookup x = some .globalImplicit := of_decide_eq_true g
  rw [h] at q
  exact q
theorem vis_of {sc : Scope} {x : Str} (h : visB sc x = true) : Vis sc x := by
  unfold visB at h
  split at h
  · rename_i e; exact .inl e
  · rename_i e; exact .inr (.inl e)
  · rename_i e; exact .inr (.inr e)
  · cases h
theorem dbg_of {x : Str} (h : dbg x = true) : (x == ("__debug__" : Str)) = false ∧ (x == ("__classdict__" : Str)) = false ∧ x ≠ ("__name__" : Str) := by
  unfold dbg at h
  simp only [Bool.and_eq_true, decide_eq_true_eq] at h
  exact ⟨beq_eq_false_iff_ne.mpr h.1.1, beq_eq_false_iff_ne.mpr h.1.2, h.2⟩

section
variable {X : Cx} {CX : CXT} {n : Nat} {f : Addr} {fd : FuncData} {ps : List Str} {sp : Sp} {w0 : XK} {x : Str} {p pos : Pos} {e : Expr} {es : List Expr} {t : TA}
theorem run_fnG {pins : List (Addr × Obj)} {u : L2.St} {H : Hp} {s : Shared} {Q : VK} {us : List Value} {vs : List V} (F : FnG X.prog X.w X.K X.mg X.base CX n f fd ps sp) (hr : Room n X.A) (hg : X.A.guards = some []) (hb : Binds X.K fd ps []) (hx : Passes CX X w0)
    (I : Inv X pins u H s) (r : Vals vs us) (h : sp vs H Q w0) : wpAny (model X.prog X.w) X.A (call (.ref f) us) (EP X pins u Q) X.xe s := by
  have hl : us.length = ps.length := by rw [← Vals.length r]; exact F.len _ _ _ _ h
  have hb' := hb s us I.kIn (by rw [List.append_nil]; exact hl)
  rw [List.append_nil] at hb'
  refine wpAny_call (codeAny_mono (F.run X.A X.stack s H ⟨us, []⟩ us vs Q w0 hr hg I.env0 hb' r h) fun r s' hq => ?_)
  cases r with
  | error e => exact hx pins u H s e s' I hq
  | ok fl =>
    cases fl with
    | ret v => exact I.after hq
    | next => exact False.elim hq
    | brk => exact False.elim hq
    | cont => exact False.elim hq
theorem pe_callG (F : FnG X.prog X.w X.K X.mg X.base CX n f fd ps sp) (hr : Room n X.A) (hg' : X.A.guards = some []) (hg : Gl X x) (hm : X.mg x = some (.ref f)) (hk : PySem.W.keepIn X.K (.ref f) = true) (hb : Binds X.K fd ps []) (hx : Passes CX X w0)
    (ha : PA X (e :: es) t) (hdb : (x == ("__debug__" : Str)) = false) (he : starEach (e :: es) X.env = (false, eval e X.env) :: starEach es X.env) (hpl : (backTo pos (starEach es X.env)).any (·.1) = false) :
    PE X (.Call (.Name x p) (e :: es) [] pos) (fun u H Q => t u H fun vs H1 => sp vs H1 Q w0) := by
  refine ⟨fun pins s u H Q I hh => ?_⟩
  refine wpAny_Call_Name_kw (ld_glob I hg hm ?_ hdb)
  refine PySem.W.callWith_K (h₀ := X.base) I.ok.mod.kin hk (thn (ha.run pos pins s u H _ I hh) fun us s1 ⟨vs, H1, I1, r, q⟩ => ⟨I1.kIn, ?_⟩) he hpl
  exact run_fnG F hr hg' hb hx I1 r q
theorem pe_callG0 (F : FnG X.prog X.w X.K X.mg X.base CX n f fd ps sp) (hr : Room n X.A) (hg' : X.A.guards = some []) (hg : Gl X x) (hm : X.mg x = some (.ref f)) (hk : PySem.W.keepIn X.K (.ref f) = true) (hb : Binds X.K fd ps []) (hx : Passes CX X w0)
    (hdb : (x == ("__debug__" : Str)) = false) : PE X (.Call (.Name x p) [] [] pos) (fun u H Q => sp [] H Q w0) := by
  refine ⟨fun pins s u H Q I hh => ?_⟩
  refine wpAny_Call_Name_kw (ld_glob I hg hm ?_ hdb)
  exact PySem.W.callWith_K0 I.kIn hk (run_fnG (us := []) F hr hg' hb hx I .nil hh)
end

/-! ### what isn't a star, a set, a slice -/
theorem chk_star {c : CC} {e : E} {x : Expr} (h : chkE c e x = true) (r : List Expr) (env : Env) : starEach (x :: r) env = (false, eval x env) :: starEach r env := by
  cases x <;> first | rfl | (cases e <;> simp [chkE] at h)
theorem chk_marks {c : CC} {e : E} {x : Expr} (h : chkE c e x = true) (op : CmpOp) : behindInMarks op x = false := by
  cases x <;> first | rfl | (cases e <;> simp [chkE] at h)
theorem chk_ix {c : CC} {e : E} {x : Expr} (h : chkE c e x = true) : PlainIx x := by
  intro o i
  cases x <;> first | rfl | (cases e <;> simp [chkE] at h)
theorem chk_fold {c : CC} {e : E} {x : Expr} (h : chkE c e x = true) (env : Env) (v : Value) : foldedSetIterable x env v = pure v := by
  cases x <;> first | rfl | (cases e <;> simp [chkE] at h)
theorem chkA_stars {c : CC} : ∀ {es : Es} {xs : List Expr}, chkA c es xs = true → ∀ (pos : Pos) (env : Env), (backTo pos (starEach xs env)).any (·.1) = false
  | .nil, [], _, _, _ => rfl
  | .nil, _ :: _, h, _, _ => by simp [chkA] at h
  | .cons e r, [], h, _, _ => by simp [chkA] at h
  | .cons e r, x :: xs, h, pos, env => by
    simp only [chkA, Bool.and_eq_true] at h
    rw [chk_star h.1]
    have ih := chkA_stars h.2 pos env
    unfold backTo at ih ⊢
    rw [List.map_cons, List.any_cons, ih]
    rfl
theorem chkA_all {c : CC} : ∀ {es : Es} {xs : List Expr}, chkA c es xs = true → ∀ (pos : Pos) (env : Env), (backTo pos (starEach xs env)).all (fun x => !x.1) = true
  | .nil, [], _, _, _ => rfl
  | .nil, _ :: _, h, _, _ => by simp [chkA] at h
  | .cons e r, [], h, _, _ => by simp [chkA] at h
  | .cons e r, x :: xs, h, pos, env => by
    simp only [chkA, Bool.and_eq_true] at h
    rw [chk_star h.1]
    have ih := chkA_all h.2 pos env
    unfold backTo at ih ⊢
    rw [List.map_cons, List.all_cons, ih]
    rfl
end SP
end
section
set_option maxRecDepth 100000
set_option maxHeartbeats 4000000
/-! What is walked. -/
namespace SP
open PySem PySem.Spec PyProof.Rows L2

def ZOk (Z : List Addr) (H : Hp) (Z' : List Addr) : Prop := ∀ a ∈ Z', a ∈ Z ∨ H a = none
theorem ZOk.refl {Z : List Addr} {H : Hp} : ZOk Z H Z := fun _ h => .inl h
theorem ZOk.not {Z Z' : List Addr} {H : Hp} (z : ZOk Z H Z') {a : Addr} {o : HO} (h1 : a ∉ Z) (h2 : H a = some o) : a ∉ Z' := fun h => by
  rcases z a h with q | q
  · exact h1 q
  · rw [h2] at q; cases q
mutual
theorem Rel.zs {K : Fg} {Z Z' m : List Addr} {H : Hp} (z : ZOk Z H Z') : ∀ (x : AV) (v : V), Rel K Z m H x v → Rel K Z' m H x v
  | .non, v, r => r
  | .bl _, v, r => r
  | .int _, v, r => r
  | .str _, v, r => r
  | .ty _, v, r => r
  | .ref n, v, r => r
  | .tup xs, v, r => by
    obtain ⟨a, vs, e1, t, l⟩ := r
    refine ⟨a, vs, e1, ?_, RelL.zs z xs vs l⟩
    rcases t with ⟨h1, h2, h3⟩ | t
    · exact .inl ⟨h1, z.not h2 h3, h3⟩
    · exact .inr t
  | .lst xs, v, r => by
    obtain ⟨a, vs, e1, t, l⟩ := r
    refine ⟨a, vs, e1, ?_, RelL.zs z xs vs l⟩
    rcases t with ⟨h1, h2, h3 | ⟨o, h3⟩⟩ | t
    · exact .inl ⟨h1, z.not h2 h3, .inl h3⟩
    · exact .inl ⟨h1, z.not h2 h3, .inr ⟨o, h3⟩⟩
    · exact .inr t
  | .dcs ks ws, v, r => by
    obtain ⟨a, kvs, e1, ⟨h1, h2, h3⟩, k, l⟩ := r
    exact ⟨a, kvs, e1, ⟨h1, z.not h2 h3, h3⟩, k, RelL.zs z ws _ l⟩
theorem RelL.zs {K : Fg} {Z Z' m : List Addr} {H : Hp} (z : ZOk Z H Z') : ∀ (xs : List AV) (vs : List V), RelL K Z m H xs vs → RelL K Z' m H xs vs
  | [], vs, r => r
  | x :: xs, vs, r => by
    obtain ⟨v, t, e1, r1, r2⟩ := r
    exact ⟨v, t, e1, Rel.zs z x v r1, RelL.zs z xs t r2⟩
end

/-- as Ext; what lies at Z may change -/
structure ExtZ (Z m : List Addr) (H : Hp) (m' : List Addr) (H' : Hp) : Prop where
  app : ∃ r, m' = m ++ r ∧ ∀ a ∈ r, H a = none
  keep : ∀ a o, a ∉ m → a ∉ Z → H a = some o → H' a = some o
  live : ∀ a ∈ m, H' a ≠ none
theorem Ext.toZ {Z m m' : List Addr} {H H' : Hp} (e : Ext m H m' H') : ExtZ Z m H m' H' := ⟨e.app, fun a o h1 _ h2 => e.keep a o h1 h2, e.live⟩
theorem ExtZ.notMem {Z m m' : List Addr} {H H' : Hp} (e : ExtZ Z m H m' H') {a : Addr} {o : HO} (ha : a ∉ m) (h : H a = some o) : a ∉ m' := by
  obtain ⟨r, e1, e2⟩ := e.app
  rw [e1]
  intro z
  rcases List.mem_append.mp z with z | z
  · exact ha z
  · rw [e2 a z] at h
    cases h
theorem ExtZ.get {Z m m' : List Addr} {H H' : Hp} (e : ExtZ Z m H m' H') {n : Nat} {a : Addr} (h : m[n]? = some a) : m'[n]? = some a := by
  obtain ⟨r, e1, _⟩ := e.app
  rw [e1, List.getElem?_append_left (List.getElem?_eq_some_iff.mp h).1]
  exact h
theorem TupAt.move {K : Fg} {Z Z' m m' : List Addr} {H H' : Hp} (z : ZOk Z H Z') (e : ExtZ Z m H m' H') {a : Addr} {vs : List V} (t : TupAt K Z m H a vs) : TupAt K Z' m' H' a vs := by
  rcases t with ⟨h1, h2, h3⟩ | t
  · exact .inl ⟨e.notMem h1 h3, z.not h2 h3, e.keep a _ h1 h2 h3⟩
  · exact .inr t
theorem LstAt.move {K : Fg} {Z Z' m m' : List Addr} {H H' : Hp} (z : ZOk Z H Z') (e : ExtZ Z m H m' H') {a : Addr} {vs : List V} (t : LstAt K Z m H a vs) : LstAt K Z' m' H' a vs := by
  rcases t with ⟨h1, h2, h3 | ⟨o, h3⟩⟩ | t
  · exact .inl ⟨e.notMem h1 h3, z.not h2 h3, .inl (e.keep a _ h1 h2 h3)⟩
  · exact .inl ⟨e.notMem h1 h3, z.not h2 h3, .inr ⟨o, e.keep a _ h1 h2 h3⟩⟩
  · exact .inr t
mutual
theorem Rel.move {K : Fg} {Z Z' m m' : List Addr} {H H' : Hp} (z : ZOk Z H Z') (e : ExtZ Z m H m' H') : ∀ (x : AV) (v : V), Rel K Z m H x v → Rel K Z' m' H' x v
  | .non, v, r => r
  | .bl _, v, r => r
  | .int _, v, r => r
  | .str _, v, r => r
  | .ty _, v, r => r
  | .ref n, v, r => let ⟨a, e1, e2⟩ := r; ⟨a, e1, e.get e2⟩
  | .tup xs, v, r => by
    obtain ⟨a, vs, e1, t, l⟩ := r
    exact ⟨a, vs, e1, t.move z e, RelL.move z e xs vs l⟩
  | .lst xs, v, r => by
    obtain ⟨a, vs, e1, t, l⟩ := r
    exact ⟨a, vs, e1, t.move z e, RelL.move z e xs vs l⟩
  | .dcs ks ws, v, r => by
    obtain ⟨a, kvs, e1, ⟨h1, h2, h3⟩, k, l⟩ := r
    exact ⟨a, kvs, e1, ⟨e.notMem h1 h3, z.not h2 h3, e.keep a _ h1 h2 h3⟩, k, RelL.move z e ws _ l⟩
theorem RelL.move {K : Fg} {Z Z' m m' : List Addr} {H H' : Hp} (z : ZOk Z H Z') (e : ExtZ Z m H m' H') : ∀ (xs : List AV) (vs : List V), RelL K Z m H xs vs → RelL K Z' m' H' xs vs
  | [], vs, r => r
  | x :: xs, vs, r => by
    obtain ⟨v, t, e1, r1, r2⟩ := r
    exact ⟨v, t, e1, Rel.move z e x v r1, RelL.move z e xs t r2⟩
end

def View.list (w : View) (h : AH) : Option (List AV) :=
  match w with
  | .xs l => some l
  | .cell n => match h[n]? with
    | some (.lst l) => some l
    | _ => none
theorem View.at_list (w : View) (i : Nat) (h : AH) : w.at i h = (w.list h).map (·[i]?) := by
  cases w with
  | xs l => rfl
  | cell n =>
    show (match h[n]? with
      | some (.lst l) => some l[i]?
      | _ => none) = (match h[n]? with
      | some (.lst l) => some l
      | _ => none).map (·[i]?)
    cases h[n]? with
    | none => rfl
    | some c => cases c; rfl

/-- a thing that is walked, as it stands at each turn -/
def Adq (k : KC) (Z m : List Addr) (H : Hp) (src : Src) (J : L2.It) : Prop :=
  ∀ Z' m' H' h, ZOk Z H Z' → ExtZ Z m H m' H' → SRel k.K Z' m' h H' → ∀ i : Nat,
    (src.at i h = some none → J.stop i H') ∧
    ∀ x, src.at i h = some (some x) → J.go i H' ∧ ∀ v H'', J.yld i H' v H'' → Ext m' H' m' H'' ∧ SRel k.K Z' m' h H'' ∧ Rel k.K Z' m' H'' x v
/-- a list at a, a tuple at a -/
def VL (k : KC) (Z m : List Addr) (H : Hp) (w : View) (a : Addr) : Prop :=
  ∀ Z' m' H' h, ZOk Z H Z' → ExtZ Z m H m' H' → SRel k.K Z' m' h H' → ∀ l, w.list h = some l → ∃ vs, SqL k.K H' a vs ∧ RelL k.K Z' m' H' l vs
def VT (k : KC) (Z m : List Addr) (H : Hp) (w : View) (a : Addr) : Prop :=
  ∀ Z' m' H' h, ZOk Z H Z' → ExtZ Z m H m' H' → SRel k.K Z' m' h H' → ∀ l, w.list h = some l → ∃ vs, SqT k.K H' a vs ∧ RelL k.K Z' m' H' l vs

section
variable {k : KC} {Z m : List Addr} {H : Hp} {h : AH}
theorem view_lst {v : AV} {v' : V} {w : View} (S : SRel k.K Z m h H) (r : Rel k.K Z m H v v') (e : viewL v h = some w) : ∃ a vs, v' = .ref a ∧ SqL k.K H a vs ∧ VL k Z m H w a := by
  cases v <;> simp only [viewL, Option.some.injEq, reduceCtorEq] at e
  case lst xs =>
    subst e
    obtain ⟨a, vs, e1, t, l⟩ := r
    refine ⟨a, vs, e1, t.sq, fun Z' m' H' h' z ex S' l' el => ?_⟩
    simp only [View.list, Option.some.injEq] at el
    subst el
    exact ⟨vs, (t.move z ex).sq, RelL.move z ex xs vs l⟩
  case ref n =>
    split at e
    · rename_i xs hx
      simp only [Option.some.injEq] at e
      subst e
      obtain ⟨a, e1, e2⟩ := r
      obtain ⟨vs, e3, _⟩ := S.cell n a _ e2 hx
      refine ⟨a, vs, e1, .inl (.inl e3), fun Z' m' H' h' z ex S' l' el => ?_⟩
      simp only [View.list] at el
      split at el
      · rename_i l2 hl
        simp only [Option.some.injEq] at el
        subst el
        obtain ⟨ws, e4, l4⟩ := S'.cell n a _ (ex.get e2) hl
        exact ⟨ws, .inl (.inl e4), l4⟩
      · cases el
    · cases e
theorem view_tup {v : AV} {v' : V} {w : View} (r : Rel k.K Z m H v v') (e : viewT v = some w) : ∃ a vs, v' = .ref a ∧ SqT k.K H a vs ∧ VT k Z m H w a := by
  cases v <;> simp only [viewT, Option.some.injEq, reduceCtorEq] at e
  case tup xs =>
    subst e
    obtain ⟨a, vs, e1, t, l⟩ := r
    refine ⟨a, vs, e1, t.sq, fun Z' m' H' h' z ex S' l' el => ?_⟩
    simp only [View.list, Option.some.injEq] at el
    subst el
    exact ⟨vs, (t.move z ex).sq, RelL.move z ex xs vs l⟩

theorem at_none {w : View} {i : Nat} (e : w.at i h = some none) : ∃ l, w.list h = some l ∧ l.length ≤ i := by
  rw [View.at_list] at e
  obtain ⟨l, e1, e2⟩ := Option.map_eq_some_iff.mp e
  exact ⟨l, e1, List.getElem?_eq_none_iff.mp e2⟩
theorem at_some {w : View} {i : Nat} {x : AV} (e : w.at i h = some (some x)) : ∃ l, w.list h = some l ∧ l[i]? = some x := by
  rw [View.at_list] at e
  obtain ⟨l, e1, e2⟩ := Option.map_eq_some_iff.mp e
  exact ⟨l, e1, e2⟩

theorem adq_list {w : View} {a : Addr} (vl : VL k Z m H w a) : Adq k Z m H (.one w) (Itl k.K a) := fun Z' m' H' h' z ex S' i => by
  refine ⟨fun e => ?_, fun x e => ?_⟩
  · obtain ⟨l, e1, e2⟩ := at_none e
    obtain ⟨vs, q1, q2⟩ := vl Z' m' H' h' z ex S' l e1
    exact ⟨vs, q1, by rw [q2.length]; exact e2⟩
  · obtain ⟨l, e1, e2⟩ := at_some e
    obtain ⟨vs, q1, q2⟩ := vl Z' m' H' h' z ex S' l e1
    obtain ⟨v0, g1, g2⟩ := q2.get e2
    refine ⟨⟨vs, v0, q1, g1⟩, fun v H'' y => ?_⟩
    obtain ⟨y1, y2⟩ := y
    subst y1
    have g3 := y2 vs q1
    rw [g1] at g3
    cases g3
    exact ⟨Ext.refl S', S', g2⟩
theorem adq_tup {w : View} {a : Addr} (vl : VT k Z m H w a) : Adq k Z m H (.one w) (Itt k.K a) := fun Z' m' H' h' z ex S' i => by
  refine ⟨fun e => ?_, fun x e => ?_⟩
  · obtain ⟨l, e1, e2⟩ := at_none e
    obtain ⟨vs, q1, q2⟩ := vl Z' m' H' h' z ex S' l e1
    exact ⟨vs, q1, by rw [q2.length]; exact e2⟩
  · obtain ⟨l, e1, e2⟩ := at_some e
    obtain ⟨vs, q1, q2⟩ := vl Z' m' H' h' z ex S' l e1
    obtain ⟨v0, g1, g2⟩ := q2.get e2
    refine ⟨⟨vs, v0, q1, g1⟩, fun v H'' y => ?_⟩
    obtain ⟨y1, y2⟩ := y
    subst y1
    have g3 := y2 vs q1
    rw [g1] at g3
    cases g3
    exact ⟨Ext.refl S', S', g2⟩
theorem adq_str {s : List Nat} (hok : okS s = true) : Adq k Z m H (.one (.xs (lits s))) (Its ⟨s.toArray⟩) := fun Z' m' H' h' z ex S' i => by
  have e0 : (Src.one (.xs (lits s))).at i h' = some ((lits s)[i]?) := rfl
  refine ⟨fun e => ?_, fun x e => ?_⟩
  · rw [e0] at e
    have e2 := List.getElem?_eq_none_iff.mp (Option.some.inj e)
    show s.toArray.size ≤ i
    unfold lits at e2
    rw [List.length_map] at e2
    simpa using e2
  · rw [e0] at e
    have e1 := Option.some.inj e
    unfold lits at e1
    rw [List.getElem?_map] at e1
    obtain ⟨c, e2, e3⟩ := Option.map_eq_some_iff.mp e1
    subst e3
    refine ⟨?_, fun v H'' y => ?_⟩
    · show i < s.toArray.size
      simpa using (List.getElem?_eq_some_iff.mp e2).1
    · obtain ⟨y1, c', y2, y3⟩ := y
      subst y1
      have y4 : s[i]? = some c' := by simpa using y2
      rw [e2] at y4
      cases y4
      refine ⟨Ext.refl S', S', ⟨y3, by show 1 ≤ 1000000; decide, ?_⟩⟩
      have q := List.all_eq_true.mp hok c (List.mem_of_getElem? e2)
      unfold okS
      simp only [List.all_cons, List.all_nil, Bool.and_true]
      exact q
theorem adq_range {lo hi : Int} : Adq k Z m H (.one (.xs (rangeA lo hi))) (Itr lo (hi - lo).toNat) := fun Z' m' H' h' z ex S' i => by
  have e0 : (Src.one (.xs (rangeA lo hi))).at i h' = some ((rangeA lo hi)[i]?) := rfl
  have el : (rangeA lo hi).length = (hi - lo).toNat := by unfold rangeA; rw [List.length_map, List.length_range]
  refine ⟨fun e => ?_, fun x e => ?_⟩
  · rw [e0] at e
    have e2 := List.getElem?_eq_none_iff.mp (Option.some.inj e)
    rw [el] at e2
    exact e2
  · rw [e0] at e
    have e1 := Option.some.inj e
    have hi' := (List.getElem?_eq_some_iff.mp e1).1
    rw [el] at hi'
    unfold rangeA at e1
    rw [List.getElem?_map, List.getElem?_range hi'] at e1
    simp only [Option.map_some, Option.some.injEq] at e1
    subst e1
    refine ⟨hi', fun v H'' y => ?_⟩
    obtain ⟨y1, y2⟩ := y
    subst y1
    exact ⟨Ext.refl S', S', y2⟩
theorem adq_enum {w : View} {a : Addr} (vl : VL k Z m H w a) : Adq k Z m H (.enum w) (Ite k.K a) := fun Z' m' H' h' z ex S' i => by
  refine ⟨fun e => ?_, fun x e => ?_⟩
  · have e' : w.at i h' = some none := by
      simp only [Src.at] at e
      split at e
      · cases e
      · assumption
      · cases e
    obtain ⟨l, e1, e2⟩ := at_none e'
    obtain ⟨vs, q1, q2⟩ := vl Z' m' H' h' z ex S' l e1
    exact ⟨vs, q1, by rw [q2.length]; exact e2⟩
  · simp only [Src.at] at e
    split at e
    · rename_i y hy
      simp only [Option.some.injEq] at e
      subst e
      obtain ⟨l, e1, e2⟩ := at_some hy
      obtain ⟨vs, q1, q2⟩ := vl Z' m' H' h' z ex S' l e1
      obtain ⟨v0, g1, g2⟩ := q2.get e2
      refine ⟨⟨vs, v0, q1, g1⟩, fun v H'' yy => ?_⟩
      obtain ⟨T, x1, y1, y2, y3, y4⟩ := yy
      have g3 := y4 vs q1
      rw [g1] at g3
      cases g3
      subst y3
      have ex2 := Ext.laid (o := .tup [.int (i : Nat), v0]) S' y2
      refine ⟨ex2, S'.laid y2, ⟨T, [.int (i : Nat), v0], y1, .inl ⟨(S'.notNone y2).1, (S'.notNone y2).2, upd_same⟩, ?_⟩⟩
      exact ⟨_, _, rfl, rfl, _, _, rfl, Rel.ext ex2 y v0 g2, rfl⟩
    · cases e
    · cases e
theorem zip_none {w1 w2 : View} {i : Nat} (e : (Src.zip w1 w2).at i h = some none) : ∃ l1 l2, w1.list h = some l1 ∧ w2.list h = some l2 ∧ (l1.length ≤ i ∨ l2.length ≤ i) := by
  simp only [Src.at] at e
  split at e
  · cases e
  · rename_i o1 o2 hn h1 h2
    rw [View.at_list] at h1 h2
    obtain ⟨l1, a1, b1⟩ := Option.map_eq_some_iff.mp h1
    obtain ⟨l2, a2, b2⟩ := Option.map_eq_some_iff.mp h2
    refine ⟨l1, l2, a1, a2, ?_⟩
    cases q1 : l1[i]? with
    | none => exact .inl (List.getElem?_eq_none_iff.mp q1)
    | some x =>
      cases q2 : l2[i]? with
      | none => exact .inr (List.getElem?_eq_none_iff.mp q2)
      | some y =>
        rw [q1] at b1
        rw [q2] at b2
        exact (hn x y b1.symm b2.symm).elim
  · cases e
theorem zip_some {w1 w2 : View} {i : Nat} {x : AV} (e : (Src.zip w1 w2).at i h = some (some x)) : ∃ l1 l2 y z, w1.list h = some l1 ∧ w2.list h = some l2 ∧ l1[i]? = some y ∧ l2[i]? = some z ∧ x = .tup [y, z] := by
  simp only [Src.at] at e
  split at e
  · rename_i y z h1 h2
    simp only [Option.some.injEq] at e
    obtain ⟨l1, a1, b1⟩ := at_some h1
    obtain ⟨l2, a2, b2⟩ := at_some h2
    exact ⟨l1, l2, y, z, a1, a2, b1, b2, e.symm⟩
  · cases e
  · cases e
theorem adq_zipL {w1 w2 : View} {a b : Addr} (v1 : VL k Z m H w1 a) (v2 : VL k Z m H w2 b) : Adq k Z m H (.zip w1 w2) (Itz k.K a b) := fun Z' m' H' h' z ex S' i => by
  refine ⟨fun e => ?_, fun x e => ?_⟩
  · obtain ⟨l1, l2, e1, e2, e3⟩ := zip_none e
    obtain ⟨vs, q1, q2⟩ := v1 Z' m' H' h' z ex S' l1 e1
    obtain ⟨ws, p1, p2⟩ := v2 Z' m' H' h' z ex S' l2 e2
    exact ⟨vs, ws, q1, p1, by rw [q2.length, p2.length]; exact e3⟩
  · obtain ⟨l1, l2, y, z0, e1, e2, e3, e4, e5⟩ := zip_some e
    subst e5
    obtain ⟨vs, q1, q2⟩ := v1 Z' m' H' h' z ex S' l1 e1
    obtain ⟨ws, p1, p2⟩ := v2 Z' m' H' h' z ex S' l2 e2
    obtain ⟨y', g1, g2⟩ := q2.get e3
    obtain ⟨z', f1, f2⟩ := p2.get e4
    refine ⟨⟨vs, ws, y', z', q1, p1, g1, f1⟩, fun v H'' yy => ?_⟩
    obtain ⟨T, x1, x2, y1, y2, y3, y4, y5⟩ := yy
    have g3 := y4 vs q1
    have f3 := y5 ws p1
    rw [g1] at g3
    rw [f1] at f3
    cases g3
    cases f3
    subst y3
    have ex2 := Ext.laid (o := .tup [y', z']) S' y2
    refine ⟨ex2, S'.laid y2, ⟨T, [y', z'], y1, .inl ⟨(S'.notNone y2).1, (S'.notNone y2).2, upd_same⟩, ?_⟩⟩
    exact ⟨_, _, rfl, Rel.ext ex2 y y' g2, _, _, rfl, Rel.ext ex2 z0 z' f2, rfl⟩
theorem adq_zipT {w1 w2 : View} {a b : Addr} (v1 : VT k Z m H w1 a) (v2 : VT k Z m H w2 b) : Adq k Z m H (.zip w1 w2) (RZ.ItzT k.K a b) := fun Z' m' H' h' z ex S' i => by
  refine ⟨fun e => ?_, fun x e => ?_⟩
  · obtain ⟨l1, l2, e1, e2, e3⟩ := zip_none e
    obtain ⟨vs, q1, q2⟩ := v1 Z' m' H' h' z ex S' l1 e1
    obtain ⟨ws, p1, p2⟩ := v2 Z' m' H' h' z ex S' l2 e2
    exact ⟨vs, ws, q1, p1, by rw [q2.length, p2.length]; exact e3⟩
  · obtain ⟨l1, l2, y, z0, e1, e2, e3, e4, e5⟩ := zip_some e
    subst e5
    obtain ⟨vs, q1, q2⟩ := v1 Z' m' H' h' z ex S' l1 e1
    obtain ⟨ws, p1, p2⟩ := v2 Z' m' H' h' z ex S' l2 e2
    obtain ⟨y', g1, g2⟩ := q2.get e3
    obtain ⟨z', f1, f2⟩ := p2.get e4
    refine ⟨⟨vs, ws, y', z', q1, p1, g1, f1⟩, fun v H'' yy => ?_⟩
    obtain ⟨T, x1, x2, y1, y2, y3, y4, y5⟩ := yy
    have g3 := y4 vs q1
    have f3 := y5 ws p1
    rw [g1] at g3
    rw [f1] at f3
    cases g3
    cases f3
    subst y3
    have ex2 := Ext.laid (o := .tup [y', z']) S' y2
    refine ⟨ex2, S'.laid y2, ⟨T, [y', z'], y1, .inl ⟨(S'.notNone y2).1, (S'.notNone y2).2, upd_same⟩, ?_⟩⟩
    exact ⟨_, _, rfl, Rel.ext ex2 y y' g2, _, _, rfl, Rel.ext ex2 z0 z' f2, rfl⟩
end

/-! ### a list, a tuple, a text: any of them -/
def iAny (K : Fg) (te : TE) : TI := fun t H R => te t H fun x H1 => (∃ a vs, x = .ref a ∧ SqL K H1 a vs ∧ R (Itl K a) H1) ∨ (∃ a vs, x = .ref a ∧ SqT K H1 a vs ∧ R (Itt K a) H1) ∨ ∃ z, x = .str z ∧ R (Its z) H1
theorem pi_any {X : Cx} {tg l : Expr} {te : TE} (hl : PE X l te) : PI X tg l (iAny X.K te) := by
  refine ⟨fun pins s t H R0 I hh => ?_⟩
  refine thn (hl.run pins s t H _ I hh) fun v s1 ⟨x, H1, I1, r1, q1⟩ => ?_
  rcases q1 with ⟨a, vs, ex, hq, q⟩ | ⟨a, vs, ex, hq, q⟩ | ⟨z, ex, q⟩
  · subst ex
    cases r1
    obtain ⟨its, rv, p, hz⟩ := I1.list hq
    exact wpAny_pyIter_list p.isList (pi_one (tk := s1.toks) I1 _ (turn_list a _) ⟨_, Heap.get?_push_size _ rfl, rfl, rfl⟩ q)
  · subst ex
    cases r1
    obtain ⟨its, rv, p, hz⟩ := I1.tuple hq
    exact wpAny_pyIter_tuple (show s1.heap.IsTuple a its.toArray from p) (pi_one (tk := s1.toks) I1 _ (turn_tuple a _) ⟨_, Heap.get?_push_size _ rfl, rfl, rfl⟩ q)
  · subst ex
    obtain ⟨tk, rfl⟩ := r1
    cases ha : z.cps.all (· < 128)
    · exact wpAny_pyIter_wide ha (pi_one (tk := s1.toks) I1 _ (turn_str _ z tk "str_iterator" (.inr rfl)) ⟨_, Heap.get?_push_size _ rfl, rfl, rfl⟩ q)
    · exact wpAny_pyIter_ascii ha (pi_one (tk := s1.toks) I1 _ (turn_str _ z tk "str_ascii_iterator" (.inl rfl)) ⟨_, Heap.get?_push_size _ rfl, rfl, rfl⟩ q)
end SP
end
section
set_option maxRecDepth 100000
set_option maxHeartbeats 1000000
/-! enumerate(text). -/
namespace SP
open PySem PySem.Spec PyProof.Rows L2
/-- a text sign by sign, each in a new pair -/
def IteS (z : Str) : L2.It :=
  ⟨fun i _ => i < z.cps.size, fun i H v H' => ∃ T c, v = .ref T ∧ H T = none ∧ H' = upd H T (.tup [.int (i : Nat), .str ⟨#[c]⟩]) ∧ z.cps[i]? = some c, fun i _ => z.cps.size ≤ i⟩
theorem turn_enumS {P : Program} {w : World} {K : Fg} {elts : List Expr} {kk : Nat} {tpos : Pos} (z : Str) (t : Tok) (e it : Addr) :
    Turn P w K (.Tuple elts kk tpos) (IteS z) [e, it] e (fun i h => (∃ old, IsEnum h e it ((i : Nat) : Int) old) ∧ h.IsStrIter it (strIterType z) z t i ∧ e ≠ it ∧ i ≤ z.cps.size) where
  mem := by simp
  obj := fun i h st b hb => by
    obtain ⟨⟨old, he⟩, ⟨o, ho, hc, hd⟩, _⟩ := st
    have e' : b = e ∨ b = it := by simpa using hb
    rcases e' with z | z
    · rw [z]; exact ⟨_, he, fun v q => nomatch q⟩
    · rw [z]; exact ⟨o, ho, fun v q => by rw [hd] at q; cases q⟩
  keep := fun i h h' st k => let ⟨⟨old, he⟩, ⟨o, ho, r⟩, hne⟩ := st; ⟨⟨old, k e (by simp) _ he⟩, ⟨o, k it (by simp) o ho, r⟩, hne⟩
  item := by
    intro X hP hw hK hc i pins s σ H E I hf st hg
    subst hP hw hK
    obtain ⟨⟨old, he⟩, hit, hne, hle⟩ := st
    have hel : e < s.heap.objs.size := Heap.lt_size he
    have hil : it < s.heap.objs.size := by obtain ⟨_, q, _⟩ := hit; exact Heap.lt_size q
    have D : Draws X.prog X.w X.A.in1 it [it] z.cps.size (fun i v => ∃ c u, z.cps[i]? = some c ∧ v = .str ⟨#[c]⟩ u) (fun i h => h.IsStrIter it (strIterType z) z t i) := Draws.text (show X.A.in1.handled = none from I.ok.hd hc) it z t
    refine wpAny_pyNext_enum_itemD D he hit hg hne (by simpa using hne) fun u h' tk hu ho hit' hT hsz hk => ?_
    obtain ⟨c, uc, hcx, rfl⟩ := hu
    refine ⟨_, rfl, wpAny_letOwnedTupleGo_enum (s := { s with heap := h', toks := tk + 1 }) ho fun h'' he' sb => ?_⟩
    have hT2 : h''.get? s.heap.objs.size = some { cls := .type "tuple", data := .seq #[.int i tk, .str ⟨#[c]⟩ uc] } := (sb.2 _ (Nat.ne_of_gt hel)).trans hT
    have new : ObjOk X.prog X.w (upd H s.heap.objs.size (.tup [.int (i : Nat), .str ⟨#[c]⟩])) h'' s.heap.objs.size (.tup [.int (i : Nat), .str ⟨#[c]⟩]) :=
      ⟨by show 2 ≤ sizeLine; decide, [.int i tk, .str ⟨#[c]⟩ uc], .cons ⟨_, rfl⟩ (.cons ⟨_, rfl⟩ .nil), ⟨_, hT2, rfl, _, rfl⟩⟩
    have I1 : Inv X pins σ (upd H s.heap.objs.size (.tup [.int (i : Nat), .str ⟨#[c]⟩])) { s with heap := h'', toks := tk + 1 } :=
      I.turnedNew (ch := [e, it]) (fun b ob hb q => (sb.2 b (fun z => hb (by simp [z]))).trans (hk b ob (fun z => hb (by simp [z])) (fun z => hb (by simp [z])) q)) hf (Nat.le_refl _) new
    have e1 : ((i + 1 : Nat) : Int) = (i : Int) + 1 := by omega
    refine ⟨.ref s.heap.objs.size, _, I1, rfl, ⟨_, c, rfl, I.hok.fresh (Nat.le_refl _), rfl, hcx⟩, ⟨⟨.str ⟨#[c]⟩ uc, ?_⟩, ?_, hne, hg⟩, fun b hb => ?_⟩
    · rw [e1]; exact he'
    · obtain ⟨o, q1, q2⟩ := hit'
      exact ⟨o, (sb.2 it (Ne.symm hne)).trans q1, q2⟩
    · have hb' : b < s.heap.objs.size := by
        have e' : b = e ∨ b = it := by simpa using hb
        rcases e' with z | z
        · rw [z]; exact hel
        · rw [z]; exact hil
      rw [upd_ne (Nat.ne_of_lt hb')]
      exact (hf b hb).1
  done := by
    intro X hP hw hK hc i pins s σ H E I hf st hg
    subst hP hw hK
    obtain ⟨⟨old, he⟩, hit, hne, hle⟩ := st
    obtain ⟨f0, f1, f2, f3, f4, f5⟩ := hf it (by simp)
    have D : Draws X.prog X.w X.A.in1 it [it] z.cps.size (fun i v => ∃ c u, z.cps[i]? = some c ∧ v = .str ⟨#[c]⟩ u) (fun i h => h.IsStrIter it (strIterType z) z t i) := Draws.text (show X.A.in1.handled = none from I.ok.hd hc) it z t
    have ei : i = z.cps.size := Nat.le_antisymm hle hg
    rw [ei] at hit
    exact wpAny_pyNext_enum_endD D he hit fun h' eb => ⟨rfl, I.turned (t' := s.toks) (fun b o hb q => eb b o hb q) f0 f1 f3 f4 f5⟩
  self := fun A i s Q E st h => let ⟨⟨_, he⟩, _⟩ := st; wpAny_pyIter_enum he h
def iEnumA (K : Fg) (ta : TA) : TI := fun σ H R => ta σ H fun vs H1 => (∃ a xs, vs = [.ref a] ∧ SqL K H1 a xs ∧ R (Ite K a) H1) ∨ ∃ z, vs = [.str z] ∧ R (IteS z) H1
theorem pi_enumA {X : Cx} {e : Expr} {ta : TA} {p pos tpos : Pos} {elts : List Expr} {kk : Nat} (hg : Gl X "enumerate") (hm : X.mg "enumerate" = none) (ha : PA X [e] ta) (hs : starEach [e] X.env = [(false, eval e X.env)]) :
    PI X (.Tuple elts kk tpos) (.Call (.Name "enumerate" p) [e] [] pos) (iEnumA X.K ta) := by
  refine ⟨fun pins s σ H R I h => ?_⟩
  refine Call_ (ld_blt I hg hm boot_enumerate (PyProof.Rows.callWith_type1 (thn (ha.run pos pins s σ H _ I h) fun us s1 ⟨vs, H1, I1, r1, q1⟩ => ?_) hs rfl))
  rcases q1 with ⟨a, xs, ex, hq, q⟩ | ⟨z, ex, q⟩
  · subst ex
    cases r1 with
    | cons r rr =>
      cases rr
      cases r
      obtain ⟨its, rv, p', hz⟩ := I1.list hq
      refine call_enumerate_list p'.isList fun h' he hit hsz hk => wpAny_pyIter_enum he ?_
      have I2 : Inv X pins σ H1 { s1 with heap := h' } := I1.kept (t' := s1.toks) hk
      refine ⟨s1.heap.objs.size + 1, [s1.heap.objs.size + 1, s1.heap.objs.size], _, _, H1, rfl, I2, turn_enum a (s1.heap.objs.size + 1) s1.heap.objs.size, ⟨⟨.none, he⟩, hit, Nat.succ_ne_self _⟩, fun b hb => ?_, q⟩
      have e' : b = s1.heap.objs.size + 1 ∨ b = s1.heap.objs.size := by simpa using hb
      have hle : s1.heap.objs.size ≤ b := by
        rcases e' with z | z
        · rw [z]; exact Nat.le_add_right _ _
        · rw [z]; exact Nat.le_refl _
      exact I1.fpOk hle (I1.hok.fresh hle)
  · subst ex
    cases r1 with
    | cons r rr =>
      cases rr
      obtain ⟨t, rfl⟩ := r
      refine call_enumerate_str fun h' he hit hsz hk => wpAny_pyIter_enum he ?_
      have I2 : Inv X pins σ H1 { s1 with heap := h' } := I1.kept (t' := s1.toks) hk
      refine ⟨s1.heap.objs.size + 1, [s1.heap.objs.size + 1, s1.heap.objs.size], _, _, H1, rfl, I2, turn_enumS z t (s1.heap.objs.size + 1) s1.heap.objs.size, ⟨⟨.none, he⟩, hit, Nat.succ_ne_self _, Nat.zero_le _⟩, fun b hb => ?_, q⟩
      have e' : b = s1.heap.objs.size + 1 ∨ b = s1.heap.objs.size := by simpa using hb
      have hle : s1.heap.objs.size ≤ b := by
        rcases e' with z | z
        · rw [z]; exact Nat.le_add_right _ _
        · rw [z]; exact Nat.le_refl _
      exact I1.fpOk hle (I1.hok.fresh hle)
theorem adq_enumS {k : KC} {Z m : List Addr} {H : Hp} {s : List Nat} (hok : okS s = true) : Adq k Z m H (.enum (.xs (lits s))) (IteS ⟨s.toArray⟩) := fun Z' m' H' h' z ex S' i => by
  have e0 : (Src.enum (.xs (lits s))).at i h' = match (lits s)[i]? with
      | some x => some (some (.tup [.int i, x]))
      | none => some none := by
    simp only [Src.at, View.at]
    cases (lits s)[i]? <;> rfl
  rw [e0]
  unfold lits
  rw [List.getElem?_map]
  cases hc : s[i]? with
  | none =>
    refine ⟨fun _ => ?_, fun x e => by simp at e⟩
    show s.toArray.size ≤ i
    simpa using List.getElem?_eq_none_iff.mp hc
  | some c =>
    refine ⟨fun e => by simp at e, fun x e => ?_⟩
    simp only [Option.map_some, Option.some.injEq] at e
    subst e
    refine ⟨?_, fun v H'' y => ?_⟩
    · show i < s.toArray.size
      simpa using (List.getElem?_eq_some_iff.mp hc).1
    · obtain ⟨T, c', y1, y2, y3, y4⟩ := y
      have y5 : s[i]? = some c' := by simpa using y4
      rw [hc] at y5
      cases y5
      subst y3
      have ex2 := Ext.laid (o := .tup [.int (i : Nat), .str ⟨#[c]⟩]) S' y2
      refine ⟨ex2, S'.laid y2, ⟨T, [.int (i : Nat), .str ⟨#[c]⟩], y1, .inl ⟨(S'.notNone y2).1, (S'.notNone y2).2, upd_same⟩, ?_⟩⟩
      refine ⟨_, _, rfl, rfl, _, _, rfl, ⟨rfl, by show 1 ≤ 1000000; decide, ?_⟩, rfl⟩
      have q := List.all_eq_true.mp hok c (List.mem_of_getElem? hc)
      unfold okS
      simp only [List.all_cons, List.all_nil, Bool.and_true]
      exact q
end SP
end
section
set_option maxRecDepth 100000
set_option maxHeartbeats 4000000
/-! Comprehensions: their turns. -/
namespace SP
open PySem PySem.Spec PyProof.Rows L2

def tTI (k : KC) (C : Ctx) (w0 : XK) (e : E) : TT := fun t H Q => tI k C w0 e t H fun v H' => ∃ b, v = .bl b ∧ Q b H'
def tII (k : KC) (C : Ctx) (w0 : XK) (it : It) : TI := fun t H R0 => ∃ Z m s h, SRel k.K Z m h H ∧ StRel k.K Z m H s t ∧ PostG k Z m H w0 (fun m' H' src J => Adq k Z m' H' src J) (evI C s it h) R0
def tIO (k : KC) (C : Ctx) (w0 : XK) (o : Eo) : TO := fun t H Q => ∃ Z m s h, SRel k.K Z m h H ∧ StRel k.K Z m H s t ∧ PostG k Z m H w0 (fun _ _ (a b : Option Int) => a = b) (evO C s o h) Q
def tIC (k : KC) (C : Ctx) (w0 : XK) (o : Eo) : TT := fun t H Q => ∃ Z m s h, SRel k.K Z m h H ∧ StRel k.K Z m H s t ∧ PostG k Z m H w0 (Rel k.K Z) (evC C s o h) fun v H' => ∃ b, v = .bl b ∧ Q b H'
/-- another state of the names, but for some -/
def Out (ws : List Nat) (t t' : L2.St) : Prop := t'.length = t.length ∧ ∀ j, j ∉ ws → t'[j]? = t[j]?
theorem Out.refl {ws : List Nat} {t : L2.St} : Out ws t t := ⟨rfl, fun _ _ => rfl⟩
theorem Out.trans {ws vs us : List Nat} {t t1 t2 : L2.St} (a : Out ws t t1) (b : Out vs t1 t2) (h1 : ∀ j ∈ ws, j ∈ us) (h2 : ∀ j ∈ vs, j ∈ us) : Out us t t2 :=
  ⟨b.1.trans a.1, fun j hj => (b.2 j fun z => hj (h2 j z)).trans (a.2 j fun z => hj (h1 j z))⟩
theorem wipe_get (t : L2.St) : ∀ (vs : List Nat) (j : Nat), (L2.wipe t vs)[j]? = if j ∈ vs ∧ j < t.length then some none else t[j]?
  | [], j => by simp [L2.wipe]
  | v :: vs, j => by
    show ((L2.wipe t vs).set v none)[j]? = _
    by_cases e : v = j
    · subst e
      by_cases hl : v < t.length
      · rw [List.getElem?_set_self (by rw [L2.wipe_length]; exact hl), if_pos ⟨List.mem_cons_self, hl⟩]
      · rw [List.getElem?_eq_none (by rw [List.length_set, L2.wipe_length]; omega), if_neg (fun z => hl z.2), List.getElem?_eq_none (by omega)]
    · rw [List.getElem?_set_ne e, wipe_get t vs j]
      have q : (j ∈ v :: vs) ↔ j ∈ vs := by simp [Ne.symm e]
      simp only [q]
theorem Out.wipe {ws vs : List Nat} {t t' : L2.St} (o : Out ws t t') (hs : ∀ j ∈ ws, j ∈ vs) : L2.wipe t' vs = L2.wipe t vs := by
  apply List.ext_getElem?
  intro j
  rw [wipe_get, wipe_get, o.1]
  by_cases hj : j ∈ vs ∧ j < t.length
  · rw [if_pos hj, if_pos hj]
  · rw [if_neg hj, if_neg hj]
    by_cases hv : j ∈ vs
    · have hl : t.length ≤ j := by
        by_cases h : j < t.length
        · exact absurd ⟨hv, h⟩ hj
        · omega
      rw [List.getElem?_eq_none (by rw [o.1]; exact hl), List.getElem?_eq_none hl]
    · exact o.2 j fun z => hv (hs j z)
theorem wipe_wipe (t : L2.St) (vs : List Nat) : L2.wipe (L2.wipe t vs) vs = L2.wipe t vs := by
  apply List.ext_getElem?
  intro j
  rw [wipe_get, wipe_get, L2.wipe_length]
  by_cases hj : j ∈ vs ∧ j < t.length
  · rw [if_pos hj, if_pos hj]
  · rw [if_neg hj, if_neg hj]
/-- the reading of a target -/
def tIG (k : KC) (C : Ctx) (w0 : XK) (g : Tg) : TG := fun v' t H Q => ∃ Z m s h v, SRel k.K Z m h H ∧ StRel k.K Z m H s t ∧ Rel k.K Z m H v v' ∧ PostG k Z m H w0 (fun m' H' s' t' => StRel k.K Z m' H' s' t' ∧ Out (tgSlots g) t t') (evG C g v s h) Q
def tIGs (k : KC) (C : Ctx) (w0 : XK) (g : Tgs) : TGs := fun vs' t H Q => ∃ Z m s h vs, SRel k.K Z m h H ∧ StRel k.K Z m H s t ∧ RelL k.K Z m H vs vs' ∧ PostG k Z m H w0 (fun m' H' s' t' => StRel k.K Z m' H' s' t' ∧ Out (tgsSlots g) t t') (evGs C g vs s h) Q

/-! ### a list that grows at D -/
mutual
theorem Rel.updZ {K : Fg} {Z m : List Addr} {H : Hp} {D : Addr} {o : HO} (hD : D ∈ Z) : ∀ (x : AV) (v : V), Rel K Z m H x v → Rel K Z m (upd H D o) x v
  | .non, v, r => r
  | .bl _, v, r => r
  | .int _, v, r => r
  | .str _, v, r => r
  | .ty _, v, r => r
  | .ref n, v, r => r
  | .tup xs, v, r => by
    obtain ⟨a, vs, e1, t, l⟩ := r
    refine ⟨a, vs, e1, ?_, RelL.updZ hD xs vs l⟩
    rcases t with ⟨h1, h2, h3⟩ | t
    · exact .inl ⟨h1, h2, by rw [upd_ne (show a ≠ D from fun z => h2 (by rw [z]; exact hD))]; exact h3⟩
    · exact .inr t
  | .lst xs, v, r => by
    obtain ⟨a, vs, e1, t, l⟩ := r
    refine ⟨a, vs, e1, ?_, RelL.updZ hD xs vs l⟩
    rcases t with ⟨h1, h2, h3⟩ | t
    · refine .inl ⟨h1, h2, ?_⟩
      unfold Rd at h3 ⊢
      rw [upd_ne (show a ≠ D from fun z => h2 (by rw [z]; exact hD))]
      exact h3
    · exact .inr t
  | .dcs ks ws, v, r => by
    obtain ⟨a, kvs, e1, ⟨h1, h2, h3⟩, k, l⟩ := r
    exact ⟨a, kvs, e1, ⟨h1, h2, by rw [upd_ne (show a ≠ D from fun z => h2 (by rw [z]; exact hD))]; exact h3⟩, k, RelL.updZ hD ws _ l⟩
theorem RelL.updZ {K : Fg} {Z m : List Addr} {H : Hp} {D : Addr} {o : HO} (hD : D ∈ Z) : ∀ (xs : List AV) (vs : List V), RelL K Z m H xs vs → RelL K Z m (upd H D o) xs vs
  | [], vs, r => r
  | x :: xs, vs, r => by
    obtain ⟨v, t, e1, r1, r2⟩ := r
    exact ⟨v, t, e1, Rel.updZ hD x v r1, RelL.updZ hD xs t r2⟩
end
mutual
/-- D is now a cell -/
theorem Rel.adopt {K : Fg} {Z m : List Addr} {H : Hp} {D : Addr} : ∀ (x : AV) (v : V), Rel K (D :: Z) m H x v → Rel K Z (m ++ [D]) H x v
  | .non, v, r => r
  | .bl _, v, r => r
  | .int _, v, r => r
  | .str _, v, r => r
  | .ty _, v, r => r
  | .ref n, v, r => by
    obtain ⟨a, e1, e2⟩ := r
    exact ⟨a, e1, by rw [List.getElem?_append_left (List.getElem?_eq_some_iff.mp e2).1]; exact e2⟩
  | .tup xs, v, r => by
    obtain ⟨a, vs, e1, t, l⟩ := r
    refine ⟨a, vs, e1, ?_, RelL.adopt xs vs l⟩
    rcases t with ⟨h1, h2, h3⟩ | t
    · simp only [List.mem_cons, not_or] at h2
      exact .inl ⟨by simp only [List.mem_append, List.mem_singleton, not_or]; exact ⟨h1, h2.1⟩, h2.2, h3⟩
    · exact .inr t
  | .lst xs, v, r => by
    obtain ⟨a, vs, e1, t, l⟩ := r
    refine ⟨a, vs, e1, ?_, RelL.adopt xs vs l⟩
    rcases t with ⟨h1, h2, h3⟩ | t
    · simp only [List.mem_cons, not_or] at h2
      exact .inl ⟨by simp only [List.mem_append, List.mem_singleton, not_or]; exact ⟨h1, h2.1⟩, h2.2, h3⟩
    · exact .inr t
  | .dcs ks ws, v, r => by
    obtain ⟨a, kvs, e1, ⟨h1, h2, h3⟩, k, l⟩ := r
    simp only [List.mem_cons, not_or] at h2
    exact ⟨a, kvs, e1, ⟨by simp only [List.mem_append, List.mem_singleton, not_or]; exact ⟨h1, h2.1⟩, h2.2, h3⟩, k, RelL.adopt ws _ l⟩
theorem RelL.adopt {K : Fg} {Z m : List Addr} {H : Hp} {D : Addr} : ∀ (xs : List AV) (vs : List V), RelL K (D :: Z) m H xs vs → RelL K Z (m ++ [D]) H xs vs
  | [], vs, r => r
  | x :: xs, vs, r => by
    obtain ⟨v, t, e1, r1, r2⟩ := r
    exact ⟨v, t, e1, Rel.adopt x v r1, RelL.adopt xs t r2⟩
end
section
variable {k : KC} {Z m : List Addr} {H : Hp} {h : AH}
theorem SRel.begin {D : Addr} {o : HO} (S : SRel k.K Z m h H) (hD : H D = none) : SRel k.K (D :: Z) m h (upd H D o) := by
  have S2 := S.laid (o := o) hD
  refine ⟨S.len, S.nd, fun n a c h1 h2 => ?_, fun a ha => ?_⟩
  · have q := S.cell n a c h1 h2
    have hne : a ≠ D := fun e => S.has (List.mem_of_getElem? h1) (by rw [e]; exact hD)
    cases c with
    | lst xs =>
      obtain ⟨vs, e1, r⟩ := q
      exact ⟨vs, by rw [upd_ne hne]; exact e1, RelL.updZ List.mem_cons_self xs vs (RelL.more hD xs vs r)⟩
  · rcases List.mem_cons.mp ha with e | ha
    · rw [e]
      exact ⟨(S.notNone hD).1, by rw [upd_same]; intro z; cases z⟩
    · exact S2.zs a ha
theorem SRel.grow {D : Addr} {o : HO} (S : SRel k.K (D :: Z) m h H) : SRel k.K (D :: Z) m h (upd H D o) := by
  refine ⟨S.len, S.nd, fun n a c h1 h2 => ?_, fun a ha => ⟨(S.zs a ha).1, ?_⟩⟩
  · have q := S.cell n a c h1 h2
    have hne : a ≠ D := fun e => (S.zs D List.mem_cons_self).1 (by rw [← e]; exact List.mem_of_getElem? h1)
    cases c with
    | lst xs =>
      obtain ⟨vs, e1, r⟩ := q
      exact ⟨vs, by rw [upd_ne hne]; exact e1, RelL.updZ List.mem_cons_self xs vs r⟩
  · by_cases e : a = D
    · rw [e, upd_same]; intro z; cases z
    · rw [upd_ne e]; exact (S.zs a ha).2
theorem SRel.less {D : Addr} (S : SRel k.K (D :: Z) m h H) : SRel k.K Z m h H :=
  ⟨S.len, S.nd, fun n a c h1 h2 => by
    have q := S.cell n a c h1 h2
    cases c with
    | lst xs =>
      obtain ⟨vs, e1, r⟩ := q
      exact ⟨vs, e1, RelL.less xs vs r⟩, fun a ha => S.zs a (List.mem_cons_of_mem _ ha)⟩
theorem SRel.adopt {D : Addr} {xs : List AV} {vs : List V} (S : SRel k.K (D :: Z) m h H) (nz : D ∉ Z) (hD : H D = some (.lst vs)) (r : RelL k.K (D :: Z) m H xs vs) : SRel k.K Z (m ++ [D]) (h ++ [.lst xs]) H := by
  have nD := (S.zs D List.mem_cons_self).1
  refine ⟨by simp [S.len], ?_, fun n a c h1 h2 => ?_, fun a ha => ⟨?_, (S.zs a (List.mem_cons_of_mem _ ha)).2⟩⟩
  · rw [List.nodup_append]
    refine ⟨S.nd, by simp, fun a ha b hb => ?_⟩
    rw [List.mem_singleton.mp hb]
    intro z
    exact nD (z ▸ ha)
  · by_cases hl : n < h.length
    · rw [List.getElem?_append_left hl] at h2
      rw [List.getElem?_append_left (by rw [S.len]; exact hl)] at h1
      have q := S.cell n a c h1 h2
      cases c with
      | lst ys =>
        obtain ⟨ws, e1, r1⟩ := q
        exact ⟨ws, e1, RelL.adopt ys ws r1⟩
    · have hl' : h.length ≤ n := by omega
      rw [List.getElem?_append_right hl'] at h2
      rw [List.getElem?_append_right (by rw [S.len]; exact hl'), S.len] at h1
      cases hk : n - h.length with
      | zero =>
        rw [hk] at h1 h2
        cases h1; cases h2
        exact ⟨vs, hD, RelL.adopt xs vs r⟩
      | succ j =>
        rw [hk] at h2
        simp at h2
  · intro z
    rcases List.mem_append.mp z with z | z
    · exact (S.zs a (List.mem_cons_of_mem _ ha)).1 z
    · rw [List.mem_singleton.mp z] at ha
      exact nz ha
end

theorem lc_read {k : KC} {C : Ctx} {w0 : XK} {fl : Bool} {own : List Nat} {tg : Tg} {it : It} {d : Eo} {elt : E} (ho : own = tgSlots tg) (t : L2.St) (H : Hp) (Q : VK) (p : tI k C w0 (.lc fl own tg it d elt) t H Q) :
    tLc (tII k C w0 it) (tIG k C E0 tg) (tIC k C E0 d) (tI k C E0 elt) own t H Q := by
  obtain ⟨Z, m, s, h, S, St, p⟩ := p
  simp only [evE] at p
  refine ⟨Z, m, s, h, S, St, (PostG.bind p).mono fun J H1 ⟨m1, src, h1, e1, S1, ad, p1⟩ => ?_⟩
  intro D hD
  have St1 := St.ext e1
  have nz : D ∉ Z := (S1.notNone hD).2
  refine ⟨fun i f H' => f + i = loopL ∧ ∃ m' h' accV accA, Ext m1 H1 m' H' ∧ D ∉ m' ∧ SRel k.K (D :: Z) m' h' H' ∧ H' D = some (.lst accV) ∧ RelL k.K (D :: Z) m' H' accA accV ∧ accA.length ≤ i ∧
      PostG k Z m1 H1 w0 (Rel k.K Z) ((lcGo (fun x h => evG C tg x (wipeA s own) h) (fun s h => evC C s d h) (fun s h => evE C s elt h) src f i h').bind fun ys h2 => mk fl (accA ++ ys) h2) Q,
    ⟨loopL, rfl, m1, h1, [], [], Ext.laid S1 hD, (S1.notNone hD).1, S1.begin hD, upd_same, rfl, Nat.zero_le _, p1⟩, ?_⟩
  rintro i f H' ⟨hf, m', h', accV, accA, ex, nD, S', eD, rA, hA, p2⟩
  cases f with
  | zero => simp only [lcGo, R.bind_bad] at p2; exact p2.elim
  | succ f =>
    have zok : ZOk Z H1 (D :: Z) := fun a ha => by
      rcases List.mem_cons.mp ha with e | ha
      · rw [e]; exact .inr hD
      · exact .inl ha
    obtain ⟨a1, a2⟩ := ad (D :: Z) m' H' h' zok ex.toZ S' i
    simp only [lcGo] at p2
    cases hs : src.at i h' with
    | none => rw [hs] at p2; exact p2.elim
    | some o =>
      cases o with
      | none =>
        rw [hs] at p2
        simp only [R.bind_ok, List.append_nil] at p2
        refine .inl ⟨a1 hs, ?_⟩
        cases fl with
        | true =>
          obtain ⟨r, er, en⟩ := id ex.app
          refine p2 (m' ++ [D]) H' (.ref D) ⟨⟨r ++ [D], by rw [er, List.append_assoc], fun a ha => ?_⟩, ex.keep, ex.live⟩ (S'.adopt nz eD rA) ⟨D, rfl, ?_⟩
          · rcases List.mem_append.mp ha with ha | ha
            · exact en a ha
            · rw [List.mem_singleton.mp ha]; exact hD
          · rw [List.getElem?_append_right (by rw [S'.len]; exact Nat.le_refl _), S'.len, Nat.sub_self]
            rfl
        | false =>
          exact p2 m' H' (.ref D) ex S'.less ⟨D, accV, rfl, .inl ⟨nD, nz, .inl eD⟩, RelL.less accA accV rA⟩
      | some x =>
        rw [hs] at p2
        simp only at p2
        obtain ⟨go, yl⟩ := a2 x hs
        refine .inr ⟨go, fun H2 => f + (i + 1) = loopL ∧ ∃ m' h' accV accA, Ext m1 H1 m' H2 ∧ D ∉ m' ∧ SRel k.K (D :: Z) m' h' H2 ∧ H2 D = some (.lst accV) ∧ RelL k.K (D :: Z) m' H2 accA accV ∧ accA.length ≤ i + 1 ∧
          PostG k Z m1 H1 w0 (Rel k.K Z) ((lcGo (fun x h => evG C tg x (wipeA s own) h) (fun s h => evC C s d h) (fun s h => evE C s elt h) src f (i + 1) h').bind fun ys h2 => mk fl (accA ++ ys) h2) Q,
          fun H2 hW => ⟨f, Nat.lt_succ_self _, hW⟩, fun x' H2 hy => ?_⟩
        obtain ⟨e2, S2, r2⟩ := yl x' H2 hy
        have St2 : StRel k.K (D :: Z) m' H2 (wipeA s own) (L2.wipe t own) := by
          have q : StRel k.K Z m' H2 s t := (St1.ext ex).ext e2
          refine StRel.wipe ⟨q.1, fun j v hv => ?_⟩ own
          obtain ⟨v', g1, g2⟩ := St1.2 j v hv
          exact ⟨v', g1, Rel.ext (ex.trans e2) v v' (Rel.zs zok v v' g2)⟩
        refine ⟨D :: Z, m', wipeA s own, h', x, S2, St2, r2, ?_⟩
        cases hb : evG C tg x (wipeA s own) h' with
        | bad => rw [hb] at p2; exact p2.elim
        | exc a b c => rw [hb] at p2; exact p2.elim
        | ok s3 h3 =>
          rw [hb] at p2
          simp only [noX_ok, R.bind_ok] at p2
          intro m3 H3 t3 e3 S3 ⟨r3, o3⟩
          have hw : L2.wipe t3 own = L2.wipe t own := by
            rw [Out.wipe o3 (fun j hj => by rw [ho]; exact hj), wipe_wipe]
          refine ⟨hw, D :: Z, m3, s3, h3, S3, r3, ?_⟩
          cases hc : evC C s3 d h3 with
          | bad => rw [hc] at p2; exact p2.elim
          | exc a b c => rw [hc] at p2; exact p2.elim
          | ok bv h4 =>
            rw [hc] at p2
            simp only [noX_ok, R.bind_ok] at p2
            intro m4 H4 v4 e4 S4 r4
            cases bv <;> (try simp only at p2) <;> (try exact p2.elim)
            rename_i bb
            refine ⟨bb, r4, ?_⟩
            have ex4 : Ext m1 H1 m4 H4 := ((ex.trans e2).trans e3).trans e4
            have eD2 : H2 D = some (.lst accV) := e2.keep D _ nD eD
            have nD3 : D ∉ m3 := e3.notMem nD eD2
            have eD3 : H3 D = some (.lst accV) := e3.keep D _ nD eD2
            have nD4 : D ∉ m4 := e4.notMem nD3 eD3
            have eD4 : H4 D = some (.lst accV) := e4.keep D _ nD3 eD3
            have rA4 : RelL k.K (D :: Z) m4 H4 accA accV := RelL.ext e4 _ _ (RelL.ext e3 _ _ (RelL.ext e2 _ _ rA))
            cases bb with
            | false =>
              refine iteF ?_
              exact ⟨by omega, m4, h4, accV, accA, ex4, nD4, S4, eD4, rA4, by omega, p2⟩
            | true =>
              refine iteT ?_
              refine ⟨D :: Z, m4, s3, h4, S4, r3.ext e4, ?_⟩
              cases he : evE C s3 elt h4 with
              | bad => rw [he] at p2; exact p2.elim
              | exc a b c => rw [he] at p2; exact p2.elim
              | ok y h5 =>
                rw [he] at p2
                simp only [noX_ok, R.bind_ok] at p2
                intro m5 H5 y' e5 S5 r5
                have nD5 : D ∉ m5 := e5.notMem nD4 eD4
                have eD5 : H5 D = some (.lst accV) := e5.keep D _ nD4 eD4
                have rA5 := RelL.ext e5 _ _ rA4
                have ex5 : Ext m1 H1 m5 H5 := ex4.trans e5
                refine ⟨accV, eD5, ?_, by omega, m5, h5, accV ++ [y'], accA ++ [y], ?_, nD5, S5.grow, upd_same, RelL.updZ List.mem_cons_self _ _ (rA5.append (RelL.one r5)), by rw [List.length_append]; simp; omega, ?_⟩
                · rw [rA5.length]
                  have : loopL = 1000001 := rfl
                  have hz : 1000001 ≤ sizeLine := by decide
                  omega
                · refine ⟨ex5.app, fun a o ha q => ?_, fun a ha => ?_⟩
                  · rw [upd_ne (ne_of_none q hD)]
                    exact ex5.keep a o ha q
                  · by_cases e : a = D
                    · rw [e, upd_same]; intro z; cases z
                    · rw [upd_ne e]; exact ex5.live a ha
                · have eq : ((lcGo (fun x h => evG C tg x (wipeA s own) h) (fun s h => evC C s d h) (fun s h => evE C s elt h) src f (i + 1) h5).bind fun ys h4 => R.ok (y :: ys) h4).bind (fun ys h2 => mk fl (accA ++ ys) h2) = (lcGo (fun x h => evG C tg x (wipeA s own) h) (fun s h => evC C s d h) (fun s h => evE C s elt h) src f (i + 1) h5).bind (fun ys h2 => mk fl (accA ++ [y] ++ ys) h2) := by
                    cases lcGo (fun x h => evG C tg x (wipeA s own) h) (fun s h => evC C s d h) (fun s h => evE C s elt h) src f (i + 1) h5 with
                    | ok ys h6 => simp
                    | exc a b c => rfl
                    | bad => rfl
                  rw [← eq]
                  exact p2

/-! ### comprehensions of two -/
def innerOf (C : Ctx) (t1 : Tg) (it1 : It) (c1 : Eo) (elt : E) : SP.St → AH → R (List AV) := fun s h => (noX (evI C s it1 h)).bind fun src1 h1 => lcGo (fun x h => evG C t1 x (wipeA s (tgSlots t1)) h) (fun s h => evC C s c1 h) (fun s h => evE C s elt h) src1 loop2 0 h1
def goOf (C : Ctx) (s : SP.St) (own : List Nat) (t : Tg) (c : Eo) (inner : SP.St → AH → R (List AV)) (src : Src) (f i : Nat) (h : AH) : R (List AV) := lc2Go (fun x h => evG C t x (wipeA s own) h) (fun s h => evC C s c h) inner src f i h
def inOf (C : Ctx) (s : SP.St) (t1 : Tg) (c1 : Eo) (elt : E) (src1 : Src) (f j : Nat) (h : AH) : R (List AV) := lcGo (fun x h => evG C t1 x (wipeA s (tgSlots t1)) h) (fun s h => evC C s c1 h) (fun s h => evE C s elt h) src1 f j h
theorem mk_two (a : R (List AV)) (g : AH → R (List AV)) (fl : Bool) (acc : List AV) : ((a.bind fun ys h => (g h).bind fun zs h' => .ok (ys ++ zs) h').bind fun ys h => mk fl (acc ++ ys) h) = a.bind fun ys h => (g h).bind fun zs h' => mk fl (acc ++ ys ++ zs) h' := by
  cases a with
  | bad => rfl
  | exc c w h => rfl
  | ok ys h =>
    simp only [R.bind_ok]
    cases g h with
    | bad => rfl
    | exc c w h => rfl
    | ok zs h' => simp only [R.bind_ok, List.append_assoc]
theorem mk_more (a : R (List AV)) (k : List AV → AH → R AV) (y : AV) (acc : List AV) (K : List AV → List AV → AH → R AV) (hk : ∀ ys h, k ys h = K acc ys h) (hK : ∀ ys h, K acc (y :: ys) h = K (acc ++ [y]) ys h) : ((a.bind fun ys h => .ok (y :: ys) h).bind k) = a.bind fun ys h => K (acc ++ [y]) ys h := by
  cases a with
  | bad => rfl
  | exc c w h => rfl
  | ok ys h => simp only [R.bind_ok, hk, hK]
theorem ExtZ.step {K : Fg} {Z m m1 m2 : List Addr} {H H1 H2 : Hp} {h1 : AH} (ez : ExtZ Z m H m1 H1) (S1 : SRel K Z m1 h1 H1) (e : Ext m1 H1 m2 H2) : ExtZ Z m H m2 H2 := by
  obtain ⟨r1, q1, n1⟩ := id ez.app
  obtain ⟨r2, q2, n2⟩ := id e.app
  refine ⟨⟨r1 ++ r2, by rw [q2, q1, List.append_assoc], fun a ha => ?_⟩, fun a o ha hz q => e.keep a o (ez.notMem ha q) (ez.keep a o ha hz q), fun a ha => e.live a (by rw [q1]; exact List.mem_append_left _ ha)⟩
  rcases List.mem_append.mp ha with z | z
  · exact n1 a z
  · have nn := n2 a z
    cases q : H a with
    | none => rfl
    | some o =>
      by_cases hm : a ∈ m
      · exact absurd nn (ez.live a hm)
      · by_cases hz : a ∈ Z
        · exact absurd nn (S1.zs a hz).2
        · rw [ez.keep a o hm hz q] at nn
          cases nn
theorem StRel.updZ {K : Fg} {Z m : List Addr} {H : Hp} {D : Addr} {o : HO} (hD : D ∈ Z) {s : SP.St} {t : L2.St} (r : StRel K Z m H s t) : StRel K Z m (upd H D o) s t :=
  ⟨r.1, fun i v h => let ⟨v', h1, h2⟩ := r.2 i v h; ⟨v', h1, Rel.updZ hD v v' h2⟩⟩

theorem lc2_read {k : KC} {C : Ctx} {w0 : XK} {fl : Bool} {own : List Nat} {tg : Tg} {it : It} {d : Eo} {tg1 : Tg} {it1 : It} {d1 : Eo} {elt : E} (ho : own = tgSlots tg ++ tgSlots tg1) (t : L2.St) (H : Hp) (Q : VK) (p : tI k C w0 (.lc2 fl own tg it d tg1 it1 d1 elt) t H Q) :
    tLc2 (tII k C w0 it) (tIG k C E0 tg) (tIC k C E0 d) (tII k C E0 it1) (tIG k C E0 tg1) (tIC k C E0 d1) (tI k C E0 elt) own (tgSlots tg1) t H Q := by
  obtain ⟨Z, m, s, h, S, St, p⟩ := p
  have p : PostG k Z m H w0 (Rel k.K Z) ((evI C s it h).bind fun src h1 => (goOf C s own tg d (innerOf C tg1 it1 d1 elt) src loop2 0 h1).bind fun ys h2 => mk fl ys h2) Q := by
    simp only [evE] at p
    exact p
  refine ⟨Z, m, s, h, S, St, (PostG.bind p).mono fun J H1 ⟨m1, src, h1, e1, S1, ad, p1⟩ => ?_⟩
  intro D hD
  have St1 := St.ext e1
  have nz : D ∉ Z := (S1.notNone hD).2
  have l2 : loop2 = 4000 := rfl
  have sl : sizeLine = 16777216 := by decide
  refine ⟨fun i f H' => f + i = loop2 ∧ ∃ m' h' accV accA, Ext m1 H1 m' H' ∧ D ∉ m' ∧ SRel k.K (D :: Z) m' h' H' ∧ H' D = some (.lst accV) ∧ RelL k.K (D :: Z) m' H' accA accV ∧ accA.length ≤ i * 4000 ∧
      PostG k Z m1 H1 w0 (Rel k.K Z) ((goOf C s own tg d (innerOf C tg1 it1 d1 elt) src f i h').bind fun ys h2 => mk fl (accA ++ ys) h2) Q,
    ⟨loop2, rfl, m1, h1, [], [], Ext.laid S1 hD, (S1.notNone hD).1, S1.begin hD, upd_same, rfl, Nat.zero_le _, p1⟩, ?_⟩
  rintro i f H' ⟨hf, m', h', accV, accA, ex, nD, S', eD, rA, hA, p2⟩
  cases f with
  | zero => simp only [goOf, lc2Go, R.bind_bad] at p2; exact p2.elim
  | succ f =>
    have zok : ZOk Z H1 (D :: Z) := fun a ha => by
      rcases List.mem_cons.mp ha with e | ha
      · rw [e]; exact .inr hD
      · exact .inl ha
    obtain ⟨a1, a2⟩ := ad (D :: Z) m' H' h' zok ex.toZ S' i
    cases hs : src.at i h' with
    | none => simp only [goOf, lc2Go, hs, R.bind_bad] at p2; exact p2.elim
    | some o =>
      cases o with
      | none =>
        simp only [goOf, lc2Go, hs, R.bind_ok, List.append_nil] at p2
        refine .inl ⟨a1 hs, ?_⟩
        cases fl with
        | true =>
          obtain ⟨r, er, en⟩ := id ex.app
          refine p2 (m' ++ [D]) H' (.ref D) ⟨⟨r ++ [D], by rw [er, List.append_assoc], fun a ha => ?_⟩, ex.keep, ex.live⟩ (S'.adopt nz eD rA) ⟨D, rfl, ?_⟩
          · rcases List.mem_append.mp ha with ha | ha
            · exact en a ha
            · rw [List.mem_singleton.mp ha]; exact hD
          · rw [List.getElem?_append_right (by rw [S'.len]; exact Nat.le_refl _), S'.len, Nat.sub_self]
            rfl
        | false =>
          exact p2 m' H' (.ref D) ex S'.less ⟨D, accV, rfl, .inl ⟨nD, nz, .inl eD⟩, RelL.less accA accV rA⟩
      | some x =>
        obtain ⟨go, yl⟩ := a2 x hs
        refine .inr ⟨go, fun H2 => f + (i + 1) = loop2 ∧ ∃ m' h' accV accA, Ext m1 H1 m' H2 ∧ D ∉ m' ∧ SRel k.K (D :: Z) m' h' H2 ∧ H2 D = some (.lst accV) ∧ RelL k.K (D :: Z) m' H2 accA accV ∧ accA.length ≤ (i + 1) * 4000 ∧
          PostG k Z m1 H1 w0 (Rel k.K Z) ((goOf C s own tg d (innerOf C tg1 it1 d1 elt) src f (i + 1) h').bind fun ys h2 => mk fl (accA ++ ys) h2) Q,
          fun H2 hW => ⟨f, Nat.lt_succ_self _, hW⟩, fun x' H2 hy => ?_⟩
        obtain ⟨e2, S2, r2⟩ := yl x' H2 hy
        have St2 : StRel k.K (D :: Z) m' H2 (wipeA s own) (L2.wipe t own) := by
          have q : StRel k.K Z m' H2 s t := (St1.ext ex).ext e2
          refine StRel.wipe ⟨q.1, fun j v hv => ?_⟩ own
          obtain ⟨v', g1, g2⟩ := St1.2 j v hv
          exact ⟨v', g1, Rel.ext (ex.trans e2) v v' (Rel.zs zok v v' g2)⟩
        refine ⟨D :: Z, m', wipeA s own, h', x, S2, St2, r2, ?_⟩
        cases hb : evG C tg x (wipeA s own) h' with
        | bad => simp only [goOf, lc2Go, hs, hb, noX_bad, R.bind_bad] at p2; exact p2.elim
        | exc a b c => simp only [goOf, lc2Go, hs, hb, noX, R.bind_bad] at p2; exact p2.elim
        | ok s3 h3 =>
          intro m3 H3 t3 e3 S3 ⟨r3, o3⟩
          have hw : L2.wipe t3 own = L2.wipe t own := by
            rw [Out.wipe o3 (fun j hj => by rw [ho]; exact List.mem_append_left _ hj), wipe_wipe]
          refine ⟨hw, D :: Z, m3, s3, h3, S3, r3, ?_⟩
          cases hc : evC C s3 d h3 with
          | bad => simp only [goOf, lc2Go, hs, hb, hc, noX_ok, noX_bad, R.bind_ok, R.bind_bad] at p2; exact p2.elim
          | exc a b c => simp only [goOf, lc2Go, hs, hb, hc, noX_ok, noX, R.bind_ok, R.bind_bad] at p2; exact p2.elim
          | ok bv h4 =>
            simp only [goOf, lc2Go, hs, hb, hc, noX_ok, R.bind_ok] at p2
            intro m4 H4 v4 e4 S4 r4
            cases bv <;> (try simp only [R.bind_bad] at p2) <;> (try exact p2.elim)
            rename_i bb
            refine ⟨bb, r4, ?_⟩
            have ex4 : Ext m1 H1 m4 H4 := ((ex.trans e2).trans e3).trans e4
            have eD2 : H2 D = some (.lst accV) := e2.keep D _ nD eD
            have nD3 : D ∉ m3 := e3.notMem nD eD2
            have eD3 : H3 D = some (.lst accV) := e3.keep D _ nD eD2
            have nD4 : D ∉ m4 := e4.notMem nD3 eD3
            have eD4 : H4 D = some (.lst accV) := e4.keep D _ nD3 eD3
            have rA4 : RelL k.K (D :: Z) m4 H4 accA accV := RelL.ext e4 _ _ (RelL.ext e3 _ _ (RelL.ext e2 _ _ rA))
            cases bb with
            | false => exact iteF ⟨by omega, m4, h4, accV, accA, ex4, nD4, S4, eD4, rA4, by omega, p2⟩
            | true =>
              refine iteT ⟨D :: Z, m4, s3, h4, S4, r3.ext e4, ?_⟩
              cases hi : evI C s3 it1 h4 with
              | bad => simp only [innerOf, hi, noX_bad, R.bind_bad] at p2; exact p2.elim
              | exc a b c => simp only [innerOf, hi, noX, R.bind_bad] at p2; exact p2.elim
              | ok src1 h5 =>
                intro m5 H5 J1 e5 S5 ad1
                have p3 : PostG k Z m1 H1 w0 (Rel k.K Z) ((inOf C s3 tg1 d1 elt src1 loop2 0 h5).bind fun ys h7 => (goOf C s own tg d (innerOf C tg1 it1 d1 elt) src f (i + 1) h7).bind fun zs h8 => mk fl (accA ++ ys ++ zs) h8) Q := by
                  rw [← mk_two]
                  simp only [innerOf, hi, noX_ok, R.bind_ok] at p2
                  exact p2
                have nD5 : D ∉ m5 := e5.notMem nD4 eD4
                have eD5 : H5 D = some (.lst accV) := e5.keep D _ nD4 eD4
                refine ⟨fun j f1 H6 => f1 + j = loop2 ∧ ∃ m6 h6 accV accA, Ext m1 H1 m6 H6 ∧ ExtZ (D :: Z) m5 H5 m6 H6 ∧ D ∉ m6 ∧ SRel k.K (D :: Z) m6 h6 H6 ∧ H6 D = some (.lst accV) ∧ RelL k.K (D :: Z) m6 H6 accA accV ∧ accA.length ≤ i * 4000 + j ∧ StRel k.K (D :: Z) m6 H6 s3 t3 ∧
                    PostG k Z m1 H1 w0 (Rel k.K Z) ((inOf C s3 tg1 d1 elt src1 f1 j h6).bind fun ys h7 => (goOf C s own tg d (innerOf C tg1 it1 d1 elt) src f (i + 1) h7).bind fun zs h8 => mk fl (accA ++ ys ++ zs) h8) Q,
                  ⟨loop2, rfl, m5, h5, accV, accA, ex4.trans e5, (Ext.refl S5).toZ, nD5, S5, eD5, RelL.ext e5 _ _ rA4, by omega, (r3.ext e4).ext e5, p3⟩, ?_⟩
                rintro j f1 H6 ⟨hf1, m6, h6, accV, accA, ex6, ez6, nD6, S6, eD6, rA6, hA6, St6, p6⟩
                cases f1 with
                | zero => simp only [inOf, lcGo, R.bind_bad] at p6; exact p6.elim
                | succ f1 =>
                  obtain ⟨b1, b2⟩ := ad1 (D :: Z) m6 H6 h6 ZOk.refl ez6 S6 j
                  cases hs1 : src1.at j h6 with
                  | none => simp only [inOf, lcGo, hs1, R.bind_bad] at p6; exact p6.elim
                  | some o1 =>
                    cases o1 with
                    | none =>
                      simp only [inOf, lcGo, hs1, R.bind_ok, List.append_nil] at p6
                      exact .inl ⟨b1 hs1, by omega, m6, h6, accV, accA, ex6, nD6, S6, eD6, rA6, by omega, p6⟩
                    | some x1 =>
                      obtain ⟨go1, yl1⟩ := b2 x1 hs1
                      refine .inr ⟨go1, fun H7 => f1 + (j + 1) = loop2 ∧ ∃ m6 h6 accV accA, Ext m1 H1 m6 H7 ∧ ExtZ (D :: Z) m5 H5 m6 H7 ∧ D ∉ m6 ∧ SRel k.K (D :: Z) m6 h6 H7 ∧ H7 D = some (.lst accV) ∧ RelL k.K (D :: Z) m6 H7 accA accV ∧ accA.length ≤ i * 4000 + (j + 1) ∧ StRel k.K (D :: Z) m6 H7 s3 t3 ∧
                          PostG k Z m1 H1 w0 (Rel k.K Z) ((inOf C s3 tg1 d1 elt src1 f1 (j + 1) h6).bind fun ys h7 => (goOf C s own tg d (innerOf C tg1 it1 d1 elt) src f (i + 1) h7).bind fun zs h8 => mk fl (accA ++ ys ++ zs) h8) Q,
                        fun H7 hW => ⟨f1, Nat.lt_succ_self _, hW⟩, fun x1' H7 hy1 => ?_⟩
                      obtain ⟨e7, S7, r7⟩ := yl1 x1' H7 hy1
                      refine ⟨D :: Z, m6, wipeA s3 (tgSlots tg1), h6, x1, S7, StRel.wipe (St6.ext e7) _, r7, ?_⟩
                      cases hb1 : evG C tg1 x1 (wipeA s3 (tgSlots tg1)) h6 with
                      | bad => simp only [inOf, lcGo, hs1, hb1, noX_bad, R.bind_bad] at p6; exact p6.elim
                      | exc a b c => simp only [inOf, lcGo, hs1, hb1, noX, R.bind_bad] at p6; exact p6.elim
                      | ok s8 h8 =>
                        intro m8 H8 t8 e8 S8 ⟨r8, o8⟩
                        have hw1 : L2.wipe t8 (tgSlots tg1) = L2.wipe t3 (tgSlots tg1) := by
                          rw [Out.wipe o8 (fun j hj => hj), wipe_wipe]
                        refine ⟨hw1, D :: Z, m8, s8, h8, S8, r8, ?_⟩
                        cases hc1 : evC C s8 d1 h8 with
                        | bad => simp only [inOf, lcGo, hs1, hb1, hc1, noX_ok, noX_bad, R.bind_ok, R.bind_bad] at p6; exact p6.elim
                        | exc a b c => simp only [inOf, lcGo, hs1, hb1, hc1, noX_ok, noX, R.bind_ok, R.bind_bad] at p6; exact p6.elim
                        | ok bv1 h9 =>
                          simp only [inOf, lcGo, hs1, hb1, hc1, noX_ok, R.bind_ok] at p6
                          intro m9 H9 v9 e9 S9 r9
                          cases bv1 <;> (try simp only [R.bind_bad] at p6) <;> (try exact p6.elim)
                          rename_i bb1
                          refine ⟨bb1, r9, ?_⟩
                          have ex9 : Ext m1 H1 m9 H9 := ((ex6.trans e7).trans e8).trans e9
                          have ez9 : ExtZ (D :: Z) m5 H5 m9 H9 := ez6.step S6 ((e7.trans e8).trans e9)
                          have eD7 : H7 D = some (.lst accV) := e7.keep D _ nD6 eD6
                          have nD8 : D ∉ m8 := e8.notMem nD6 eD7
                          have eD8 : H8 D = some (.lst accV) := e8.keep D _ nD6 eD7
                          have nD9 : D ∉ m9 := e9.notMem nD8 eD8
                          have eD9 : H9 D = some (.lst accV) := e9.keep D _ nD8 eD8
                          have rA9 : RelL k.K (D :: Z) m9 H9 accA accV := RelL.ext e9 _ _ (RelL.ext e8 _ _ (RelL.ext e7 _ _ rA6))
                          have St9 : StRel k.K (D :: Z) m9 H9 s3 t3 := ((St6.ext e7).ext e8).ext e9
                          cases bb1 with
                          | false => exact iteF ⟨by omega, m9, h9, accV, accA, ex9, ez9, nD9, S9, eD9, rA9, by omega, St9, p6⟩
                          | true =>
                            refine iteT ⟨D :: Z, m9, s8, h9, S9, r8.ext e9, ?_⟩
                            cases he : evE C s8 elt h9 with
                            | bad => simp only [he, noX_bad, R.bind_bad] at p6; exact p6.elim
                            | exc a b c => simp only [he, noX, R.bind_bad] at p6; exact p6.elim
                            | ok y h10 =>
                              simp only [he, noX_ok, R.bind_ok] at p6
                              intro mA HA y' eA SA rY
                              have nDA : D ∉ mA := eA.notMem nD9 eD9
                              have eDA : HA D = some (.lst accV) := eA.keep D _ nD9 eD9
                              have rAA := RelL.ext eA _ _ rA9
                              have exA : Ext m1 H1 mA HA := ex9.trans eA
                              have ezA : ExtZ (D :: Z) m5 H5 mA HA := ez9.step S9 eA
                              refine ⟨accV, eDA, ?_, by omega, mA, h10, accV ++ [y'], accA ++ [y], ?_, ?_, nDA, SA.grow, upd_same, RelL.updZ List.mem_cons_self _ _ (rAA.append (RelL.one rY)), by rw [List.length_append]; simp; omega, StRel.updZ List.mem_cons_self (St9.ext eA), ?_⟩
                              · rw [rAA.length]
                                omega
                              · refine ⟨exA.app, fun a o ha q => ?_, fun a ha => ?_⟩
                                · rw [upd_ne (ne_of_none q hD)]
                                  exact exA.keep a o ha q
                                · by_cases e : a = D
                                  · rw [e, upd_same]; intro z; cases z
                                  · rw [upd_ne e]; exact exA.live a ha
                              · refine ⟨ezA.app, fun a o ha hz q => ?_, fun a ha => ?_⟩
                                · rw [upd_ne (fun e => hz (by rw [e]; exact List.mem_cons_self))]
                                  exact ezA.keep a o ha hz q
                                · by_cases e : a = D
                                  · rw [e, upd_same]; intro z; cases z
                                  · rw [upd_ne e]; exact ezA.live a ha
                              · have eq := mk_more (lcGo (fun x h => evG C tg1 x (wipeA s3 (tgSlots tg1)) h) (fun s h => evC C s d1 h) (fun s h => evE C s elt h) src1 f1 (j + 1) h10) (fun ys h7 => (goOf C s own tg d (innerOf C tg1 it1 d1 elt) src f (i + 1) h7).bind fun zs h8 => mk fl (accA ++ ys ++ zs) h8) y accA
                                  (fun acc ys h7 => (goOf C s own tg d (innerOf C tg1 it1 d1 elt) src f (i + 1) h7).bind fun zs h8 => mk fl (acc ++ ys ++ zs) h8) (fun ys h => rfl) (fun ys h => by simp only [List.append_assoc, List.cons_append, List.nil_append])
                                show PostG k Z m1 H1 w0 (Rel k.K Z) ((lcGo (fun x h => evG C tg1 x (wipeA s3 (tgSlots tg1)) h) (fun s h => evC C s d1 h) (fun s h => evE C s elt h) src1 f1 (j + 1) h10).bind fun ys h7 => (goOf C s own tg d (innerOf C tg1 it1 d1 elt) src f (i + 1) h7).bind fun zs h8 => mk fl (accA ++ [y] ++ ys ++ zs) h8) Q
                                rw [← eq]
                                exact p6
end SP
end
section
set_option maxRecDepth 100000
set_option maxHeartbeats 4000000
/-! dict(zip(text, text)). -/
namespace SP
open PySem PySem.Spec PyProof.Rows L2

section
variable {prog : Program} {w : World} {A : Around} {E : Value → Shared → Prop} {s : Shared} {z TI TO i1 i2 T : Addr} {n1 n2 i : Nat} {P1 P2 : Nat → Value → Prop} {St1 St2 : Nat → Heap → Prop} {f : Bool} {oT : Obj}
theorem zipH_item {Q : Value → Shared → Prop} (S : ZipSep2 z TI TO i1 i2 [i1] [i2]) (D1 : Draws prog w A i1 [i1] n1 P1 St1) (D2 : Draws prog w A i2 [i2] n2 P2 St2) (zz : IsZipHeld s.heap z TI TO T f) (hT : s.heap.get? T = some oT) (tI : IsTupOf2 s.heap TI (.ref i1) (.ref i2))
    (st1 : St1 i s.heap) (st2 : St2 i s.heap) (l1 : i < n1) (l2 : i < n2) (hQ : ∀ x1 x2 h' tk, P1 i x1 → P2 i x2 → IsZipHeld h' z TI TO T true → St1 (i + 1) h' → St2 (i + 1) h' → IsTupOf2 h' s.heap.objs.size x1 x2 → (∀ c o, c ≠ z → c ≠ i1 → c ≠ i2 → s.heap.get? c = some o → h'.get? c = some o) → Q (.ref s.heap.objs.size) { s with heap := h', toks := tk }) :
    wpAny (model prog w) A (Builtin.«zip.__next__» ⟨[.ref z], []⟩) (fun fin s' => ∃ v, fin = .done (.ret v) ∧ Q v s') E s := by
  obtain ⟨hp, gg, dd, tk0, oo⟩ := s
  show wpAny (model prog w) A (field (.ref z) 2 >>= _) _ E _
  refine wpAny_bind (wpAny_field zz rfl (x := .bool false) rfl ?_)
  show wpAny (model prog w) A (field (.ref z) 3 >>= _) _ E _
  refine wpAny_bind (wpAny_field zz rfl (x := .ref TI) rfl (wpAny_bind (wpAny_seqItems tI rfl ?_)))
  show wpAny (model prog w) A (Builtin.SmallTypes.ownedTupleIsFree (.ref z) >>= _) _ E _
  refine wpAny_bind (wpAny_tupleHeld_zip zz hT fun g1 z1 s1 => ?_)
  replace s1 : Heap.SameBut z hp g1 := s1
  simp only [Bool.false_eq_true, if_false]
  refine wpAny_bind ?_
  rw [← Array.forIn_toList]; simp only [List.forIn_cons, List.forIn_nil]
  refine wpAny_bind (wpAny_bind (wpAny_holding ?_))
  show wpAny (model prog w) A (Builtin.SmallTypes.nextOf (.ref i1) >>= _) _ E ⟨g1, gg, dd, tk0, oo⟩
  refine wpAny_bind (D1.item i _ _ _ l1 (D1.over st1 s1 S.zf1) fun x1 g2 tk1 p1 n1' s2 => wpAny_pure (wpAny_pure ?_))
  replace s2 : Heap.SameBut i1 g1 g2 := s2
  refine wpAny_bind (wpAny_bind (wpAny_holding ?_))
  show wpAny (model prog w) A (Builtin.SmallTypes.nextOf (.ref i2) >>= _) _ E ⟨g2, gg, dd, tk1, oo⟩
  refine wpAny_bind (D2.item i _ _ _ l2 (D2.over (D2.over st2 s1 S.zf2) s2 S.sep1_2) fun x2 g3 tk2 p2 n2' s3 => wpAny_pure (wpAny_pure (wpAny_pure ?_)))
  replace s3 : Heap.SameBut i2 g2 g3 := s3
  show wpAny (model prog w) A (newTuple [x1, x2] >>= _) _ E ⟨g3, gg, dd, tk2, oo⟩
  refine wpAny_bind (wpAny_newTuple (wpAny_pure ⟨_, rfl, ?_⟩))
  have sz : g3.objs.size = hp.objs.size := by rw [s3.1, s2.1, s1.1]
  have kk : ∀ c o, c ≠ z → c ≠ i1 → c ≠ i2 → hp.get? c = some o → g3.get? c = some o := fun c o c1 c2 c3 e => s3.extBut _ _ c3 (s2.extBut _ _ c2 (s1.extBut _ _ c1 e))
  have z3 : IsZipHeld g3 z TI TO T true := s3.extBut _ _ S.zi2 (s2.extBut _ _ S.zi1 z1)
  have pr : IsTupOf2 (g3.push { cls := .type "tuple", data := .seq #[x1, x2] }) g3.objs.size x1 x2 := Heap.get?_push_size _ rfl
  show Q (.ref g3.objs.size) _
  rw [sz] at pr ⊢
  exact hQ x1 x2 _ tk2 p1 p2 (Heap.get?_push_of_some _ z3) (D1.frame _ _ _ (D1.over n1' s3 S.sep2_1) fun b _ o e => Heap.get?_push_of_some _ e) (D2.frame _ _ _ n2' fun b _ o e => Heap.get?_push_of_some _ e) pr fun c o c1 c2 c3 e => Heap.get?_push_of_some _ (kk c o c1 c2 c3 e)

theorem zipH_end {Q : Fin → Shared → Prop} (S : ZipSep2 z TI TO i1 i2 [i1] [i2]) (D1 : Draws prog w A i1 [i1] n1 P1 St1) (zz : IsZipHeld s.heap z TI TO T f) (hT : s.heap.get? T = some oT) (tI : IsTupOf2 s.heap TI (.ref i1) (.ref i2)) (st1 : St1 n1 s.heap)
    (hE : ∀ h' tk e, (∀ c o, c ≠ z → c ≠ i1 → c ≠ i2 → s.heap.get? c = some o → h'.get? c = some o) → (∃ o, h'.get? e = some o ∧ o.cls = .type "StopIteration") → E (.ref e) { s with heap := h', toks := tk }) :
    wpAny (model prog w) A (Builtin.«zip.__next__» ⟨[.ref z], []⟩) Q E s := by
  obtain ⟨hp, gg, dd, tk0, oo⟩ := s
  show wpAny (model prog w) A (field (.ref z) 2 >>= _) _ E _
  refine wpAny_bind (wpAny_field zz rfl (x := .bool false) rfl ?_)
  show wpAny (model prog w) A (field (.ref z) 3 >>= _) _ E _
  refine wpAny_bind (wpAny_field zz rfl (x := .ref TI) rfl (wpAny_bind (wpAny_seqItems tI rfl ?_)))
  show wpAny (model prog w) A (Builtin.SmallTypes.ownedTupleIsFree (.ref z) >>= _) _ E _
  refine wpAny_bind (wpAny_tupleHeld_zip zz hT fun g1 z1 s1 => ?_)
  replace s1 : Heap.SameBut z hp g1 := s1
  simp only [Bool.false_eq_true, if_false]
  refine wpAny_bind ?_
  rw [← Array.forIn_toList]; simp only [List.forIn_cons, List.forIn_nil]
  refine wpAny_bind (wpAny_bind (wpAny_holding ?_))
  show wpAny (model prog w) A (Builtin.SmallTypes.nextOf (.ref i1) >>= _) _ E ⟨g1, gg, dd, tk0, oo⟩
  refine wpAny_bind (D1.done _ _ _ (D1.over st1 s1 S.zf1) fun g2 e s2 he => ?_)
  exact hE g2 tk0 e (fun c o c1 c2 _ q => s2 _ _ c2 (s1.extBut _ _ c1 q)) he

theorem nextH_item {Q : Option Value → Shared → Prop} (S : ZipSep2 z TI TO i1 i2 [i1] [i2]) (D1 : Draws prog w A.in1 i1 [i1] n1 P1 St1) (D2 : Draws prog w A.in1 i2 [i2] n2 P2 St2) (zz : IsZipHeld s.heap z TI TO T f) (hT : s.heap.get? T = some oT) (tI : IsTupOf2 s.heap TI (.ref i1) (.ref i2))
    (st1 : St1 i s.heap) (st2 : St2 i s.heap) (l1 : i < n1) (l2 : i < n2) (hQ : ∀ x1 x2 h' tk, P1 i x1 → P2 i x2 → IsZipHeld h' z TI TO T true → St1 (i + 1) h' → St2 (i + 1) h' → IsTupOf2 h' s.heap.objs.size x1 x2 → (∀ c o, c ≠ z → c ≠ i1 → c ≠ i2 → s.heap.get? c = some o → h'.get? c = some o) → Q (some (.ref s.heap.objs.size)) { s with heap := h', toks := tk }) :
    wpAny (model prog w) A (pyNext (.ref z)) Q E s := by
  have ty : s.TypeIs (.ref z) "zip" := ⟨_, zz, rfl⟩
  unfold pyNext
  exact wpAny_bind (wpAny_attempt (wpAny_callSpecial?_slot (name := Str.ofString "__next__") ty F.slot_zip_next (wpAny_call_entry F.slot_zip_next ty F.entry_zip_next
    (zipH_item S D1 D2 zz hT tI st1 st2 l1 l2 fun x1 x2 h' tk a b c d e g k => wpAny_pure (hQ x1 x2 h' tk a b c d e g k)) (F.args_zip_next_1 _))))
theorem nextH_end {Q : Option Value → Shared → Prop} (S : ZipSep2 z TI TO i1 i2 [i1] [i2]) (D1 : Draws prog w A.in1 i1 [i1] n1 P1 St1) (zz : IsZipHeld s.heap z TI TO T f) (hT : s.heap.get? T = some oT) (tI : IsTupOf2 s.heap TI (.ref i1) (.ref i2)) (st1 : St1 n1 s.heap)
    (hQ : ∀ h' tk, (∀ c o, c ≠ z → c ≠ i1 → c ≠ i2 → s.heap.get? c = some o → h'.get? c = some o) → Q none { s with heap := h', toks := tk }) : wpAny (model prog w) A (pyNext (.ref z)) Q E s := by
  have ty : s.TypeIs (.ref z) "zip" := ⟨_, zz, rfl⟩
  unfold pyNext
  refine wpAny_bind (wpAny_attempt (wpAny_callSpecial?_slot (name := Str.ofString "__next__") ty F.slot_zip_next (wpAny_call_entry F.slot_zip_next ty F.entry_zip_next (zipH_end S D1 zz hT tI st1 fun h' tk e hk he => ?_) (F.args_zip_next_1 _))))
  obtain ⟨o, ho, hc⟩ := he
  exact wpAny_bind (wpAny_isInstance (T := "StopIteration") (b := true) ⟨o, ho, hc⟩ isSubtype_stop (wpAny_pure (hQ _ _ hk)))
end

abbrev SignOf (x : Str) (i : Nat) (v : Value) : Prop := ∃ c u, x.cps[i]? = some c ∧ v = .str ⟨#[c]⟩ u
abbrev TxtIt (h : Heap) (a : Addr) (x : Str) (t : Tok) (i : Nat) : Prop := h.IsStrIter a (strIterType x) x t i
/-- zip of two texts of one length, as pairs -/
theorem pairZipT {prog : Program} {w : World} (z TI TO i1 i2 : Addr) (S : ZipSep2 z TI TO i1 i2 [i1] [i2]) (x y : Str) (t u : Tok) (hl : y.cps.size = x.cps.size) :
    PairArg prog w "zip" z [z, TI, TO, i1, i2] [z, TO, i1, i2] x.cps.size (fun i k v => SignOf x i k ∧ SignOf y i v) (fun h => IsZip h z TI TO .none ∧ IsTupOf2 h TI (.ref i1) (.ref i2) ∧ (∃ a b, IsTupOf2 h TO a b) ∧ TxtIt h i1 x t 0 ∧ TxtIt h i2 y u 0) where
  type := fun s ok => ⟨_, ok.1, rfl⟩
  notDict := by decide
  keep := fun h h' ok hk => by
    obtain ⟨g1, g2, ⟨a, b, g3⟩, ⟨o1, g4, r4⟩, ⟨o2, g5, r5⟩⟩ := ok
    exact ⟨hk _ _ g1, hk _ _ g2, ⟨a, b, hk _ _ g3⟩, ⟨o1, hk _ _ g4, r4⟩, ⟨o2, hk _ _ g5, r5⟩⟩
  there := fun h ok b hb => by
    obtain ⟨g1, g2, ⟨a, c, g3⟩, ⟨o1, g4, _⟩, ⟨o2, g5, _⟩⟩ := ok
    simp only [List.mem_cons, List.not_mem_nil, or_false] at hb
    rcases hb with rfl | rfl | rfl | rfl | rfl
    · exact ⟨_, g1⟩
    · exact ⟨_, g2⟩
    · exact ⟨_, g3⟩
    · exact ⟨_, g4⟩
    · exact ⟨_, g5⟩
  sub := fun b hb => by
    simp only [List.mem_cons, List.not_mem_nil, or_false] at hb ⊢
    rcases hb with e | e | e | e <;> simp [e]
  noKeys := fun A s Q E hA ok h => getAttrOr_miss_zip ok.1 rfl rfl rfl zip_no_keys (by decide +kernel) hA h
  iter := fun A s d Q E hA ok hd hdf h => by
    obtain ⟨g1, g2, ⟨a, b, g3⟩, g4, g5⟩ := ok
    simp only [List.mem_cons, List.not_mem_nil, or_false, not_or] at hdf
    obtain ⟨dz, dTI, dTO, di1, di2⟩ := hdf
    have D1 : Draws prog w A.in1 i1 [i1] x.cps.size (SignOf x) (fun i h => TxtIt h i1 x t i) := Draws.text (show A.in1.handled = none from hA) i1 x t
    have D2 : Draws prog w A.in1 i2 [i2] x.cps.size (SignOf y) (fun i h => TxtIt h i2 y u i) := by
      have q : Draws prog w A.in1 i2 [i2] y.cps.size (SignOf y) (fun i h => TxtIt h i2 y u i) := Draws.text (show A.in1.handled = none from hA) i2 y u
      rw [hl] at q
      exact q
    have n12 : i1 ≠ i2 := fun e => S.sep1_2 (by rw [e]; simp)
    refine wpAny_pyIter_zip g1 (h z [z, TO, i1, i2] (fun i h => IsTupOf2 h TI (.ref i1) (.ref i2) ∧ TxtIt h i1 x t i ∧ TxtIt h i2 y u i ∧
      ((IsZip h z TI TO .none ∧ ∃ a b, IsTupOf2 h TO a b) ∨ ∃ T f oT, IsZipHeld h z TI TO T f ∧ h.get? T = some oT ∧ T ≠ z ∧ T ≠ i1 ∧ T ≠ i2 ∧ T ≠ d)) s.heap s.toks ?_ ⟨g2, g4, g5, .inl ⟨g1, a, b, g3⟩⟩ (fun _ _ e => e) fun b hb => .inl hb)
    exact {
      off := fun hm => by
        simp only [List.mem_cons, List.not_mem_nil, or_false] at hm
        rcases hm with e | e | e | e
        · exact dz e
        · exact dTO e
        · exact di1 e
        · exact di2 e
      frame := fun i h1 h2 st hk => by
        obtain ⟨q1, ⟨o1, q2, r2⟩, ⟨o2, q3, r3⟩, q4⟩ := st
        refine ⟨hk _ _ (Ne.symm dTI) q1, ⟨o1, hk _ _ (Ne.symm di1) q2, r2⟩, ⟨o2, hk _ _ (Ne.symm di2) q3, r3⟩, ?_⟩
        rcases q4 with ⟨q4, a, b, q5⟩ | ⟨T, f, oT, q4, q5, r⟩
        · exact .inl ⟨hk _ _ (Ne.symm dz) q4, a, b, hk _ _ (Ne.symm dTO) q5⟩
        · exact .inr ⟨T, f, oT, hk _ _ (Ne.symm dz) q4, hk _ _ r.2.2.2 q5, r⟩
      item := fun i s1 Q1 E1 hi st hds hQ => by
        obtain ⟨q1, q2, q3, q4⟩ := st
        have lt : ∀ {c o}, s1.heap.get? c = some o → s1.heap.objs.size ≠ c := fun e => Nat.ne_of_gt (Heap.lt_size e)
        have m1 : s1.heap.objs.size ≠ i1 := let ⟨_, e, _⟩ := q2; lt e
        have m2 : s1.heap.objs.size ≠ i2 := let ⟨_, e, _⟩ := q3; lt e
        rcases q4 with ⟨q4, a, b, q5⟩ | ⟨T, f, oT, q4, q5, r1, r2, r3, r4⟩
        · refine wpAny_pyNext_zipD2_item S D1 D2 q4 q1 q5 q2 q3 hi hi fun x1 x2 h' tk p1 p2 b1 b2 b3 b4 b5 b6 hk => ?_
          exact hQ s1.heap.objs.size x1 x2 h' tk ⟨p1, p2⟩ (.inl ⟨_, b5, rfl, _, rfl⟩) ⟨hk _ _ S.TIz S.TITO S.TIi1 S.TIi2 q1, b3, b4, .inr ⟨s1.heap.objs.size, false, _, b1, b5, lt q4, m1, m2, Nat.ne_of_gt hds⟩⟩
            fun c o hc e => hk c o (fun q => hc (by simp [q])) (fun q => hc (by simp [q])) (fun q => hc (by simp [q])) (fun q => hc (by simp [q])) e
        · refine nextH_item S D1 D2 q4 q5 q1 q2 q3 hi hi fun x1 x2 h' tk p1 p2 b1 b3 b4 b5 hk => ?_
          exact hQ s1.heap.objs.size x1 x2 h' tk ⟨p1, p2⟩ (.inl ⟨_, b5, rfl, _, rfl⟩) ⟨hk _ _ S.TIz S.TIi1 S.TIi2 q1, b3, b4, .inr ⟨T, true, oT, b1, hk _ _ r1 r2 r3 q5, r1, r2, r3, r4⟩⟩
            fun c o hc e => hk c o (fun q => hc (by simp [q])) (fun q => hc (by simp [q])) (fun q => hc (by simp [q])) e
      done := fun s1 Q1 E1 st hQ => by
        obtain ⟨q1, q2, q3, q4⟩ := st
        rcases q4 with ⟨q4, a, b, q5⟩ | ⟨T, f, oT, q4, q5, r1, r2, r3, r4⟩
        · exact wpAny_pyNext_zipD2_end S D1 D2 q4 q1 q5 q2 q3 (Nat.le_refl _) (Nat.le_refl _) (.inl rfl) fun h' tk hk => hQ h' tk fun c o hc e => hk c o (fun q => hc (by simp [q])) (fun q => hc (by simp [q])) (fun q => hc (by simp [q])) (fun q => hc (by simp [q])) e
        · exact nextH_end S D1 q4 q5 q1 q2 fun h' tk hk => hQ h' tk fun c o hc e => hk c o (fun q => hc (by simp [q])) (fun q => hc (by simp [q])) (fun q => hc (by simp [q])) e }

/-! ### the dict -/
def kvZ : List Nat → List Nat → List (Key × V)
  | c :: cs, e :: es => (.inr ⟨#[c]⟩, .str ⟨#[e]⟩) :: kvZ cs es
  | _, _ => []
theorem kvZ_len : ∀ {a b : List Nat}, b.length = a.length → (kvZ a b).length = a.length
  | [], _, _ => rfl
  | c :: cs, [], h => by simp at h
  | c :: cs, e :: es, h => by
    simp only [kvZ, List.length_cons, kvZ_len (a := cs) (b := es) (by simpa using h)]
theorem kvZ_get : ∀ {a b : List Nat} {i c e : Nat}, a[i]? = some c → b[i]? = some e → (kvZ a b)[i]? = some (.inr ⟨#[c]⟩, .str ⟨#[e]⟩)
  | [], b, i, c, e, h, _ => by simp at h
  | _ :: _, [], i, c, e, _, h => by simp at h
  | c0 :: cs, e0 :: es, 0, c, e, h, g => by
    simp only [List.length_cons, Nat.zero_lt_succ, List.getElem?_cons_zero, Option.some.injEq] at h g
    subst h g
    rfl
  | c0 :: cs, e0 :: es, i + 1, c, e, h, g => by
    simp only [List.getElem?_cons_succ] at h g
    simp only [kvZ, List.getElem?_cons_succ]
    exact kvZ_get h g
theorem kvZ_keys : ∀ {a b : List Nat}, b.length = a.length → (kvZ a b).map (·.1) = (a.map fun c => [c]).map fun k => Sum.inr (Str.mk k.toArray)
  | [], _, _ => rfl
  | c :: cs, [], h => by simp at h
  | c :: cs, e :: es, h => by
    simp only [kvZ, List.map_cons, kvZ_keys (a := cs) (b := es) (by simpa using h)]
theorem kvZ_vals {K : Fg} {Z m : List Addr} {H : Hp} : ∀ {a b : List Nat}, b.length = a.length → okS b = true → RelL K Z m H (b.map fun c => .str [c]) ((kvZ a b).map (·.2))
  | [], [], _, _ => rfl
  | [], e :: es, h, _ => by simp at h
  | c :: cs, [], h, _ => by simp at h
  | c :: cs, e :: es, h, o => by
    unfold okS at o
    simp only [List.all_cons, Bool.and_eq_true] at o
    refine ⟨.str ⟨#[e]⟩, _, rfl, ⟨rfl, by simp [bigL], ?_⟩, kvZ_vals (a := cs) (b := es) (by simpa using h) o.2⟩
    unfold okS
    simp only [List.all_cons, List.all_nil, Bool.and_true]
    exact o.1
theorem KV.keys {kvs : List (Key × V)} : ∀ {vs : List (Key × Value)}, KV kvs vs → kvs.map (·.1) = vs.map (·.1) := fun r => by
  induction r with
  | nil => rfl
  | cons p _ ih => rw [List.map_cons, List.map_cons, ih, p.1]
theorem KV.snoc {kvs : List (Key × V)} {vs : List (Key × Value)} {k : Key} {v : V} {u : Value} (r : KV kvs vs) (q : RelV v u) : KV (kvs ++ [(k, v)]) (vs ++ [(k, u)]) := by
  induction r with
  | nil => exact .cons ⟨rfl, q⟩ .nil
  | cons p _ ih => exact .cons p ih
theorem valueAt_no {vs : List (Key × Value)} {k : Key} (h : k ∉ vs.map (·.1)) : valueAt vs k = none := by
  unfold valueAt
  rw [List.find?_eq_none.mpr fun x hx => by
    simp only [decide_eq_true_eq]
    intro e
    exact h (List.mem_map.mpr ⟨x, hx, e⟩)]
  rfl
theorem key_fresh {a b : List Nat} (hl : b.length = a.length) (hn : a.Nodup) {i c : Nat} (h : a[i]? = some c) : (Sum.inr ⟨#[c]⟩ : Key) ∉ ((kvZ a b).take i).map (·.1) := by
  rw [List.map_take, kvZ_keys hl]
  intro hm
  obtain ⟨j, hj, e⟩ := List.mem_iff_getElem.mp hm
  rw [List.length_take] at hj
  rw [List.getElem_take, List.getElem_map, List.getElem_map] at e
  have hi := (List.getElem?_eq_some_iff.mp h)
  obtain ⟨hi1, hi2⟩ := hi
  have ej : a[j]'(by simp at hj; omega) = c := by
    have := Sum.inr.inj e
    have := Str.mk.inj this
    simpa using this
  have : j = i := (List.getElem_inj hn).mp (ej.trans hi2.symm)
  omega

theorem call_dictT {X : Cx} {pins : List (Addr × Obj)} {t : L2.St} {H : Hp} {s : Shared} {a b : List Nat} {u1 u2 : Tok} {Q : VK} (I : Inv X pins t H s) (hd : X.A.handled = none) (hl : b.length = a.length) (hn : a.Nodup) (hz : a.length ≤ sizeLine) (q : ∀ p, H p = none → Q (.ref p) (upd H p (.dK (kvZ a b)))) :
    wpAny (model X.prog X.w) X.A (call (.type "zip") [.str ⟨a.toArray⟩ u1, .str ⟨b.toArray⟩ u2]) (fun v s1 => wpAny (model X.prog X.w) X.A (call (.type "dict") [v]) (EP X pins t Q) X.xe s1) X.xe s := by
  refine zip_begins2 (begins_text ⟨a.toArray⟩ u1) (begins_text ⟨b.toArray⟩ u2) trivial trivial fun h1 g1 g2 g3 g4 g5 sz hk => ?_
  have S : ZipSep2 (s.heap.objs.size + 4) (s.heap.objs.size + 2) (s.heap.objs.size + 3) s.heap.objs.size (s.heap.objs.size + 1) [s.heap.objs.size] [s.heap.objs.size + 1] := by
    constructor <;> simp <;> omega
  have P := pairZipT (prog := X.prog) (w := X.w) _ _ _ _ _ S ⟨a.toArray⟩ ⟨b.toArray⟩ u1 u2 (by simpa using hl)
  have ok : (fun h => IsZip h (s.heap.objs.size + 4) (s.heap.objs.size + 2) (s.heap.objs.size + 3) .none ∧ IsTupOf2 h (s.heap.objs.size + 2) (.ref s.heap.objs.size) (.ref (s.heap.objs.size + 1)) ∧ (∃ a b, IsTupOf2 h (s.heap.objs.size + 3) a b) ∧ TxtIt h s.heap.objs.size ⟨a.toArray⟩ u1 0 ∧ TxtIt h (s.heap.objs.size + 1) ⟨b.toArray⟩ u2 0) h1 :=
    ⟨g1, g2, ⟨_, _, g3⟩, ⟨_, g4, rfl, rfl⟩, ⟨_, g5, rfl, rfl⟩⟩
  refine call_dict_arg (s := { s with heap := h1 }) P ok fun s2 e2 nf ok2 => ?_
  subst e2
  refine updateFrom_arg (A := X.A.in1) (Tab := fun i h => ∃ vs, h.DictOf (mixKind X.prog X.w) h1.objs.size vs ∧ KV ((kvZ a b).take i) vs) P .none hd ok2 nf ⟨[], Heap.DictOf.new h1, .nil⟩ (fun i h ⟨vs, d, _⟩ => d.lt_size) (fun i h h' wr' hw _ ⟨vs, d, r⟩ hk => ⟨vs, d.at' fun o e => hk _ o hw e, r⟩) ?_ ?_
  · rintro i k v s' Q' E' hi ⟨⟨c, tc, p1, rfl⟩, ⟨e, te, p2, rfl⟩⟩ ⟨vs, dd, r⟩ _ hQ
    have p1' : a[i]? = some c := by simpa using p1
    have p2' : b[i]? = some e := by simpa using p2
    have hlen : vs.length ≤ i := by
      have := Paired.length r
      rw [← this, List.length_take]
      omega
    refine wpAny_dictSet_pairs (knd := mixKind X.prog X.w) (k := Sum.inr ⟨#[c]⟩) (hsz := by have : i < a.length := by simpa using hi
                                                                                            omega) (key := .str ⟨#[c]⟩ tc) (keyIs_str _ tc) dd fun h' d' sb => hQ h' _ ⟨_, d', ?_⟩ sb
    rw [stored_absent (valueAt_no (by rw [← KV.keys r]; exact key_fresh hl hn p1'))]
    rw [List.take_succ, kvZ_get p1' p2']
    exact KV.snoc r ⟨te, rfl⟩
  · rintro h' tk ⟨vs, dd, r⟩ hk2
    rw [List.take_of_length_le (by rw [kvZ_len hl]; simp)] at r
    have sm : s.heap.objs.size ≤ h1.objs.size := by rw [sz]; omega
    have keep : ∀ b o, s.heap.get? b = some o → h'.get? b = some o := fun b o e => by
      have lt := Heap.lt_size e
      refine hk2 b o (Nat.ne_of_lt (Nat.lt_of_lt_of_le lt sm)) (fun hm => ?_) (Heap.get?_push_of_some _ (hk b o e))
      simp only [List.mem_cons, List.not_mem_nil, or_false] at hm
      rcases hm with e | e | e | e
      · exact Nat.ne_of_lt (Nat.lt_of_lt_of_le lt (Nat.le_add_right _ 4)) e
      · exact Nat.ne_of_lt (Nat.lt_of_lt_of_le lt (Nat.le_add_right _ 3)) e
      · exact Nat.ne_of_lt lt e
      · exact Nat.ne_of_lt (Nat.lt_of_lt_of_le lt (Nat.le_add_right _ 1)) e
    have hns : (h1.objs.size == sysModules) = false := beq_eq_false_iff_ne.mpr (Ne.symm (Nat.ne_of_lt (Nat.lt_of_lt_of_le I.big sm)))
    refine ⟨rfl, .ref h1.objs.size, _, I.laid (a := h1.objs.size) (o := .dK (kvZ a b)) (t' := tk) keep sm ⟨by rw [kvZ_len hl]; exact hz, hns, vs, r, dd⟩, rfl, q _ (I.hok.fresh sm)⟩

theorem pe_dictzip {X : Cx} {k : KC} {w0 : XK} {fl : Bool} {e1 e2 : Expr} {t : TA} {p1 p2 p3 p4 : Pos} (hK : X.K = k.K) (hc : X.calm = true) (hd : Gl X (Str.ofString "dict")) (hz : Gl X (Str.ofString "zip")) (md : X.mg (Str.ofString "dict") = none) (mz : X.mg (Str.ofString "zip") = none) (ha : PA X [e1, e2] t)
    (hs : starEach [e1, e2] X.env = (false, eval e1 X.env) :: starEach [e2] X.env) (hpl : (backTo p4 (starEach [e2] X.env)).any (·.1) = false) :
    PE X (.Call (.Name (Str.ofString "dict") p1) [.Call (.Name (Str.ofString "zip") p2) [e1, e2] [] p4] [] p3) (fun u H Q => t u H fun vs H1 => rC k w0 (bltop .dictzip fl) vs H1 Q) := by
  refine ⟨fun pins s u H Q I hh => ?_⟩
  refine wpAny_Call_Name_kw (ld_blt I hd md (u := .type "dict") (by decide +kernel) (PyProof.Rows.callWith_type1 ?_) (by decide) (by decide))
  show wpAny _ _ (spliced ((false, eval _ X.env) :: backTo p3 (starEach [] X.env))) _ _ s
  refine Calls.spliced_cons (wpAny_Call_Name_kw (ld_blt I hz mz (u := .type "zip") (by decide +kernel) (PyProof.Rows.callWith_type1 (thn (ha.run p4 pins s u H _ I hh) fun us s1 ⟨vs, H1, I1, r1, q1⟩ => ?_) hs hpl) (by decide) (by decide)))
  obtain ⟨Z, m, h, as, S, r, p⟩ := q1
  rcases as with _ | ⟨x, _ | ⟨y, _ | ⟨y2, as⟩⟩⟩
  · exact False.elim p
  · cases x <;> exact False.elim p
  · cases x <;> cases y <;> (try exact False.elim p)
    rename_i a b
    simp only [bltop] at p
    split at p
    · rename_i hab
      obtain ⟨v1, t1, rfl, ⟨ea, la, oa⟩, v2, t2, rfl, ⟨eb, lb, ob⟩, r3⟩ := r
      have r3' : t2 = [] := r3
      subst r3' ea eb
      cases r1 with
      | cons q1 rr =>
        cases rr with
        | cons q2 rr =>
          cases rr
          obtain ⟨u1, rfl⟩ := q1
          obtain ⟨u2, rfl⟩ := q2
          refine thn (call_dictT (Q := Q) I1 (I1.ok.hd hc) hab.1.symm hab.2 (bigL_le la) fun pp hp => ?_) fun v s2 q => Calls.spliced_nil q
          have ex := Ext.laid (o := .dK (kvZ a b)) S hp
          exact p m _ (.ref pp) ex (S.laid hp) ⟨pp, kvZ a b, rfl, ⟨(S.notNone hp).1, (S.notNone hp).2, upd_same⟩, kvZ_keys hab.1.symm, kvZ_vals hab.1.symm ob⟩
    · exact False.elim p
  · cases x <;> cases y <;> exact False.elim p
end SP
end
section
set_option maxRecDepth 100000
set_option maxHeartbeats 4000000
/-! dict(zip(text, text, strict=True)). -/
namespace SP
open PySem PySem.Spec PyProof.Rows L2

abbrev IsZipS (h : Heap) (z TI TO : Addr) (f0 : Value) : Prop :=
  h.get? z = some { cls := .type "zip", dict := none, data := .fields #[f0, .bool false, .bool true, .ref TI, .ref TO], slots := #[] }
abbrev IsZipSH (h : Heap) (z TI TO T : Addr) (f : Bool) : Prop :=
  h.get? z = some { cls := .type "zip", dict := none, data := .fields #[rawInt T, .bool f, .bool true, .ref TI, .ref TO], slots := #[] }

section
variable {prog : Program} {w : World} {A : Around} {E : Value → Shared → Prop} {s : Shared}
theorem neOr_item {it : Addr} {fp : List Addr} {n i : Nat} {P : Nat → Value → Prop} {St : Nat → Heap → Prop} (D : Draws prog w A it fp n P St) {Q : Option Value → Shared → Prop} (hi : i < n) (st : St i s.heap)
    (hQ : ∀ x h' tk, P i x → St (i + 1) h' → Heap.SameBut it s.heap h' → Q (some x) { s with heap := h', toks := tk }) : wpAny (model prog w) A (Builtin.SmallTypes.nextOrEnd (.ref it)) Q E s := by
  unfold Builtin.SmallTypes.nextOrEnd
  exact wpAny_bind (wpAny_attempt (D.item i s _ _ hi st fun x h' tk a b c => wpAny_pure (hQ x h' tk a b c)))
theorem neOr_done {it : Addr} {fp : List Addr} {n : Nat} {P : Nat → Value → Prop} {St : Nat → Heap → Prop} (D : Draws prog w A it fp n P St) {Q : Option Value → Shared → Prop} (st : St n s.heap)
    (hQ : ∀ h', Heap.ExtBut it s.heap h' → Q none { s with heap := h' }) : wpAny (model prog w) A (Builtin.SmallTypes.nextOrEnd (.ref it)) Q E s := by
  unfold Builtin.SmallTypes.nextOrEnd
  refine wpAny_bind (wpAny_attempt (D.done s _ _ st fun h' e a b => ?_))
  obtain ⟨o, ho, hc⟩ := b
  refine wpAny_bind (wpAny_isInstance (T := "StopIteration") (b := true) ⟨o, ho, hc⟩ isSubtype_stop ?_)
  exact wpAny_pure (hQ _ a)
theorem stop_it {α : Type} {Q : α → Shared → Prop} (hh : A.handled = none)
    (hE : ∀ h' e, (∀ b o, s.heap.get? b = some o → h'.get? b = some o) → (∃ o, h'.get? e = some o ∧ o.cls = .type "StopIteration") → E (.ref e) { s with heap := h' }) : wpAny (model prog w) A (Builtin.SmallTypes.stopIteration : Sem α) Q E s := by
  unfold Builtin.SmallTypes.stopIteration
  refine wpAny_bind ?_
  simp only [newExc, newTuple]
  refine wpAny_bind (wpAny_newObj_type ?_ (by size_fits))
  refine wpAny_bind (m := firstArgMember _ _) (wpAny_of_eq (a := Value.none) (by first | rfl | (simp only [firstArgMember]; rfl)) ?_)
  refine wpAny_newObj_type ?_ (by size_fits)
  simp only [raiseNew]
  refine wpAny_bind (wpAny_handled ?_)
  rw [hh]
  refine wpAny_bind (wpAny_pure (wpAny_throw ?_))
  exact hE _ _ (fun b o e => Heap.get?_push_of_some _ (Heap.get?_push_of_some _ e)) ⟨_, Heap.get?_push_size _ rfl, rfl⟩
theorem tupleHeldS {z TI TO T : Addr} {f : Bool} {oT : Obj} {Q : Bool → Shared → Prop} (hz : IsZipSH s.heap z TI TO T f) (hT : s.heap.get? T = some oT)
    (h : ∀ h', IsZipSH h' z TI TO T true → Heap.SameBut z s.heap h' → Q false { s with heap := h' }) : wpAny (model prog w) A (Builtin.SmallTypes.ownedTupleIsFree (.ref z)) Q E s := by
  unfold Builtin.SmallTypes.ownedTupleIsFree
  refine wpAny_bind (wpAny_field hz rfl (x := rawInt T) rfl ?_)
  show wpAny _ _ (loadIfAlive ((T : Int).toNat) >>= _) _ _ _
  rw [Int.toNat_natCast]
  refine wpAny_bind (PySem.W.kdx_alive hT ?_)
  simp only [Option.isNone_some, Bool.false_eq_true, if_false]
  refine wpAny_bind (wpAny_field hz rfl (x := .bool f) rfl ?_)
  cases f with
  | true =>
    rw [if_neg (show ¬ ((Value.bool true != Value.bool true) = true) from Bool.false_ne_true)]
    exact wpAny_pure (h s.heap hz (Heap.SameBut.refl _ _))
  | false =>
    rw [if_pos (show (Value.bool false != Value.bool true) = true from rfl)]
    exact wpAny_bind (wpAny_setField_rec hz (by simp) fun h₁ hz₁ hs₁ => wpAny_pure (h h₁ hz₁ hs₁))
end

section
variable {prog : Program} {w : World} {A : Around} {E : Value → Shared → Prop} {s : Shared} {z TI TO i1 i2 T : Addr} {n i : Nat} {P1 P2 : Nat → Value → Prop} {St1 St2 : Nat → Heap → Prop} {f : Bool} {oT : Obj} {a1 a2 : Value}
theorem zipS_item {Q : Value → Shared → Prop} (S : ZipSep2 z TI TO i1 i2 [i1] [i2]) (D1 : Draws prog w A i1 [i1] n P1 St1) (D2 : Draws prog w A i2 [i2] n P2 St2)
    (hz : IsZipS s.heap z TI TO .none) (hTI : IsTupOf2 s.heap TI (.ref i1) (.ref i2)) (hTO : IsTupOf2 s.heap TO a1 a2) (st1 : St1 i s.heap) (st2 : St2 i s.heap) (hlt : i < n)
    (hQ : ∀ x1 x2 h' tk, P1 i x1 → P2 i x2 → IsZipSH h' z TI TO s.heap.objs.size false → IsTupOf2 h' TO x1 x2 → St1 (i + 1) h' → St2 (i + 1) h' → IsTupOf2 h' s.heap.objs.size x1 x2 →
      (∀ c o, c ≠ z → c ≠ TO → c ≠ i1 → c ≠ i2 → s.heap.get? c = some o → h'.get? c = some o) → Q (.ref s.heap.objs.size) { s with heap := h', toks := tk }) :
    wpAny (model prog w) A (Builtin.«zip.__next__» ⟨[.ref z], []⟩) (fun fin s' => ∃ v, fin = .done (.ret v) ∧ Q v s') E s := by
  obtain ⟨hp, g, d, tk0, os⟩ := s
  show wpAny _ _ (field (.ref z) 2 >>= _) _ _ _
  refine wpAny_bind (wpAny_field hz rfl (x := .bool true) rfl ?_)
  show wpAny _ _ (field (.ref z) 3 >>= _) _ _ _
  refine wpAny_bind (wpAny_field hz rfl (x := .ref TI) rfl ?_)
  refine wpAny_bind (wpAny_seqItems hTI rfl ?_)
  show wpAny _ _ (Builtin.SmallTypes.ownedTupleIsFree (.ref z) >>= _) _ _ _
  refine wpAny_bind ?_
  unfold Builtin.SmallTypes.ownedTupleIsFree
  refine wpAny_bind (wpAny_field hz rfl (x := .none) rfl (wpAny_pure ?_))
  simp only [if_true]
  refine wpAny_bind (wpAny_rule ?_)
  refine wpAny_bind (wpAny_field hz rfl (x := .ref TO) rfl ?_)
  refine wpAny_bind (wpAny_setField_rec hz (by simp) fun g0 hz0 hs0 => ?_)
  replace hz0 : IsZipS g0 z TI TO .ellipsis := hz0
  replace hs0 : Heap.SameBut z hp g0 := hs0
  refine wpAny_bind ?_
  simp only [List.zipIdx_cons, List.zipIdx_nil, List.forIn_cons, List.forIn_nil]
  refine wpAny_bind (wpAny_bind (wpAny_onRaise ?_))
  show wpAny _ _ (Builtin.SmallTypes.nextOrEnd (.ref i1)) _ _ ⟨g0, g, d, tk0, os⟩
  refine neOr_item (s := ⟨g0, g, d, tk0, os⟩) D1 hlt (D1.over st1 hs0 S.zf1) fun x1 p1 tk1 hx1 sn1 hp1 => ?_
  replace hp1 : Heap.SameBut i1 g0 p1 := hp1
  have hU1 : IsTupOf2 p1 TO a1 a2 := hp1.extBut _ _ S.Ti1 (hs0.extBut _ _ S.TOz hTO)
  refine wpAny_bind (wpAny_seqItems (s := ⟨p1, g, d, tk1, os⟩) hU1 rfl ?_)
  refine wpAny_bind (updateSeq_IsTupOf2 (s := ⟨p1, g, d, tk1, os⟩) hU1 fun g1 hT1 hs1 => ?_)
  replace hT1 : IsTupOf2 g1 TO x1 a2 := hT1
  replace hs1 : Heap.SameBut TO p1 g1 := hs1
  refine wpAny_bind (wpAny_letGo (wpAny_pure ?_))
  refine wpAny_bind (wpAny_bind (wpAny_onRaise ?_))
  show wpAny _ _ (Builtin.SmallTypes.nextOrEnd (.ref i2)) _ _ ⟨g1, g, d, tk1, os⟩
  refine neOr_item (s := ⟨g1, g, d, tk1, os⟩) D2 hlt (D2.over (D2.over (D2.over st2 hs0 S.zf2) hp1 S.sep1_2) hs1 S.Tf2) fun x2 p2 tk2 hx2 sn2 hp2 => ?_
  replace hp2 : Heap.SameBut i2 g1 p2 := hp2
  have hU2 : IsTupOf2 p2 TO x1 a2 := hp2.extBut _ _ S.Ti2 hT1
  refine wpAny_bind (wpAny_seqItems (s := ⟨p2, g, d, tk2, os⟩) hU2 rfl ?_)
  refine wpAny_bind (updateSeq_IsTupOf2 (s := ⟨p2, g, d, tk2, os⟩) hU2 fun g2 hT2 hs2 => ?_)
  replace hT2 : IsTupOf2 g2 TO x1 x2 := hT2
  replace hs2 : Heap.SameBut TO p2 g2 := hs2
  refine wpAny_bind (wpAny_letGo (wpAny_pure (wpAny_pure ?_)))
  refine wpAny_bind (wpAny_seqItems (s := ⟨g2, g, d, tk2, os⟩) hT2 rfl ?_)
  refine wpAny_bind (wpAny_newTuple ?_)
  have hsz : g2.objs.size = hp.objs.size := by rw [hs2.1, hp2.1, hs1.1, hp1.1, hs0.1]
  have hzz : IsZipS g2 z TI TO .ellipsis := (hs2.extBut _ _ S.TOz.symm (hp2.extBut _ _ S.zi2 (hs1.extBut _ _ S.TOz.symm (hp1.extBut _ _ S.zi1 hz0))))
  have hkk : ∀ c o, c ≠ z → c ≠ TO → c ≠ i1 → c ≠ i2 → hp.get? c = some o → g2.get? c = some o := fun c o cz cT c1 c2 e =>
    (hs2.extBut _ _ cT (hp2.extBut _ _ c2 (hs1.extBut _ _ cT (hp1.extBut _ _ c1 (hs0.extBut _ _ cz e)))))
  have hj1 : St1 (i + 1) g2 := (D1.over (D1.over (D1.over sn1 hs1 S.Tf1) hp2 S.sep2_1) hs2 S.Tf1)
  have hj2 : St2 (i + 1) g2 := (D2.over sn2 hs2 S.Tf2)
  have hzlt : z < g2.objs.size := Heap.lt_size hzz
  show wpAny _ _ (Builtin.SmallTypes.ownedTupleHandOut (.ref z) (.ref g2.objs.size) >>= _) _ _ ⟨g2.push { cls := .type "tuple", data := .seq #[x1, x2] }, g, d, tk2, os⟩
  refine wpAny_bind ?_
  unfold Builtin.SmallTypes.ownedTupleHandOut
  have hz₆ : IsZipS (g2.push { cls := .type "tuple", data := .seq #[x1, x2] }) z TI TO .ellipsis := Heap.get?_push_of_some _ hzz
  refine wpAny_bind (wpAny_setField_rec hz₆ (by simp) fun h₇ hz₇ hs₇ => ?_)
  replace hz₇ : IsZipS h₇ z TI TO (rawInt g2.objs.size) := hz₇
  refine wpAny_setField_rec hz₇ (by simp) fun h₈ hz₈ hs₈ => ?_
  replace hz₈ : IsZipSH h₈ z TI TO g2.objs.size false := hz₈
  replace hs₇ : Heap.SameBut z (g2.push { cls := .type "tuple", data := .seq #[x1, x2] }) h₇ := hs₇
  replace hs₈ : Heap.SameBut z h₇ h₈ := hs₈
  have up : ∀ c o, c ≠ z → g2.get? c = some o → h₈.get? c = some o := fun c o c1 e => hs₈.extBut _ _ c1 (hs₇.extBut _ _ c1 (Heap.get?_push_of_some _ e))
  have hT₈ : IsTupOf2 h₈ g2.objs.size x1 x2 := hs₈.extBut _ _ (Nat.ne_of_gt hzlt) (hs₇.extBut _ _ (Nat.ne_of_gt hzlt) (Heap.get?_push_size _ rfl))
  rw [hsz] at hz₈ hT₈
  refine wpAny_pure ⟨_, rfl, ?_⟩
  show Q (.ref g2.objs.size) ⟨h₈, g, d, tk2, os⟩
  rw [hsz]
  exact hQ x1 x2 h₈ tk2 hx1 hx2 hz₈ (up _ _ S.TOz hT2) (D1.frame _ _ _ hj1 fun b hb o e => up b o (fun q => S.zf1 (q ▸ hb)) e) (D2.frame _ _ _ hj2 fun b hb o e => up b o (fun q => S.zf2 (q ▸ hb)) e) hT₈ fun c o cz cT c1 c2 e => up c o cz (hkk c o cz cT c1 c2 e)

theorem zipS_end {Q : Fin → Shared → Prop} (hh : A.handled = none) (S : ZipSep2 z TI TO i1 i2 [i1] [i2]) (D1 : Draws prog w A i1 [i1] n P1 St1) (D2 : Draws prog w A i2 [i2] n P2 St2)
    (hz : IsZipS s.heap z TI TO .none) (hTI : IsTupOf2 s.heap TI (.ref i1) (.ref i2)) (st1 : St1 n s.heap) (st2 : St2 n s.heap)
    (hE : ∀ h' tk e, (∀ c o, c ≠ z → c ≠ TO → c ≠ i1 → c ≠ i2 → s.heap.get? c = some o → h'.get? c = some o) → (∃ o, h'.get? e = some o ∧ o.cls = .type "StopIteration") → E (.ref e) { s with heap := h', toks := tk }) :
    wpAny (model prog w) A (Builtin.«zip.__next__» ⟨[.ref z], []⟩) Q E s := by
  obtain ⟨hp, g, d, tk0, os⟩ := s
  show wpAny _ _ (field (.ref z) 2 >>= _) _ _ _
  refine wpAny_bind (wpAny_field hz rfl (x := .bool true) rfl ?_)
  show wpAny _ _ (field (.ref z) 3 >>= _) _ _ _
  refine wpAny_bind (wpAny_field hz rfl (x := .ref TI) rfl ?_)
  refine wpAny_bind (wpAny_seqItems hTI rfl ?_)
  show wpAny _ _ (Builtin.SmallTypes.ownedTupleIsFree (.ref z) >>= _) _ _ _
  refine wpAny_bind ?_
  unfold Builtin.SmallTypes.ownedTupleIsFree
  refine wpAny_bind (wpAny_field hz rfl (x := .none) rfl (wpAny_pure ?_))
  simp only [if_true]
  refine wpAny_bind (wpAny_rule ?_)
  refine wpAny_bind (wpAny_field hz rfl (x := .ref TO) rfl ?_)
  refine wpAny_bind (wpAny_setField_rec hz (by simp) fun g0 hz0 hs0 => ?_)
  replace hz0 : IsZipS g0 z TI TO .ellipsis := hz0
  replace hs0 : Heap.SameBut z hp g0 := hs0
  refine wpAny_bind ?_
  simp only [List.zipIdx_cons, List.zipIdx_nil, List.forIn_cons, List.forIn_nil]
  refine wpAny_bind (wpAny_bind (wpAny_onRaise ?_))
  show wpAny _ _ (Builtin.SmallTypes.nextOrEnd (.ref i1)) _ _ ⟨g0, g, d, tk0, os⟩
  refine neOr_done (s := ⟨g0, g, d, tk0, os⟩) D1 (D1.over st1 hs0 S.zf1) fun g1 hs1 => ?_
  replace hs1 : Heap.ExtBut i1 g0 g1 := hs1
  have hz1 : IsZipS g1 z TI TO .ellipsis := hs1 _ _ S.zi1 hz0
  refine wpAny_bind (wpAny_setField_rec (s := ⟨g1, g, d, tk0, os⟩) hz1 (by simp) fun g2 hz2 hs2 => ?_)
  replace hs2 : Heap.SameBut z g1 g2 := hs2
  have e2 : St2 n g2 := D2.frame _ _ _ (D2.over st2 hs0 S.zf2) fun b hb o e => hs2.extBut b o (fun q => S.zf2 (q ▸ hb)) (hs1 b o (fun q => S.sep1_2 (q ▸ hb)) e)
  refine wpAny_bind (wpAny_bind ?_)
  show wpAny _ _ (forIn [(Value.ref i2, 1)] PUnit.unit _) _ _ ⟨g2, g, d, tk0, os⟩
  simp only [List.forIn_cons, List.forIn_nil]
  refine wpAny_bind (wpAny_bind (neOr_done (s := ⟨g2, g, d, tk0, os⟩) D2 e2 fun g3 hs3 => ?_))
  replace hs3 : Heap.ExtBut i2 g2 g3 := hs3
  simp only [Option.isSome_none, Bool.false_eq_true, if_false]
  refine wpAny_pure (wpAny_pure (wpAny_bind (wpAny_rule (stop_it (s := ⟨g3, g, d, tk0, os⟩) hh fun g4 e hk he => ?_))))
  exact hE g4 tk0 e (fun c o cz cT c1 c2 q => hk c o (hs3 c o c2 (hs2.extBut c o cz (hs1 c o c1 (hs0.extBut c o cz q))))) he

theorem zipSH_item {Q : Value → Shared → Prop} (S : ZipSep2 z TI TO i1 i2 [i1] [i2]) (D1 : Draws prog w A i1 [i1] n P1 St1) (D2 : Draws prog w A i2 [i2] n P2 St2) (zz : IsZipSH s.heap z TI TO T f) (hT : s.heap.get? T = some oT) (tI : IsTupOf2 s.heap TI (.ref i1) (.ref i2))
    (st1 : St1 i s.heap) (st2 : St2 i s.heap) (l1 : i < n) (hQ : ∀ x1 x2 h' tk, P1 i x1 → P2 i x2 → IsZipSH h' z TI TO T true → St1 (i + 1) h' → St2 (i + 1) h' → IsTupOf2 h' s.heap.objs.size x1 x2 → (∀ c o, c ≠ z → c ≠ i1 → c ≠ i2 → s.heap.get? c = some o → h'.get? c = some o) → Q (.ref s.heap.objs.size) { s with heap := h', toks := tk }) :
    wpAny (model prog w) A (Builtin.«zip.__next__» ⟨[.ref z], []⟩) (fun fin s' => ∃ v, fin = .done (.ret v) ∧ Q v s') E s := by
  obtain ⟨hp, gg, dd, tk0, oo⟩ := s
  show wpAny (model prog w) A (field (.ref z) 2 >>= _) _ E _
  refine wpAny_bind (wpAny_field zz rfl (x := .bool true) rfl ?_)
  show wpAny (model prog w) A (field (.ref z) 3 >>= _) _ E _
  refine wpAny_bind (wpAny_field zz rfl (x := .ref TI) rfl (wpAny_bind (wpAny_seqItems tI rfl ?_)))
  show wpAny (model prog w) A (Builtin.SmallTypes.ownedTupleIsFree (.ref z) >>= _) _ E _
  refine wpAny_bind (tupleHeldS zz hT fun g1 z1 s1 => ?_)
  replace s1 : Heap.SameBut z hp g1 := s1
  simp only [Bool.false_eq_true, if_false]
  refine wpAny_bind ?_
  rw [← Array.forIn_toList]; simp only [List.forIn_cons, List.forIn_nil]
  refine wpAny_bind (wpAny_bind (wpAny_holding ?_))
  show wpAny (model prog w) A (Builtin.SmallTypes.nextOrEnd (.ref i1)) _ E ⟨g1, gg, dd, tk0, oo⟩
  refine neOr_item (s := ⟨g1, gg, dd, tk0, oo⟩) D1 l1 (D1.over st1 s1 S.zf1) fun x1 g2 tk1 p1 n1' s2 => wpAny_pure ?_
  replace s2 : Heap.SameBut i1 g1 g2 := s2
  refine wpAny_bind (wpAny_bind (wpAny_holding ?_))
  show wpAny (model prog w) A (Builtin.SmallTypes.nextOrEnd (.ref i2)) _ E ⟨g2, gg, dd, tk1, oo⟩
  refine neOr_item (s := ⟨g2, gg, dd, tk1, oo⟩) D2 l1 (D2.over (D2.over st2 s1 S.zf2) s2 S.sep1_2) fun x2 g3 tk2 p2 n2' s3 => wpAny_pure (wpAny_pure ?_)
  replace s3 : Heap.SameBut i2 g2 g3 := s3
  show wpAny (model prog w) A (newTuple [x1, x2] >>= _) _ E ⟨g3, gg, dd, tk2, oo⟩
  refine wpAny_bind (wpAny_newTuple (wpAny_pure ⟨_, rfl, ?_⟩))
  have sz : g3.objs.size = hp.objs.size := by rw [s3.1, s2.1, s1.1]
  have kk : ∀ c o, c ≠ z → c ≠ i1 → c ≠ i2 → hp.get? c = some o → g3.get? c = some o := fun c o c1 c2 c3 e => s3.extBut _ _ c3 (s2.extBut _ _ c2 (s1.extBut _ _ c1 e))
  have z3 : IsZipSH g3 z TI TO T true := s3.extBut _ _ S.zi2 (s2.extBut _ _ S.zi1 z1)
  have pr : IsTupOf2 (g3.push { cls := .type "tuple", data := .seq #[x1, x2] }) g3.objs.size x1 x2 := Heap.get?_push_size _ rfl
  show Q (.ref g3.objs.size) _
  rw [sz] at pr ⊢
  exact hQ x1 x2 _ tk2 p1 p2 (Heap.get?_push_of_some _ z3) (D1.frame _ _ _ (D1.over n1' s3 S.sep2_1) fun b _ o e => Heap.get?_push_of_some _ e) (D2.frame _ _ _ n2' fun b _ o e => Heap.get?_push_of_some _ e) pr fun c o c1 c2 c3 e => Heap.get?_push_of_some _ (kk c o c1 c2 c3 e)

theorem zipSH_end {Q : Fin → Shared → Prop} (hh : A.handled = none) (S : ZipSep2 z TI TO i1 i2 [i1] [i2]) (D1 : Draws prog w A i1 [i1] n P1 St1) (D2 : Draws prog w A i2 [i2] n P2 St2) (zz : IsZipSH s.heap z TI TO T f) (hT : s.heap.get? T = some oT) (tI : IsTupOf2 s.heap TI (.ref i1) (.ref i2)) (st1 : St1 n s.heap) (st2 : St2 n s.heap)
    (hE : ∀ h' tk e, (∀ c o, c ≠ z → c ≠ i1 → c ≠ i2 → s.heap.get? c = some o → h'.get? c = some o) → (∃ o, h'.get? e = some o ∧ o.cls = .type "StopIteration") → E (.ref e) { s with heap := h', toks := tk }) :
    wpAny (model prog w) A (Builtin.«zip.__next__» ⟨[.ref z], []⟩) Q E s := by
  obtain ⟨hp, gg, dd, tk0, oo⟩ := s
  show wpAny (model prog w) A (field (.ref z) 2 >>= _) _ E _
  refine wpAny_bind (wpAny_field zz rfl (x := .bool true) rfl ?_)
  show wpAny (model prog w) A (field (.ref z) 3 >>= _) _ E _
  refine wpAny_bind (wpAny_field zz rfl (x := .ref TI) rfl (wpAny_bind (wpAny_seqItems tI rfl ?_)))
  show wpAny (model prog w) A (Builtin.SmallTypes.ownedTupleIsFree (.ref z) >>= _) _ E _
  refine wpAny_bind (tupleHeldS zz hT fun g1 z1 s1 => ?_)
  replace s1 : Heap.SameBut z hp g1 := s1
  simp only [Bool.false_eq_true, if_false]
  refine wpAny_bind ?_
  rw [← Array.forIn_toList]; simp only [List.forIn_cons, List.forIn_nil]
  refine wpAny_bind (wpAny_bind (wpAny_holding ?_))
  show wpAny (model prog w) A (Builtin.SmallTypes.nextOrEnd (.ref i1)) _ E ⟨g1, gg, dd, tk0, oo⟩
  refine neOr_done (s := ⟨g1, gg, dd, tk0, oo⟩) D1 (D1.over st1 s1 S.zf1) fun g2 s2 => ?_
  replace s2 : Heap.ExtBut i1 g1 g2 := s2
  have e2 : St2 n g2 := D2.frame _ _ _ (D2.over st2 s1 S.zf2) fun b hb o e => s2 b o (fun q => S.sep1_2 (q ▸ hb)) e
  refine wpAny_bind (wpAny_bind ?_)
  show wpAny _ _ (forIn [(Value.ref i2, 1)] PUnit.unit _) _ _ ⟨g2, gg, dd, tk0, oo⟩
  simp only [List.forIn_cons, List.forIn_nil]
  refine wpAny_bind (wpAny_bind (neOr_done (s := ⟨g2, gg, dd, tk0, oo⟩) D2 e2 fun g3 s3 => ?_))
  replace s3 : Heap.ExtBut i2 g2 g3 := s3
  simp only [Option.isSome_none, Bool.false_eq_true, if_false]
  refine wpAny_pure (wpAny_pure (wpAny_bind (wpAny_rule (stop_it (s := ⟨g3, gg, dd, tk0, oo⟩) hh fun g4 e hk he => ?_))))
  exact hE g4 tk0 e (fun c o c1 c2 c3 q => hk c o (s3 c o c3 (s2 c o c2 (s1.extBut c o c1 q)))) he
end

section
variable {prog : Program} {w : World} {A : Around} {E : Value → Shared → Prop} {s : Shared} {z TI TO i1 i2 T : Addr} {n i : Nat} {P1 P2 : Nat → Value → Prop} {St1 St2 : Nat → Heap → Prop} {f : Bool} {oT : Obj} {a1 a2 : Value}
theorem nextS_item {Q : Option Value → Shared → Prop} (S : ZipSep2 z TI TO i1 i2 [i1] [i2]) (D1 : Draws prog w A.in1 i1 [i1] n P1 St1) (D2 : Draws prog w A.in1 i2 [i2] n P2 St2)
    (hz : IsZipS s.heap z TI TO .none) (hTI : IsTupOf2 s.heap TI (.ref i1) (.ref i2)) (hTO : IsTupOf2 s.heap TO a1 a2) (st1 : St1 i s.heap) (st2 : St2 i s.heap) (hlt : i < n)
    (hQ : ∀ x1 x2 h' tk, P1 i x1 → P2 i x2 → IsZipSH h' z TI TO s.heap.objs.size false → IsTupOf2 h' TO x1 x2 → St1 (i + 1) h' → St2 (i + 1) h' → IsTupOf2 h' s.heap.objs.size x1 x2 →
      (∀ c o, c ≠ z → c ≠ TO → c ≠ i1 → c ≠ i2 → s.heap.get? c = some o → h'.get? c = some o) → Q (some (.ref s.heap.objs.size)) { s with heap := h', toks := tk }) :
    wpAny (model prog w) A (pyNext (.ref z)) Q E s := by
  have ty : s.TypeIs (.ref z) "zip" := ⟨_, hz, rfl⟩
  unfold pyNext
  exact wpAny_bind (wpAny_attempt (wpAny_callSpecial?_slot (name := Str.ofString "__next__") ty F.slot_zip_next (wpAny_call_entry F.slot_zip_next ty F.entry_zip_next
    (zipS_item S D1 D2 hz hTI hTO st1 st2 hlt fun x1 x2 h' tk a b c d e g k l => wpAny_pure (hQ x1 x2 h' tk a b c d e g k l)) (F.args_zip_next_1 _))))
theorem nextS_end {Q : Option Value → Shared → Prop} (hh : A.in1.handled = none) (S : ZipSep2 z TI TO i1 i2 [i1] [i2]) (D1 : Draws prog w A.in1 i1 [i1] n P1 St1) (D2 : Draws prog w A.in1 i2 [i2] n P2 St2)
    (hz : IsZipS s.heap z TI TO .none) (hTI : IsTupOf2 s.heap TI (.ref i1) (.ref i2)) (st1 : St1 n s.heap) (st2 : St2 n s.heap)
    (hQ : ∀ h' tk, (∀ c o, c ≠ z → c ≠ TO → c ≠ i1 → c ≠ i2 → s.heap.get? c = some o → h'.get? c = some o) → Q none { s with heap := h', toks := tk }) : wpAny (model prog w) A (pyNext (.ref z)) Q E s := by
  have ty : s.TypeIs (.ref z) "zip" := ⟨_, hz, rfl⟩
  unfold pyNext
  refine wpAny_bind (wpAny_attempt (wpAny_callSpecial?_slot (name := Str.ofString "__next__") ty F.slot_zip_next (wpAny_call_entry F.slot_zip_next ty F.entry_zip_next (zipS_end hh S D1 D2 hz hTI st1 st2 fun h' tk e hk he => ?_) (F.args_zip_next_1 _))))
  obtain ⟨o, ho, hc⟩ := he
  exact wpAny_bind (wpAny_isInstance (T := "StopIteration") (b := true) ⟨o, ho, hc⟩ isSubtype_stop (wpAny_pure (hQ _ _ hk)))
theorem nextSH_item {Q : Option Value → Shared → Prop} (S : ZipSep2 z TI TO i1 i2 [i1] [i2]) (D1 : Draws prog w A.in1 i1 [i1] n P1 St1) (D2 : Draws prog w A.in1 i2 [i2] n P2 St2) (zz : IsZipSH s.heap z TI TO T f) (hT : s.heap.get? T = some oT) (tI : IsTupOf2 s.heap TI (.ref i1) (.ref i2))
    (st1 : St1 i s.heap) (st2 : St2 i s.heap) (l1 : i < n) (hQ : ∀ x1 x2 h' tk, P1 i x1 → P2 i x2 → IsZipSH h' z TI TO T true → St1 (i + 1) h' → St2 (i + 1) h' → IsTupOf2 h' s.heap.objs.size x1 x2 → (∀ c o, c ≠ z → c ≠ i1 → c ≠ i2 → s.heap.get? c = some o → h'.get? c = some o) → Q (some (.ref s.heap.objs.size)) { s with heap := h', toks := tk }) :
    wpAny (model prog w) A (pyNext (.ref z)) Q E s := by
  have ty : s.TypeIs (.ref z) "zip" := ⟨_, zz, rfl⟩
  unfold pyNext
  exact wpAny_bind (wpAny_attempt (wpAny_callSpecial?_slot (name := Str.ofString "__next__") ty F.slot_zip_next (wpAny_call_entry F.slot_zip_next ty F.entry_zip_next
    (zipSH_item S D1 D2 zz hT tI st1 st2 l1 fun x1 x2 h' tk a b c d e g k => wpAny_pure (hQ x1 x2 h' tk a b c d e g k)) (F.args_zip_next_1 _))))
theorem nextSH_end {Q : Option Value → Shared → Prop} (hh : A.in1.handled = none) (S : ZipSep2 z TI TO i1 i2 [i1] [i2]) (D1 : Draws prog w A.in1 i1 [i1] n P1 St1) (D2 : Draws prog w A.in1 i2 [i2] n P2 St2) (zz : IsZipSH s.heap z TI TO T f) (hT : s.heap.get? T = some oT) (tI : IsTupOf2 s.heap TI (.ref i1) (.ref i2)) (st1 : St1 n s.heap) (st2 : St2 n s.heap)
    (hQ : ∀ h' tk, (∀ c o, c ≠ z → c ≠ i1 → c ≠ i2 → s.heap.get? c = some o → h'.get? c = some o) → Q none { s with heap := h', toks := tk }) : wpAny (model prog w) A (pyNext (.ref z)) Q E s := by
  have ty : s.TypeIs (.ref z) "zip" := ⟨_, zz, rfl⟩
  unfold pyNext
  refine wpAny_bind (wpAny_attempt (wpAny_callSpecial?_slot (name := Str.ofString "__next__") ty F.slot_zip_next (wpAny_call_entry F.slot_zip_next ty F.entry_zip_next (zipSH_end hh S D1 D2 zz hT tI st1 st2 fun h' tk e hk he => ?_) (F.args_zip_next_1 _))))
  obtain ⟨o, ho, hc⟩ := he
  exact wpAny_bind (wpAny_isInstance (T := "StopIteration") (b := true) ⟨o, ho, hc⟩ isSubtype_stop (wpAny_pure (hQ _ _ hk)))
theorem iterS {Q : Value → Shared → Prop} {f0 : Value} (hz : IsZipS s.heap z TI TO f0) (h : Q (.ref z) s) : wpAny (model prog w) A (pyIter (.ref z)) Q E s := by
  have ty : s.TypeIs (.ref z) "zip" := ⟨_, hz, rfl⟩
  exact wpAny_pyIter_slot ty F.slot_zip_iter (wpAny_call_entry F.slot_zip_iter ty F.entry_zip_iter (by show wpAny _ _ (ret (.ref z)) _ _ s; exact wpAny_pure ⟨_, rfl, "zip", _, ty, F.slot_zip_next.lookup, h⟩) (F.args_zip_iter_1 _))
end

theorem typeCall_zipS (a b c : Value) : checkTypeCall "zip" ⟨[a, b], [(Str.ofString "strict", c)]⟩ = pure () := by kernel_rfl
theorem newCall_zipS (a b c : Value) : checkBuiltinCall "zip.__new__" ⟨[.type "zip", a, b], [(Str.ofString "strict", c)]⟩ = pure () := by kernel_rfl
theorem args_init_zipS (obj a b c : Value) : argsOk "object.__init__" ⟨[obj, a, b], [(Str.ofString "strict", c)]⟩ := by unfold argsOk; kernel_rfl
abbrev gzZS (h : Heap) (o1 o2 : Obj) : Heap := (gzO2 h o1 o2).push { cls := .type "zip", data := .fields #[.none, .bool false, .bool true, .ref ((h.push o1).push o2).objs.size, .ref (gzT2 h o1 o2).objs.size] }
theorem meets_zip_newS {v1 v2 : Value} {o1 o2 : Obj} {H1 H2 : Heap → Prop} (B1 : Begins v1 o1 H1) (B2 : Begins v2 o2 H2) :
    Meets (Builtin.«zip.__new__» ⟨[.type "zip", v1, v2], [(Str.ofString "strict", .bool true)]⟩) (fun _ R s => (H1 s.heap ∧ H2 s.heap) ∧
      R (.ok (.ret (.ref (gzO2 s.heap o1 o2).objs.size))) { s with heap := gzZS s.heap o1 o2 }) :=
  .of_wp fun prog w A R s h => by
    obtain ⟨hp, g, d, tk, os⟩ := s; obtain ⟨⟨h1, h2⟩, h⟩ := h
    have hsub := sub_zip
    have q1 : ∀ {A' : Around} {E : Value → Shared → Prop} {Q : Value → Shared → Prop}, Q (.ref hp.objs.size) ⟨(hp.push o1), g, d, tk, os⟩ → wpAny (model prog w) A' (pyIter v1) Q E ⟨hp, g, d, tk, os⟩ :=
      fun q => B1.iter prog w _ _ ⟨hp, g, d, tk, os⟩ _ (B1.keeps _ _ h1 fun b o' e => e) q
    have q2 : ∀ {A' : Around} {E : Value → Shared → Prop} {Q : Value → Shared → Prop}, Q (.ref (hp.push o1).objs.size) ⟨((hp.push o1).push o2), g, d, tk, os⟩ → wpAny (model prog w) A' (pyIter v2) Q E ⟨(hp.push o1), g, d, tk, os⟩ :=
      fun q => B2.iter prog w _ _ ⟨(hp.push o1), g, d, tk, os⟩ _ (B2.keeps _ _ h2 fun b o' e => (Heap.get?_push_of_some _ e)) q
    have e2 : (Str.ofString "strict" != ("strict" : Str)) = false := by decide +kernel
    wp_walk using q1, q2
    exact ⟨_, rfl, h⟩
section
variable {prog : Program} {w : World} {A : Around} {E : Value → Shared → Prop} {s : Shared}
theorem zip_beginsS {v1 v2 : Value} {o1 o2 : Obj} {H1 H2 : Heap → Prop} {Q : Value → Shared → Prop} (B1 : Begins v1 o1 H1) (B2 : Begins v2 o2 H2) (h1 : H1 s.heap) (h2 : H2 s.heap)
    (h : ∀ h', IsZipS h' (s.heap.objs.size + 4) (s.heap.objs.size + 2) (s.heap.objs.size + 3) .none → IsTupOf2 h' (s.heap.objs.size + 2) (.ref s.heap.objs.size) (.ref (s.heap.objs.size + 1)) →
      IsTupOf2 h' (s.heap.objs.size + 3) .none .none → h'.get? s.heap.objs.size = some o1 → h'.get? (s.heap.objs.size + 1) = some o2 → h'.objs.size = s.heap.objs.size + 5 →
      (∀ c o, s.heap.get? c = some o → h'.get? c = some o) → Q (.ref (s.heap.objs.size + 4)) { s with heap := h' }) :
    wpAny (model prog w) A (call (.type "zip") [v1, v2] [(Str.ofString "strict", .bool true)]) Q E s := by
  refine callType_newKw F.called_zip (by decide) (typeCall_zipS _ _ _) (newCall_zipS _ _ _) (fun obj => args_init_zipS obj _ _ _) F.entry_zip_new
    (meets_zip_newS B1 B2) ⟨⟨h1, h2⟩, ?_⟩
  have z1 : (s.heap.push o1).objs.size = s.heap.objs.size + 1 := by rw [Heap.size_push]
  have z2 : ((s.heap.push o1).push o2).objs.size = s.heap.objs.size + 2 := by rw [Heap.size_push, z1]
  have zT : (gzT2 s.heap o1 o2).objs.size = s.heap.objs.size + 3 := by rw [Heap.size_push, z2]
  have zO : (gzO2 s.heap o1 o2).objs.size = s.heap.objs.size + 4 := by rw [Heap.size_push, zT]
  have zZ : (gzZS s.heap o1 o2).objs.size = s.heap.objs.size + 5 := by rw [Heap.size_push, zO]
  have gZ : (gzZS s.heap o1 o2).get? (gzO2 s.heap o1 o2).objs.size = some { cls := .type "zip", data := .fields #[.none, .bool false, .bool true, .ref ((s.heap.push o1).push o2).objs.size, .ref (gzT2 s.heap o1 o2).objs.size] } := Heap.get?_push_size _ rfl
  have gO : (gzZS s.heap o1 o2).get? (gzT2 s.heap o1 o2).objs.size = some { cls := .type "tuple", data := .seq #[.none, .none] } := Heap.get?_push_of_some _ (Heap.get?_push_size _ rfl)
  have gT : (gzZS s.heap o1 o2).get? ((s.heap.push o1).push o2).objs.size = some { cls := .type "tuple", data := .seq #[.ref s.heap.objs.size, .ref (s.heap.push o1).objs.size] } := Heap.get?_push_of_some _ (Heap.get?_push_of_some _ (Heap.get?_push_size _ rfl))
  have g1 : (gzZS s.heap o1 o2).get? s.heap.objs.size = some o1 := Heap.get?_push_of_some _ (Heap.get?_push_of_some _ (Heap.get?_push_of_some _ (Heap.get?_push_of_some _ (Heap.get?_push_size _ B1.free))))
  have g2 : (gzZS s.heap o1 o2).get? (s.heap.push o1).objs.size = some o2 := Heap.get?_push_of_some _ (Heap.get?_push_of_some _ (Heap.get?_push_of_some _ (Heap.get?_push_size _ B2.free)))
  rw [zO, zT, z2] at gZ
  rw [zT] at gO
  rw [z2, z1] at gT
  rw [z1] at g2
  show _ ∧ _
  rw [zO]
  exact ⟨⟨_, gZ, rfl⟩, h _ gZ gT gO g1 g2 zZ fun c o e => Heap.get?_push_of_some _ (Heap.get?_push_of_some _ (Heap.get?_push_of_some _ (Heap.get?_push_of_some _ (Heap.get?_push_of_some _ e))))⟩
end
/-- zip of two texts of one length, as pairs -/
theorem pairZipS {prog : Program} {w : World} (z TI TO i1 i2 : Addr) (S : ZipSep2 z TI TO i1 i2 [i1] [i2]) (x y : Str) (t u : Tok) (hl : y.cps.size = x.cps.size) :
    PairArg prog w "zip" z [z, TI, TO, i1, i2] [z, TO, i1, i2] x.cps.size (fun i k v => SignOf x i k ∧ SignOf y i v) (fun h => IsZipS h z TI TO .none ∧ IsTupOf2 h TI (.ref i1) (.ref i2) ∧ (∃ a b, IsTupOf2 h TO a b) ∧ TxtIt h i1 x t 0 ∧ TxtIt h i2 y u 0) where
  type := fun s ok => ⟨_, ok.1, rfl⟩
  notDict := by decide
  keep := fun h h' ok hk => by
    obtain ⟨g1, g2, ⟨a, b, g3⟩, ⟨o1, g4, r4⟩, ⟨o2, g5, r5⟩⟩ := ok
    exact ⟨hk _ _ g1, hk _ _ g2, ⟨a, b, hk _ _ g3⟩, ⟨o1, hk _ _ g4, r4⟩, ⟨o2, hk _ _ g5, r5⟩⟩
  there := fun h ok b hb => by
    obtain ⟨g1, g2, ⟨a, c, g3⟩, ⟨o1, g4, _⟩, ⟨o2, g5, _⟩⟩ := ok
    simp only [List.mem_cons, List.not_mem_nil, or_false] at hb
    rcases hb with rfl | rfl | rfl | rfl | rfl
    · exact ⟨_, g1⟩
    · exact ⟨_, g2⟩
    · exact ⟨_, g3⟩
    · exact ⟨_, g4⟩
    · exact ⟨_, g5⟩
  sub := fun b hb => by
    simp only [List.mem_cons, List.not_mem_nil, or_false] at hb ⊢
    rcases hb with e | e | e | e <;> simp [e]
  noKeys := fun A s Q E hA ok h => getAttrOr_miss_zip ok.1 rfl rfl rfl zip_no_keys (by decide +kernel) hA h
  iter := fun A s d Q E hA ok hd hdf h => by
    obtain ⟨g1, g2, ⟨a, b, g3⟩, g4, g5⟩ := ok
    simp only [List.mem_cons, List.not_mem_nil, or_false, not_or] at hdf
    obtain ⟨dz, dTI, dTO, di1, di2⟩ := hdf
    have D1 : Draws prog w A.in1 i1 [i1] x.cps.size (SignOf x) (fun i h => TxtIt h i1 x t i) := Draws.text (show A.in1.handled = none from hA) i1 x t
    have D2 : Draws prog w A.in1 i2 [i2] x.cps.size (SignOf y) (fun i h => TxtIt h i2 y u i) := by
      have q : Draws prog w A.in1 i2 [i2] y.cps.size (SignOf y) (fun i h => TxtIt h i2 y u i) := Draws.text (show A.in1.handled = none from hA) i2 y u
      rw [hl] at q
      exact q
    have n12 : i1 ≠ i2 := fun e => S.sep1_2 (by rw [e]; simp)
    refine iterS g1 (h z [z, TO, i1, i2] (fun i h => IsTupOf2 h TI (.ref i1) (.ref i2) ∧ TxtIt h i1 x t i ∧ TxtIt h i2 y u i ∧
      ((IsZipS h z TI TO .none ∧ ∃ a b, IsTupOf2 h TO a b) ∨ ∃ T f oT, IsZipSH h z TI TO T f ∧ h.get? T = some oT ∧ T ≠ z ∧ T ≠ i1 ∧ T ≠ i2 ∧ T ≠ d)) s.heap s.toks ?_ ⟨g2, g4, g5, .inl ⟨g1, a, b, g3⟩⟩ (fun _ _ e => e) fun b hb => .inl hb)
    exact {
      off := fun hm => by
        simp only [List.mem_cons, List.not_mem_nil, or_false] at hm
        rcases hm with e | e | e | e
        · exact dz e
        · exact dTO e
        · exact di1 e
        · exact di2 e
      frame := fun i h1 h2 st hk => by
        obtain ⟨q1, ⟨o1, q2, r2⟩, ⟨o2, q3, r3⟩, q4⟩ := st
        refine ⟨hk _ _ (Ne.symm dTI) q1, ⟨o1, hk _ _ (Ne.symm di1) q2, r2⟩, ⟨o2, hk _ _ (Ne.symm di2) q3, r3⟩, ?_⟩
        rcases q4 with ⟨q4, a, b, q5⟩ | ⟨T, f, oT, q4, q5, r⟩
        · exact .inl ⟨hk _ _ (Ne.symm dz) q4, a, b, hk _ _ (Ne.symm dTO) q5⟩
        · exact .inr ⟨T, f, oT, hk _ _ (Ne.symm dz) q4, hk _ _ r.2.2.2 q5, r⟩
      item := fun i s1 Q1 E1 hi st hds hQ => by
        obtain ⟨q1, q2, q3, q4⟩ := st
        have lt : ∀ {c o}, s1.heap.get? c = some o → s1.heap.objs.size ≠ c := fun e => Nat.ne_of_gt (Heap.lt_size e)
        have m1 : s1.heap.objs.size ≠ i1 := let ⟨_, e, _⟩ := q2; lt e
        have m2 : s1.heap.objs.size ≠ i2 := let ⟨_, e, _⟩ := q3; lt e
        rcases q4 with ⟨q4, a, b, q5⟩ | ⟨T, f, oT, q4, q5, r1, r2, r3, r4⟩
        · refine nextS_item S D1 D2 q4 q1 q5 q2 q3 hi fun x1 x2 h' tk p1 p2 b1 b2 b3 b4 b5 hk => ?_
          exact hQ s1.heap.objs.size x1 x2 h' tk ⟨p1, p2⟩ (.inl ⟨_, b5, rfl, _, rfl⟩) ⟨hk _ _ S.TIz S.TITO S.TIi1 S.TIi2 q1, b3, b4, .inr ⟨s1.heap.objs.size, false, _, b1, b5, lt q4, m1, m2, Nat.ne_of_gt hds⟩⟩
            fun c o hc e => hk c o (fun q => hc (by simp [q])) (fun q => hc (by simp [q])) (fun q => hc (by simp [q])) (fun q => hc (by simp [q])) e
        · refine nextSH_item S D1 D2 q4 q5 q1 q2 q3 hi fun x1 x2 h' tk p1 p2 b1 b3 b4 b5 hk => ?_
          exact hQ s1.heap.objs.size x1 x2 h' tk ⟨p1, p2⟩ (.inl ⟨_, b5, rfl, _, rfl⟩) ⟨hk _ _ S.TIz S.TIi1 S.TIi2 q1, b3, b4, .inr ⟨T, true, oT, b1, hk _ _ r1 r2 r3 q5, r1, r2, r3, r4⟩⟩
            fun c o hc e => hk c o (fun q => hc (by simp [q])) (fun q => hc (by simp [q])) (fun q => hc (by simp [q])) e
      done := fun s1 Q1 E1 st hQ => by
        obtain ⟨q1, q2, q3, q4⟩ := st
        rcases q4 with ⟨q4, a, b, q5⟩ | ⟨T, f, oT, q4, q5, r1, r2, r3, r4⟩
        · exact nextS_end hA S D1 D2 q4 q1 q2 q3 fun h' tk hk => hQ h' tk fun c o hc e => hk c o (fun q => hc (by simp [q])) (fun q => hc (by simp [q])) (fun q => hc (by simp [q])) (fun q => hc (by simp [q])) e
        · exact nextSH_end hA S D1 D2 q4 q5 q1 q2 q3 fun h' tk hk => hQ h' tk fun c o hc e => hk c o (fun q => hc (by simp [q])) (fun q => hc (by simp [q])) (fun q => hc (by simp [q])) e }

theorem call_dictTS {X : Cx} {pins : List (Addr × Obj)} {t : L2.St} {H : Hp} {s : Shared} {a b : List Nat} {u1 u2 : Tok} {Q : VK} (I : Inv X pins t H s) (hd : X.A.handled = none) (hl : b.length = a.length) (hn : a.Nodup) (hz : a.length ≤ sizeLine) (q : ∀ p, H p = none → Q (.ref p) (upd H p (.dK (kvZ a b)))) :
    wpAny (model X.prog X.w) X.A (call (.type "zip") [.str ⟨a.toArray⟩ u1, .str ⟨b.toArray⟩ u2] [(Str.ofString "strict", .bool true)]) (fun v s1 => wpAny (model X.prog X.w) X.A (call (.type "dict") [v]) (EP X pins t Q) X.xe s1) X.xe s := by
  refine zip_beginsS (begins_text ⟨a.toArray⟩ u1) (begins_text ⟨b.toArray⟩ u2) trivial trivial fun h1 g1 g2 g3 g4 g5 sz hk => ?_
  have S : ZipSep2 (s.heap.objs.size + 4) (s.heap.objs.size + 2) (s.heap.objs.size + 3) s.heap.objs.size (s.heap.objs.size + 1) [s.heap.objs.size] [s.heap.objs.size + 1] := by
    constructor <;> simp <;> omega
  have P := pairZipS (prog := X.prog) (w := X.w) _ _ _ _ _ S ⟨a.toArray⟩ ⟨b.toArray⟩ u1 u2 (by simpa using hl)
  have ok : (fun h => IsZipS h (s.heap.objs.size + 4) (s.heap.objs.size + 2) (s.heap.objs.size + 3) .none ∧ IsTupOf2 h (s.heap.objs.size + 2) (.ref s.heap.objs.size) (.ref (s.heap.objs.size + 1)) ∧ (∃ a b, IsTupOf2 h (s.heap.objs.size + 3) a b) ∧ TxtIt h s.heap.objs.size ⟨a.toArray⟩ u1 0 ∧ TxtIt h (s.heap.objs.size + 1) ⟨b.toArray⟩ u2 0) h1 :=
    ⟨g1, g2, ⟨_, _, g3⟩, ⟨_, g4, rfl, rfl⟩, ⟨_, g5, rfl, rfl⟩⟩
  refine call_dict_arg (s := { s with heap := h1 }) P ok fun s2 e2 nf ok2 => ?_
  subst e2
  refine updateFrom_arg (A := X.A.in1) (Tab := fun i h => ∃ vs, h.DictOf (mixKind X.prog X.w) h1.objs.size vs ∧ KV ((kvZ a b).take i) vs) P .none hd ok2 nf ⟨[], Heap.DictOf.new h1, .nil⟩ (fun i h ⟨vs, d, _⟩ => d.lt_size) (fun i h h' wr' hw _ ⟨vs, d, r⟩ hk => ⟨vs, d.at' fun o e => hk _ o hw e, r⟩) ?_ ?_
  · rintro i k v s' Q' E' hi ⟨⟨c, tc, p1, rfl⟩, ⟨e, te, p2, rfl⟩⟩ ⟨vs, dd, r⟩ _ hQ
    have p1' : a[i]? = some c := by simpa using p1
    have p2' : b[i]? = some e := by simpa using p2
    have hlen : vs.length ≤ i := by
      have := Paired.length r
      rw [← this, List.length_take]
      omega
    refine wpAny_dictSet_pairs (knd := mixKind X.prog X.w) (k := Sum.inr ⟨#[c]⟩) (hsz := by have : i < a.length := by simpa using hi
                                                                                            omega) (key := .str ⟨#[c]⟩ tc) (keyIs_str _ tc) dd fun h' d' sb => hQ h' _ ⟨_, d', ?_⟩ sb
    rw [stored_absent (valueAt_no (by rw [← KV.keys r]; exact key_fresh hl hn p1'))]
    rw [List.take_succ, kvZ_get p1' p2']
    exact KV.snoc r ⟨te, rfl⟩
  · rintro h' tk ⟨vs, dd, r⟩ hk2
    rw [List.take_of_length_le (by rw [kvZ_len hl]; simp)] at r
    have sm : s.heap.objs.size ≤ h1.objs.size := by rw [sz]; omega
    have keep : ∀ b o, s.heap.get? b = some o → h'.get? b = some o := fun b o e => by
      have lt := Heap.lt_size e
      refine hk2 b o (Nat.ne_of_lt (Nat.lt_of_lt_of_le lt sm)) (fun hm => ?_) (Heap.get?_push_of_some _ (hk b o e))
      simp only [List.mem_cons, List.not_mem_nil, or_false] at hm
      rcases hm with e | e | e | e
      · exact Nat.ne_of_lt (Nat.lt_of_lt_of_le lt (Nat.le_add_right _ 4)) e
      · exact Nat.ne_of_lt (Nat.lt_of_lt_of_le lt (Nat.le_add_right _ 3)) e
      · exact Nat.ne_of_lt lt e
      · exact Nat.ne_of_lt (Nat.lt_of_lt_of_le lt (Nat.le_add_right _ 1)) e
    have hns : (h1.objs.size == sysModules) = false := beq_eq_false_iff_ne.mpr (Ne.symm (Nat.ne_of_lt (Nat.lt_of_lt_of_le I.big sm)))
    refine ⟨rfl, .ref h1.objs.size, _, I.laid (a := h1.objs.size) (o := .dK (kvZ a b)) (t' := tk) keep sm ⟨by rw [kvZ_len hl]; exact hz, hns, vs, r, dd⟩, rfl, q _ (I.hok.fresh sm)⟩


theorem callWith_typeKw {M : Model} {A : Around} {E : Value → Shared → Prop} {s : Shared} {env : Env} {pos : Pos} {T : String} {e : Expr} {rest : List Expr} {name : Str} {value : Expr} {kp : Pos} {Q : Value → Shared → Prop}
    (h : wpAny M A (spliced (backTo pos (starEach (e :: rest) env))) (fun vs s₁ => wpAny M A (evalAll ((backToKw pos (keywordEach [⟨some name, value, kp⟩] env)).map (·.2)))
      (fun kvs s₂ => wpAny M A (call (.type T) vs ([name].zip kvs)) Q E s₂) E s₁) E s)
    (he : starEach (e :: rest) env = (false, eval e env) :: starEach rest env)
    (hplain : (backTo pos (starEach rest env)).any (·.1) = false) :
    wpAny M A (callWith pos (.type T) [] (backTo pos (starEach (e :: rest) env)) (backToKw pos (keywordEach [⟨some name, value, kp⟩] env))) Q E s := by
  rw [he] at h ⊢
  have hp : (backTo pos ((false, eval e env) :: starEach rest env)).any (·.1) = false := by show (false || (backTo pos (starEach rest env)).any (·.1)) = false; rw [hplain]; rfl
  have h0 : wpAny M A (evalArgs (.type T) true (backTo pos ((false, eval e env) :: starEach rest env)) (backToKw pos (keywordEach [⟨some name, value, kp⟩] env))) (fun a s₁ => wpAny M A (call (.type T) ([] ++ a.pos) a.kw) Q E s₁) E s := evalArgs_kwB (by rfl) h
  unfold callWith
  refine wpAny_bind (wpAny_holding (wpAny_mono h0 (fun a s₁ h₁ => wpAny_bind (wpAny_standAt ?_)) fun _ _ x => x))
  have hk : (backToKw pos (keywordEach [⟨some name, value, kp⟩] env)).any (·.1.isNone) = false := rfl
  simp only [hp, hk, Bool.or_false]
  refine wpAny_bind (wpAny_pure ?_)
  exact wpAny_bind (wpAny_mono h₁ (fun r s₂ hr => wpAny_bind (wpAny_holding (wpAny_point (wpAny_pure hr)))) fun _ _ x => x)
theorem pe_dictzips {X : Cx} {k : KC} {w0 : XK} {fl : Bool} {e1 e2 : Expr} {t : TA} {p1 p2 p3 p4 p5 p6 : Pos} {nn : Nat} (hK : X.K = k.K) (hc : X.calm = true) (hd : Gl X (Str.ofString "dict")) (hz : Gl X (Str.ofString "zip")) (md : X.mg (Str.ofString "dict") = none) (mz : X.mg (Str.ofString "zip") = none) (ha : PA X [e1, e2] t)
    (hs : starEach [e1, e2] X.env = (false, eval e1 X.env) :: starEach [e2] X.env) (hpl : (backTo p4 (starEach [e2] X.env)).any (·.1) = false) :
    PE X (.Call (.Name (Str.ofString "dict") p1) [.Call (.Name (Str.ofString "zip") p2) [e1, e2] [⟨some (Str.ofString "strict"), .Constant (.bool true) nn p5, p6⟩] p4] [] p3) (fun u H Q => t u H fun vs H1 => rC k w0 (bltop .dictzips fl) vs H1 Q) := by
  refine ⟨fun pins s u H Q I hh => ?_⟩
  refine wpAny_Call_Name_kw (ld_blt I hd md (u := .type "dict") (by decide +kernel) (PyProof.Rows.callWith_type1 ?_) (by decide) (by decide))
  show wpAny _ _ (spliced ((false, eval _ X.env) :: backTo p3 (starEach [] X.env))) _ _ s
  refine Calls.spliced_cons (wpAny_Call_Name_kw (ld_blt I hz mz (u := .type "zip") (by decide +kernel) (callWith_typeKw (thn (ha.run p4 pins s u H _ I hh) fun us s1 ⟨vs, H1, I1, r1, q1⟩ => kws_cons (wpAny_Constant_bool (kws_nil ?_))) hs hpl) (by decide) (by decide)))
  obtain ⟨Z, m, h, as, S, r, p⟩ := q1
  rcases as with _ | ⟨x, _ | ⟨y, _ | ⟨y2, as⟩⟩⟩
  · exact False.elim p
  · cases x <;> exact False.elim p
  · cases x <;> cases y <;> (try exact False.elim p)
    rename_i a b
    simp only [bltop] at p
    split at p
    · rename_i hab
      obtain ⟨v1, t1, rfl, ⟨ea, la, oa⟩, v2, t2, rfl, ⟨eb, lb, ob⟩, r3⟩ := r
      have r3' : t2 = [] := r3
      subst r3' ea eb
      cases r1 with
      | cons q1 rr =>
        cases rr with
        | cons q2 rr =>
          cases rr
          obtain ⟨u1, rfl⟩ := q1
          obtain ⟨u2, rfl⟩ := q2
          refine thn (call_dictTS (Q := Q) I1 (I1.ok.hd hc) hab.1.symm hab.2 (bigL_le la) fun pp hp => ?_) fun v s2 q => Calls.spliced_nil q
          have ex := Ext.laid (o := .dK (kvZ a b)) S hp
          exact p m _ (.ref pp) ex (S.laid hp) ⟨pp, kvZ a b, rfl, ⟨(S.notNone hp).1, (S.notNone hp).2, upd_same⟩, kvZ_keys hab.1.symm, kvZ_vals hab.1.symm ob⟩
    · exact False.elim p
  · cases x <;> cases y <;> exact False.elim p
end SP
end
section
set_option maxRecDepth 100000
set_option maxHeartbeats 4000000
/-! Expressions. -/
namespace SP
open PySem PySem.Spec PyProof.Rows L2

theorem chkA_two {c : CC} {es : Es} {u v : Expr} (h : chkA c es [u, v] = true) (env : Env) : starEach [u, v] env = (false, eval u env) :: starEach [v] env ∧ ∀ pos, (backTo pos (starEach [v] env)).any (·.1) = false := by
  cases es with
  | nil => simp [chkA] at h
  | cons e r =>
    simp only [chkA, Bool.and_eq_true] at h
    exact ⟨chk_star h.1 _ _, fun pos => chkA_stars h.2 pos env⟩
theorem chkI_fold {c : CC} {it : It} {tg x : Expr} (h : chkI c it tg x = true) (env : Env) (v : Value) : foldedSetIterable x env v = pure v := by
  cases it with
  | e e => exact chk_fold (by simpa only [chkI] using h) env v
  | range1 a => cases x <;> first | rfl | (simp [chkI] at h)
  | range2 a b => cases x <;> first | rfl | (simp [chkI] at h)
  | enum e => cases x <;> first | rfl | (simp [chkI] at h)
  | zip2 a b => cases x <;> first | rfl | (simp [chkI] at h)
def mthTy : Mth → String
  | .join => "str"
  | .append => "list"
  | .reverse => "list"
  | .pop => "list"
theorem pt_ifExp {X : Cx} {c a b : Expr} {pos : Pos} {tA ta tb : TT} (hc : PT X c tA) (ha : PT X a ta) (hb : PT X b tb) : PT X (.IfExp c a b pos) (fun u H Q => tA u H fun d H1 => if d = true then ta u H1 Q else tb u H1 Q) := by
  refine ⟨fun pins s u H Q I h => isTrue_IfExp (thn (hc.run pins s u H _ I h) fun d s1 ⟨H1, I1, q1⟩ => ?_)⟩
  cases d with
  | true => exact ha.run pins s1 u H1 Q I1 q1
  | false => exact hb.run pins s1 u H1 Q I1 q1

section
variable {k : KC} {CX : CXT} {C : Ctx}

theorem post_lit {Z m : List Addr} {H : Hp} {h : AH} {w0 : XK} {v : AV} {v' : V} {Q : VK} (S : SRel k.K Z m h H) (p : PostG k Z m H w0 (Rel k.K Z) (.ok v h) Q) (r : Rel k.K Z m H v v') : Q v' H := p.now S r


theorem pe_blt {X : Cx} {b : Blt} {r : List V → Hp → VK → Prop} {p pos : Pos} {e : Expr} {es : List Expr} {t : TA} (hb : b.dz = false) (hc : CallR X (bltVal b) r) (hg : Gl X (Str.ofString (bltStr b))) (hm : X.mg (Str.ofString (bltStr b)) = none) (ha : PA X (e :: es) t)
    (he : starEach (e :: es) X.env = (false, eval e X.env) :: starEach es X.env) (hpl : (backTo pos (starEach es X.env)).any (·.1) = false) : PE X (.Call (.Name (Str.ofString (bltStr b)) p) (e :: es) [] pos) (tCB r t) := by
  cases b
  case dictzip => exact Bool.noConfusion hb
  case dictzips => exact Bool.noConfusion hb
  case int1 => exact pe_callTy hc hg hm (by decide +kernel) ha (by decide) (by decide) he hpl
  case list => exact pe_callTy hc hg hm (by decide +kernel) ha (by decide) (by decide) he hpl
  case tuple => exact pe_callTy hc hg hm (by decide +kernel) ha (by decide) (by decide) he hpl
  all_goals exact pe_callB hc hg hm (by decide +kernel) ha (by decide) (by decide) he hpl
theorem blt_name (b : Blt) : bltNames.contains (bltStr b) = true := by cases b <;> decide
theorem base_of {o : Expr} (h : baseB o = true) (n : Str) (env : Env) : attributeBase o n env (eval o env) = eval o env := by
  cases o <;> first | rfl | (simp [baseB] at h)

theorem Good.blk {w0 : XK} {c : CC} {X : Cx} (G : Good k CX w0 C c X) {scope : Scope} (hk : scope.kind = .function) (s : Shared) (H : Hp) (C' : Addr) (cl : List (Str × Addr)) (fp : List Addr) :
    Good k CX E0 C (c.blk scope) (X.blk s H scope (compEnvC scope cl C' X.env) fp) where
  K := G.K
  N := G.N
  nd := G.nd
  sc := by
    show L2.relS scope c.sc = L2.relS scope X.env.scope
    rw [G.sc]
  kind := hk
  calm := G.calm
  own := PassesOwn.never
  pass := fun pins u H s e s' _ hq => G.cx0 _ _ _ _ _ hq
  units := G.units
  guards := G.guards
  fn := fun x hx => by
    have e : (c.blk scope).sc = L2.relS scope X.env.scope := by
      show L2.relS scope c.sc = _
      rw [G.sc]
    unfold locB at hx
    rw [e] at hx
    split at hx
    · rename_i q
      exact ⟨.inl q, .inr q⟩
    · rename_i q
      refine ⟨.inr q, .inl ?_⟩
      have hx' : decide (scope.names.lookup x = some .cell) = true := hx
      show (scope.names.lookup x == some .cell) = true
      rw [of_decide_eq_true hx']
      rfl
    · cases hx
  blt := G.blt
  fns := G.fns
  globs := G.globs
  cx0 := G.cx0

theorem isPlain_of {x : Expr} {env : Env} (h1 : ∀ op vs p, x ≠ .BoolOp op vs p) (h2 : ∀ e p, x ≠ .UnaryOp .Not e p) (h3 : ∀ l o r p, x ≠ .Compare l o r p) (h4 : ∀ a b d p, x ≠ .IfExp a b d p) (h5 : ∀ a b p, x ≠ .NamedExpr a b p) (whole : Sem Value) :
    isTrue x env whole = (do let v ← whole; standAt x.pos; holding [v] (truthy v)) := by
  cases x with
  | BoolOp op vs p => exact absurd rfl (h1 op vs p)
  | Compare l o r p => exact absurd rfl (h3 l o r p)
  | UnaryOp op e p =>
    cases op with
    | Not => exact absurd rfl (h2 e p)
    | _ => rfl
  | IfExp a b d p => exact absurd rfl (h4 a b d p)
  | NamedExpr a b p => exact absurd rfl (h5 a b p)
  | _ => rfl

theorem chkGs_len : ∀ (g : Tgs) (xs : List Expr) {c : CC}, chkGs c g xs = true → tgsLen g = xs.length
  | .nil, xs, c, hx => by
    cases xs <;> simp only [chkGs, Bool.false_eq_true] at hx
    rfl
  | .cons g r, xs, c, hx => by
    cases xs <;> simp only [chkGs, Bool.false_eq_true, Bool.and_eq_true] at hx
    simp only [tgsLen, List.length_cons, chkGs_len r _ hx.2]

mutual
theorem sE : ∀ (e : E) {X : Cx} {c : CC} {w0 : XK}, Good k CX w0 C c X → ∀ x : Expr, chkE c e x = true → PE X x (tI k C w0 e)
  | .lit v, X, c, w0, G, x, hx => by
    cases x <;> simp only [chkE, Bool.false_eq_true] at hx
    rename_i cst n pos
    cases v <;> cases cst <;> simp only [litB, Bool.false_eq_true, beq_iff_eq, decide_eq_true_eq, Bool.and_eq_true] at hx
    · exact PE.mono pe_non fun t H Q ⟨Z, m, s, h, S, St, p⟩ => p.now S rfl
    · subst hx
      exact PE.mono pe_bl fun t H Q ⟨Z, m, s, h, S, St, p⟩ => p.now S rfl
    · subst hx
      exact PE.mono pe_int fun t H Q ⟨Z, m, s, h, S, St, p⟩ => p.now S rfl
    · obtain ⟨⟨h1, h2⟩, h3⟩ := hx
      subst h1
      exact PE.mono pe_str fun t H Q ⟨Z, m, s, h, S, St, p⟩ => p.now S ⟨rfl, h2, h3⟩
  | .var i, X, c, w0, G, x, hx => by
    cases x <;> simp only [chkE, Bool.false_eq_true] at hx
    rename_i n pos
    simp only [Bool.and_eq_true, decide_eq_true_eq] at hx
    obtain ⟨⟨h1, h2⟩, h3⟩ := hx
    obtain ⟨d1, d2, d3⟩ := dbg_of h3
    rw [G.N] at h1
    rw [G.sc] at h2
    refine PE.mono (pe_var h1 (vis_of h2) d1 d2) fun t H Q ⟨Z, m, s, h, S, St, p⟩ => ?_
    simp only [evE, getV] at p
    split at p
    · rename_i v hv
      obtain ⟨v', q1, q2⟩ := St.2 i v hv
      exact ⟨v', q1, p.now S q2⟩
    · exact p.elim
  | .glob g, X, c, w0, G, x, hx => by
    cases x <;> simp only [chkE, Bool.false_eq_true] at hx
    rename_i n pos
    simp only [Bool.and_eq_true, decide_eq_true_eq] at hx
    obtain ⟨⟨h1, h2⟩, h3⟩ := hx
    obtain ⟨d1, d2, d3⟩ := dbg_of h3
    obtain ⟨v, u, v', q1, q2, q3, q4⟩ := G.globs g n h1
    refine PE.mono (pe_glob (gl_of G.sc h2) q2 q3 d1) fun t H Q ⟨Z, m, s, h, S, St, p⟩ => ?_
    simp only [evE, q1] at p
    exact p.now S (q4 Z m H)
  | .bty n, X, c, w0, G, x, hx => by
    cases x <;> simp only [chkE, Bool.false_eq_true] at hx
    rename_i nm pos
    simp only [Bool.and_eq_true, decide_eq_true_eq] at hx
    obtain ⟨⟨⟨h1, h2⟩, h3⟩, h4⟩ := hx
    subst h1
    obtain ⟨d1, d2, d3⟩ := dbg_of h3
    have hn : n ∈ typeNames := List.elem_iff.mp h4
    have hb : bltNames.contains n = true ∧ bootBuiltins (Str.ofString n) = some (.type n) := by
      unfold typeNames at hn
      simp only [List.mem_cons, List.not_mem_nil, or_false] at hn
      rcases hn with e | e | e | e | e <;> (subst e; exact ⟨by decide, by decide +kernel⟩)
    exact PE.mono (pe_bltn (v := .ty n) (gl_of G.sc h2) (G.blt n hb.1) hb.2 rfl d3 d1) fun t H Q ⟨Z, m, s, h, S, St, p⟩ => p.now S rfl
  | .bin op fl a b, X, c, w0, G, x, hx => by
    cases x <;> simp only [chkE, Bool.false_eq_true] at hx
    simp only [Bool.and_eq_true, decide_eq_true_eq] at hx
    obtain ⟨⟨h1, h2⟩, h3⟩ := hx
    subst h1
    refine PE.mono (pe_op (op_bin (fl := fl) (w0 := w0) G.K) (sE a G _ h2) (sE b G _ h3)) fun t H Q p => ?_
    exact tI_two (fun Z m h H x y x' y' S rx ry p => ⟨Z, m, h, x, y, S, rx, ry, p⟩) p
  | .neg a, X, c, w0, G, x, hx => by
    cases x <;> simp only [chkE, Bool.false_eq_true] at hx
    rename_i op e pos
    cases op <;> (try simp only [Bool.false_eq_true] at hx)
    refine PE.mono (pe_un un_neg (sE a G _ hx)) fun t H Q ⟨Z, m, s, h, S, St, p⟩ => ?_
    refine ⟨Z, m, s, h, S, St, (PostG.bind p).mono fun x' H1 ⟨m1, x, h1, e1, S1, r1, p1⟩ => ?_⟩
    cases x <;> (try simp only at p1) <;> (try exact p1.elim)
    exact ⟨_, r1, p1.now S1 rfl⟩
  | .cmp op a b, X, c, w0, G, x, hx => by
    cases x <;> simp only [chkE, Bool.false_eq_true] at hx
    rename_i l ops rs pos
    rcases ops with _ | ⟨o, _ | ⟨o2, ops⟩⟩ <;> (try simp only [Bool.false_eq_true] at hx)
    rcases rs with _ | ⟨r, _ | ⟨r2, rs⟩⟩ <;> (try simp only [Bool.false_eq_true, Bool.and_eq_true, decide_eq_true_eq] at hx)
    obtain ⟨⟨h1, h2⟩, h3⟩ := hx
    subst h1
    refine PE.mono (pe_cmpR (op_cmp (w0 := w0) G.K (by have := G.units; omega)) (sE a G _ h2) (sE b G _ h3) (chk_marks h3 o)) fun t H Q p => ?_
    exact tI_two (fun Z m h H x y x' y' S rx ry p => ⟨Z, m, h, x, y, S, rx, ry, p⟩) p
  | .chain o1 o2 a b d, X, c, w0, G, x, hx => by
    cases x <;> simp only [chkE, Bool.false_eq_true] at hx
    rename_i l ops rs pos
    rcases ops with _ | ⟨p1, _ | ⟨p2, _ | ⟨p3, ops⟩⟩⟩ <;> (try simp only [Bool.false_eq_true] at hx)
    rcases rs with _ | ⟨r1, _ | ⟨r2, _ | ⟨r3, rs⟩⟩⟩ <;> (try simp only [Bool.false_eq_true, Bool.and_eq_true, decide_eq_true_eq] at hx)
    obtain ⟨⟨⟨⟨h1, h2⟩, h3⟩, h4⟩, h5⟩ := hx
    subst h1 h2
    have hu : X.A.units + 65 < cLine := by have := G.units; omega
    refine PE.mono (pe_chain (op_cmp (w0 := w0) G.K hu) (op_cmp (w0 := w0) G.K hu) (sE a G _ h3) (sE b G _ h4) (sE d G _ h5) (chk_marks h5 p2)) fun t H Q ⟨Z, m, s, h, S, St, p⟩ => ?_
    refine ⟨Z, m, s, h, S, St, (PostG.bind p).mono fun x' H1 ⟨m1, x, h1, e1, S1, r1, p1⟩ => ?_⟩
    refine ⟨Z, m1, s, h1, S1, St.ext e1, (PostG.bind p1).mono fun y' H2 ⟨m2, y, h2, e2, S2, r2, p2⟩ => ?_⟩
    refine ⟨Z, m2, h2, x, y, S2, Rel.ext e2 x x' r1, r2, (PostG.bind p2).mono fun z' H3 ⟨m3, z, h3, e3, S3, r3, p3⟩ => ?_⟩
    cases z <;> (try simp only at p3) <;> (try exact p3.elim)
    rename_i kb
    refine ⟨kb, r3, ?_⟩
    cases kb with
    | true =>
      rw [if_pos rfl]
      refine ⟨Z, m3, s, h3, S3, ((St.ext e1).ext e2).ext e3, (PostG.bind p3).mono fun w' H4 ⟨m4, w, h4, e4, S4, r4, p4⟩ => ?_⟩
      exact ⟨Z, m4, h4, y, w, S4, Rel.ext e4 y y' (Rel.ext e3 y y' r2), r4, p4⟩
    | false =>
      rw [if_neg Bool.false_ne_true]
      exact p3.now S3 rfl
  | .not a, X, c, w0, G, x, hx => by
    cases x <;> simp only [chkE, Bool.false_eq_true] at hx
    rename_i op e pos
    cases op <;> (try simp only [Bool.false_eq_true] at hx)
    refine PE.mono (pe_not (sE a G _ hx)) fun t H Q ⟨Z, m, s, h, S, St, p⟩ => ?_
    refine ⟨Z, m, s, h, S, St, (PostG.bind p).mono fun x' H1 ⟨m1, x, h1, e1, S1, r1, p1⟩ => ?_⟩
    cases x <;> (try simp only at p1) <;> (try exact p1.elim)
    exact ⟨_, r1, p1.now S1 rfl⟩
  | .and a b, X, c, w0, G, x, hx => by
    cases x <;> simp only [chkE, Bool.false_eq_true] at hx
    rename_i op vs pos
    cases op <;> (try simp only [Bool.false_eq_true] at hx)
    rcases vs with _ | ⟨u, _ | ⟨v, r⟩⟩ <;> (try simp only [Bool.false_eq_true, Bool.and_eq_true] at hx)
    have hb : PE X (.BoolOp .And (v :: r) pos) (tI k C w0 b) := by
      rcases r with _ | ⟨w, q⟩
      · exact pe_one (sE b G _ hx.2)
      · exact sE b G _ hx.2
    refine PE.mono (pe_and (sE a G _ hx.1) hb) fun t H Q ⟨Z, m, s, h, S, St, p⟩ => ?_
    refine ⟨Z, m, s, h, S, St, (PostG.bind p).mono fun x' H1 ⟨m1, x, h1, e1, S1, r1, p1⟩ => ?_⟩
    cases x <;> (try simp only at p1) <;> (try exact p1.elim)
    rename_i kb
    refine ⟨kb, r1, ?_⟩
    cases kb with
    | true =>
      rw [if_pos rfl]
      exact ⟨Z, m1, s, h1, S1, St.ext e1, p1⟩
    | false =>
      rw [if_neg Bool.false_ne_true]
      exact p1.now S1 rfl
  | .or a b, X, c, w0, G, x, hx => by
    cases x <;> simp only [chkE, Bool.false_eq_true] at hx
    rename_i op vs pos
    cases op <;> (try simp only [Bool.false_eq_true] at hx)
    rcases vs with _ | ⟨u, _ | ⟨v, r⟩⟩ <;> (try simp only [Bool.false_eq_true, Bool.and_eq_true] at hx)
    have hb : PE X (.BoolOp .Or (v :: r) pos) (tI k C w0 b) := by
      rcases r with _ | ⟨w, q⟩
      · exact pe_one (sE b G _ hx.2)
      · exact sE b G _ hx.2
    refine PE.mono (pe_or (sE a G _ hx.1) hb) fun t H Q ⟨Z, m, s, h, S, St, p⟩ => ?_
    refine ⟨Z, m, s, h, S, St, (PostG.bind p).mono fun x' H1 ⟨m1, x, h1, e1, S1, r1, p1⟩ => ?_⟩
    cases x <;> (try simp only at p1) <;> (try exact p1.elim)
    rename_i kb
    refine ⟨kb, r1, ?_⟩
    cases kb with
    | true =>
      rw [if_pos rfl]
      exact p1.now S1 rfl
    | false =>
      rw [if_neg Bool.false_ne_true]
      exact ⟨Z, m1, s, h1, S1, St.ext e1, p1⟩
  | .ife d a b, X, c, w0, G, x, hx => by
    cases x <;> simp only [chkE, Bool.false_eq_true] at hx
    simp only [Bool.and_eq_true] at hx
    refine PE.mono (pe_ifExp (sT d G _ hx.1.1).1 (sE a G _ hx.1.2) (sE b G _ hx.2)) fun t H Q ⟨Z, m, s, h, S, St, p⟩ => ?_
    refine ⟨Z, m, s, h, S, St, (PostG.bind p).mono fun x' H1 ⟨m1, x, h1, e1, S1, r1, p1⟩ => ?_⟩
    cases x <;> (try simp only at p1) <;> (try exact p1.elim)
    rename_i kb
    refine ⟨kb, r1, ?_⟩
    cases kb with
    | true =>
      rw [if_pos rfl]
      exact ⟨Z, m1, s, h1, S1, St.ext e1, p1⟩
    | false =>
      rw [if_neg Bool.false_ne_true]
      exact ⟨Z, m1, s, h1, S1, St.ext e1, p1⟩
  | .tup es, X, c, w0, G, x, hx => by
    cases x <;> simp only [chkE, Bool.false_eq_true] at hx
    simp only [Bool.and_eq_true, decide_eq_true_eq] at hx
    refine PE.mono (pe_tup (sA es G _ hx.1)) fun t H Q ⟨Z, m, s, h, S, St, p⟩ => ?_
    refine ⟨Z, m, s, h, S, St, ?_⟩
    simp only [evE] at p
    have hl := evA_len C s es _ hx.1 h
    have pb := PostG.bind (rel := RelL k.K Z) p
    cases hr : evA C s es h with
    | bad => rw [hr] at pb; exact pb.elim
    | exc e w h' => rw [hr] at pb; exact pb
    | ok vs h' =>
      rw [hr] at p hl
      intro m1 H1 vs' e1 S1 r1
      refine ⟨?_, fun q hq => PostG.tup S1 (PostG.ext p e1) r1 hq⟩
      rw [r1.length, hl vs h' rfl]
      exact bigL_le (Nat.le_trans hx.2 (by decide))
  | .lst fl es, X, c, w0, G, x, hx => by
    cases x <;> simp only [chkE, Bool.false_eq_true] at hx
    simp only [Bool.and_eq_true, decide_eq_true_eq] at hx
    refine PE.mono (pe_lst (sA es G _ hx.1)) fun t H Q ⟨Z, m, s, h, S, St, p⟩ => ?_
    refine ⟨Z, m, s, h, S, St, ?_⟩
    simp only [evE] at p
    have hl := evA_len C s es _ hx.1 h
    have pb := PostG.bind (rel := RelL k.K Z) p
    cases hr : evA C s es h with
    | bad => rw [hr] at pb; exact pb.elim
    | exc e w h' => rw [hr] at pb; exact pb
    | ok vs h' =>
      rw [hr] at p hl
      intro m1 H1 vs' e1 S1 r1
      refine ⟨?_, fun q hq => PostG.mk S1 (PostG.ext p e1) r1 hq⟩
      rw [r1.length, hl vs h' rfl]
      exact bigL_le (Nat.le_trans hx.2 (by decide))
  | .idx a i, X, c, w0, G, x, hx => by
    cases x <;> simp only [chkE, Bool.false_eq_true] at hx
    simp only [Bool.and_eq_true] at hx
    refine PE.mono (pe_ix (ix_run (w0 := w0) G.K (by have := G.units; omega)) (sE a G _ hx.1) (sE i G _ hx.2) (chk_ix hx.2)) fun t H Q p => ?_
    exact tI_two (fun Z m h H x y x' y' S rx ry p => ⟨Z, m, h, x, y, S, rx, ry, p⟩) p
  | .slice fl a lo hi, X, c, w0, G, x, hx => by
    cases x <;> simp only [chkE, Bool.false_eq_true] at hx
    rename_i u sl pos
    cases sl <;> (try simp only [Bool.false_eq_true] at hx)
    rename_i l h st p2
    cases st <;> (try simp only [Bool.false_eq_true, Bool.and_eq_true] at hx)
    refine PE.mono (pe_slice (sl_run (fl := fl) (w0 := w0) G.K) (sE a G _ hx.1.1) (sO lo G _ hx.1.2) (sO hi G _ hx.2)) fun t H Q ⟨Z, m, s, h, S, St, p⟩ => ?_
    refine ⟨Z, m, s, h, S, St, (PostG.bind p).mono fun x' H1 ⟨m1, x, h1, e1, S1, r1, p1⟩ => ?_⟩
    refine ⟨Z, m1, s, h1, S1, St.ext e1, (PostG.bind p1).mono fun l' H2 ⟨m2, l, h2, e2, S2, r2, p2⟩ => ?_⟩
    refine ⟨Z, m2, s, h2, S2, (St.ext e1).ext e2, (PostG.bind p2).mono fun u' H3 ⟨m3, u, h3, e3, S3, r3, p3⟩ => ?_⟩
    have r2' : l = l' := r2
    have r3' : u = u' := r3
    subst r2' r3'
    exact ⟨Z, m3, h3, x, S3, Rel.ext e3 x x' (Rel.ext e2 x x' r1), p3⟩
  | .rev fl a, X, c, w0, G, x, hx => by
    cases x <;> simp only [chkE, Bool.false_eq_true] at hx
    rename_i u sl pos
    cases sl <;> (try simp only [Bool.false_eq_true] at hx)
    rename_i l h st p2
    cases l <;> cases h <;> (try simp only [Bool.false_eq_true] at hx)
    cases st <;> (try simp only [Bool.false_eq_true] at hx)
    rename_i st
    cases st <;> (try simp only [Bool.false_eq_true] at hx)
    rename_i op e pu
    cases op <;> (try simp only [Bool.false_eq_true] at hx)
    cases e <;> (try simp only [Bool.false_eq_true] at hx)
    rename_i cst j pc
    cases cst <;> (try simp only [Bool.false_eq_true] at hx)
    rename_i i
    split at hx
    · rename_i hi
      cases hi
      refine PE.mono (pe_rev (sE a G _ hx)) fun t H Q ⟨Z, m, s, h, S, St, p⟩ => ?_
      refine ⟨Z, m, s, h, S, St, (PostG.bind p).mono fun x' H1 ⟨m1, x, h1, e1, S1, r1, p1⟩ => ?_⟩
      unfold revop at p1
      split at p1
      · rename_i s0
        obtain ⟨q1, q2, q3⟩ := r1
        refine .inr ⟨_, q1, by rw [str_len]; exact bigL_le q2, ?_⟩
        refine p1.now S1 ⟨rfl, by rw [List.length_reverse]; exact q2, okS_sub q3 fun d hd => List.mem_reverse.mp hd⟩
      · split at p1
        · rename_i xs hx'
          obtain ⟨a0, vs, e2, t1, _, l⟩ := listOf_sq S1 r1 hx'
          exact .inl ⟨a0, vs, e2, by rw [G.K]; exact t1, fun q hq => PostG.mk S1 p1 l.reverse hq⟩
        · exact p1.elim
    · cases hx
  | .call f es, X, c, w0, G, x, hx => by
    cases x <;> simp only [chkE, Bool.false_eq_true] at hx
    rename_i fn xs kws pos
    cases fn <;> (try simp only [Bool.false_eq_true] at hx)
    rename_i n p
    cases kws <;> (try simp only [Bool.false_eq_true, Bool.and_eq_true, decide_eq_true_eq] at hx)
    obtain ⟨⟨⟨h1, h2⟩, h3⟩, h4⟩ := hx
    obtain ⟨d1, d2, d3⟩ := dbg_of h3
    obtain ⟨a, fd, ps, lvl, q1, q2, q3, q4, q5, q6⟩ := G.fns f n h1
    have fin : ∀ (t : L2.St) (H : Hp) (Q : VK), tI k C w0 (.call f es) t H Q → tIA k C w0 es t H fun vs H1 => spF k ps.length (C.call f) vs H1 Q w0 := fun t H Q ⟨Z, m, s, h, S, St, p⟩ => by
      refine ⟨Z, m, s, h, S, St, (PostG.bind p).mono fun vs' H1 ⟨m1, vs, h1, e1, S1, r1, p1⟩ => ?_⟩
      refine ⟨Z, m1, h1, vs, S1, r1, ?_, p1⟩
      by_cases hl : vs.length = ps.length
      · exact hl
      · rw [q6 vs h1 hl] at p1
        exact p1.elim
    rcases xs with _ | ⟨e1, er⟩
    · refine PE.mono (pe_callG0 q3 q4 G.guards (gl_of G.sc h2) q1 q2 q5 G.pass d1) fun t H Q p => ?_
      have ha := sA es G _ h4
      cases es with
      | nil =>
        obtain ⟨Z, m, s, h, S, St, pp⟩ := fin t H Q p
        exact pp m H [] (Ext.refl S) S rfl
      | cons e r => simp [chkA] at h4
    · cases es with
      | nil => simp [chkA] at h4
      | cons e0 r0 =>
        have h4' := h4
        simp only [chkA, Bool.and_eq_true] at h4'
        exact PE.mono (pe_callG q3 q4 G.guards (gl_of G.sc h2) q1 q2 q5 G.pass (sA (.cons e0 r0) G _ h4) d1 (chk_star h4'.1 _ _) (chkA_stars h4'.2 _ _)) fun t H Q p => fin t H Q p
  | .blt b fl es, X, c, w0, G, x, hx => by
    simp only [chkE] at hx
    split at hx
    · rename_i hb
      subst hb
      split at hx
      · rename_i n p z p2 u v p4 p3
        simp only [Bool.and_eq_true, decide_eq_true_eq] at hx
        obtain ⟨⟨⟨⟨h1, h2⟩, h3⟩, h4⟩, h5⟩ := hx
        subst h1 h3
        refine PE.mono (pe_dictzip (fl := fl) (w0 := w0) G.K G.calm (gl_of G.sc h2) (gl_of G.sc h4) (G.blt "dict" (by decide)) (G.blt "zip" (by decide)) (sA es G _ h5) (chkA_two h5 _).1 ((chkA_two h5 _).2 _)) fun t H Q ⟨Z, m, s, h, S, St, p⟩ => ?_
        refine ⟨Z, m, s, h, S, St, (PostG.bind p).mono fun vs' H1 ⟨m1, vs, h1, e1, S1, r1, p1⟩ => ?_⟩
        exact ⟨Z, m1, h1, vs, S1, r1, p1⟩
      · cases hx
    split at hx
    · rename_i hb
      subst hb
      split at hx
      · rename_i n p z p2 u v kw nn p5 p6 p4 p3
        simp only [Bool.and_eq_true, decide_eq_true_eq] at hx
        obtain ⟨⟨⟨⟨⟨h1, h2⟩, h3⟩, h4⟩, h6⟩, h5⟩ := hx
        subst h1 h3 h6
        refine PE.mono (pe_dictzips (fl := fl) (w0 := w0) G.K G.calm (gl_of G.sc h2) (gl_of G.sc h4) (G.blt "dict" (by decide)) (G.blt "zip" (by decide)) (sA es G _ h5) (chkA_two h5 _).1 ((chkA_two h5 _).2 _)) fun t H Q ⟨Z, m, s, h, S, St, p⟩ => ?_
        refine ⟨Z, m, s, h, S, St, (PostG.bind p).mono fun vs' H1 ⟨m1, vs, h1, e1, S1, r1, p1⟩ => ?_⟩
        exact ⟨Z, m1, h1, vs, S1, r1, p1⟩
      · cases hx
    · rename_i hb1 hb2
      have hb : b.dz = false := by cases b <;> first | rfl | exact absurd rfl hb1 | exact absurd rfl hb2
      split at hx
      · rename_i n p xs pos
        simp only [Bool.and_eq_true, decide_eq_true_eq] at hx
        obtain ⟨⟨⟨h1, h2⟩, h3⟩, h4⟩ := hx
        subst h1
        cases es with
        | nil => simp [isNil] at h3
        | cons e0 r0 =>
          rcases xs with _ | ⟨e1, er⟩
          · simp [chkA] at h4
          · have h4' := h4
            simp only [chkA, Bool.and_eq_true] at h4'
            refine PE.mono (pe_blt hb (call_blt (fl := fl) (w0 := w0) G.K G.calm (by have := G.units; omega) G.guards hb) (gl_of G.sc h2) (G.blt _ (blt_name b)) (sA (.cons e0 r0) G _ h4) (chk_star h4'.1 _ _) (chkA_stars h4'.2 _ _)) fun t H Q ⟨Z, m, s, h, S, St, p⟩ => ?_
            refine ⟨Z, m, s, h, S, St, (PostG.bind p).mono fun vs' H1 ⟨m1, vs, h1, e1, S1, r1, p1⟩ => ?_⟩
            exact ⟨Z, m1, h1, vs, S1, r1, p1⟩
      · cases hx
  | .mth b o es, X, c, w0, G, x, hx => by
    cases x <;> simp only [chkE, Bool.false_eq_true] at hx
    rename_i fn xs kws cp
    cases fn <;> (try simp only [Bool.false_eq_true] at hx)
    rename_i u n ap
    cases kws <;> (try simp only [Bool.false_eq_true, Bool.and_eq_true, decide_eq_true_eq] at hx)
    obtain ⟨⟨⟨⟨⟨h1, h2⟩, h3⟩, h4⟩, h5⟩, h6⟩ := hx
    subst h1
    have hline : (ap.endLine == cp.line) = true := by rw [h3]; exact beq_self_eq_true _
    have tyOk : ∀ {Z m H h x x' T}, SRel k.K Z m h H → Rel k.K Z m H x x' → recvOk b x h = true → T = mthTy b → tyV X.K T x' H := fun {Z m H h x x' T} S r q e => by
      subst e
      cases b
      case append =>
        cases x <;> simp only [recvOk, Bool.false_eq_true, decide_eq_true_eq] at q
        rename_i j
        obtain ⟨a, e1, e2⟩ := r
        have hj := List.getElem?_eq_getElem q
        have cj := S.cell j a _ e2 hj
        cases hc : h[j] with
        | lst ys =>
          rw [hc] at cj
          obtain ⟨ws, e3, _⟩ := cj
          rw [e1]
          exact .inl ⟨rfl, ws, .inl (.inl e3)⟩
      case reverse =>
        cases x <;> simp only [recvOk, Bool.false_eq_true, decide_eq_true_eq] at q
        rename_i j
        obtain ⟨a, e1, e2⟩ := r
        have hj := List.getElem?_eq_getElem q
        have cj := S.cell j a _ e2 hj
        cases hc : h[j] with
        | lst ys =>
          rw [hc] at cj
          obtain ⟨ws, e3, _⟩ := cj
          rw [e1]
          exact .inl ⟨rfl, ws, .inl (.inl e3)⟩
      case pop =>
        cases x <;> simp only [recvOk, Bool.false_eq_true, decide_eq_true_eq] at q
        rename_i j
        obtain ⟨a, e1, e2⟩ := r
        have hj := List.getElem?_eq_getElem q
        have cj := S.cell j a _ e2 hj
        cases hc : h[j] with
        | lst ys =>
          rw [hc] at cj
          obtain ⟨ws, e3, _⟩ := cj
          rw [e1]
          exact .inl ⟨rfl, ws, .inl (.inl e3)⟩
      case join =>
        cases x <;> simp only [recvOk, Bool.false_eq_true] at q
        rw [r.1]
        rfl
    have fin : ∀ (t : L2.St) (H : Hp) (Q : VK), tI k C w0 (.mth b o es) t H Q → tI k C w0 o t H fun x' H1 => tyV X.K (mthTy b) x' H1 ∧ tIA k C w0 es t H1 fun vs' H2 => rM k w0 (mthop b) x' vs' H2 Q := fun t H Q ⟨Z, m, s, h, S, St, p⟩ => by
      refine ⟨Z, m, s, h, S, St, (PostG.bind p).mono fun x' H1 ⟨m1, x, h1, e1, S1, r1, p1⟩ => ?_⟩
      split at p1
      · rename_i hrc
        refine ⟨tyOk S1 r1 hrc rfl, Z, m1, s, h1, S1, St.ext e1, (PostG.bind p1).mono fun vs' H2 ⟨m2, vs, h2, e2, S2, r2, p2⟩ => ?_⟩
        exact ⟨Z, m2, h2, x, vs, S2, Rel.ext e2 x x' r1, r2, p2⟩
      · exact p1.elim
    have hm := @mt_run X k w0 G.K b
    rcases xs with _ | ⟨x1, xr⟩
    · cases es with
      | cons e r => simp [chkA] at h6
      | nil =>
        have fin0 : ∀ (t : L2.St) (H : Hp) (Q : VK), tI k C w0 (.mth b o .nil) t H Q → tI k C w0 o t H fun x' H1 => tyV X.K (mthTy b) x' H1 ∧ rM k w0 (mthop b) x' [] H1 Q := fun t H Q p => by
          obtain ⟨Z, m, s, h, S, St, pp⟩ := fin t H Q p
          refine ⟨Z, m, s, h, S, St, pp.mono fun x' H1 ⟨q1, Z2, m2, s2, h2, S2, St2, q2⟩ => ⟨q1, ?_⟩⟩
          exact q2 m2 H1 [] (Ext.refl S2) S2 rfl
        cases b with
        | append => exact PE.mono (pe_bm0 PySem.F.plainAttrs_list PySem.F.slot_list_append PySem.F.type_list_append hm (sE o G _ h5) (base_of h2 _ _) hline) fun t H Q p => fin0 t H Q p
        | pop => exact PE.mono (pe_bm0 PySem.F.plainAttrs_list PySem.F.slot_list_pop PySem.F.type_list_pop hm (sE o G _ h5) (base_of h2 _ _) hline) fun t H Q p => fin0 t H Q p
        | reverse => exact PE.mono (pe_bm0 PySem.F.plainAttrs_list PySem.F.slot_list_reverse PySem.F.type_list_reverse hm (sE o G _ h5) (base_of h2 _ _) hline) fun t H Q p => fin0 t H Q p
        | join => exact PE.mono (pe_bm0 PySem.F.plainAttrs_str PySem.F.slot_str_join PySem.F.type_str_join hm (sE o G _ h5) (base_of h2 _ _) hline) fun t H Q p => fin0 t H Q p
    · cases es with
      | nil => simp [chkA] at h6
      | cons e0 r0 =>
        have h6' := h6
        simp only [chkA, Bool.and_eq_true] at h6'
        have hfew : ((backTo cp (starEach (x1 :: xr) X.env)).all (fun x => !x.1) && (backToKw cp (keywordEach [] X.env)).all (fun x => x.1.isSome) && decide ((x1 :: xr).length + ([] : List Keyword).length + (if ([] : List Keyword).isEmpty then 0 else 1) < 30)) = true := by
          rw [chkA_all h6]
          have hl : (x1 :: xr).length < 20 := h4
          simp only [Bool.true_and, Bool.and_eq_true, decide_eq_true_eq]
          exact ⟨rfl, by simp only [List.length_nil, List.isEmpty_nil, if_true]; omega⟩
        cases b with
        | append => exact PE.mono (pe_bm PySem.F.plainAttrs_list PySem.F.slot_list_append PySem.F.type_list_append hm (sE o G _ h5) (sA (.cons e0 r0) G _ h6) (base_of h2 _ _) hfew hline (chk_star h6'.1 _ _) (chkA_stars h6'.2 _ _)) fun t H Q p => fin t H Q p
        | pop => exact PE.mono (pe_bm PySem.F.plainAttrs_list PySem.F.slot_list_pop PySem.F.type_list_pop hm (sE o G _ h5) (sA (.cons e0 r0) G _ h6) (base_of h2 _ _) hfew hline (chk_star h6'.1 _ _) (chkA_stars h6'.2 _ _)) fun t H Q p => fin t H Q p
        | reverse => exact PE.mono (pe_bm PySem.F.plainAttrs_list PySem.F.slot_list_reverse PySem.F.type_list_reverse hm (sE o G _ h5) (sA (.cons e0 r0) G _ h6) (base_of h2 _ _) hfew hline (chk_star h6'.1 _ _) (chkA_stars h6'.2 _ _)) fun t H Q p => fin t H Q p
        | join => exact PE.mono (pe_bm PySem.F.plainAttrs_str PySem.F.slot_str_join PySem.F.type_str_join hm (sE o G _ h5) (sA (.cons e0 r0) G _ h6) (base_of h2 _ _) hfew hline (chk_star h6'.1 _ _) (chkA_stars h6'.2 _ _)) fun t H Q p => fin t H Q p
  | .lc fl own tg it d elt, X, c, w0, G, x, hx => by
    cases x <;> simp only [chkE, Bool.false_eq_true] at hx
    rename_i el gs scope pos
    rcases gs with _ | ⟨g, _ | ⟨g2, gs⟩⟩ <;> (try simp only [Bool.false_eq_true, Bool.and_eq_true, decide_eq_true_eq] at hx)
    obtain ⟨⟨⟨⟨⟨⟨h1, h2⟩, h3⟩, h4⟩, h5⟩, h6⟩, h7⟩ := hx
    obtain ⟨gt, gi, gf, ga⟩ := g
    simp only at h1 h3 h4 h5 h6 h7
    subst h1
    have ok : BlkOk X.N X.env.scope scope (ownOf c.N own) := by
      rw [← G.N, ← G.sc]
      exact blkOk_by h3
    have eo : (ownOf c.N own).map (·.2) = own := by
      unfold ownOf
      rw [List.map_map]
      exact List.map_id' own
    have hf := sI it G gt gi h4
    have q := pe_lc (X := X) (pos := pos) G.calm G.nd hf.1 ok (fun s H C' cl fp => sG tg (G.blk ok.kind s H C' cl fp) gt h5) (fun s H C' cl fp => sC d (G.blk ok.kind s H C' cl fp) gf h6) (fun s H C' cl fp => sE elt (G.blk ok.kind s H C' cl fp) el h7) (hf.2 X.env)
    rw [eo] at q
    exact PE.mono q fun t H Q p => lc_read h2 t H Q p
  | .lc2 fl own tg it d tg1 it1 d1 elt, X, c, w0, G, x, hx => by
    cases x <;> simp only [chkE, Bool.false_eq_true] at hx
    rename_i el gs scope pos
    rcases gs with _ | ⟨g, _ | ⟨g1, _ | ⟨g2, gs⟩⟩⟩ <;> (try simp only [Bool.false_eq_true, Bool.and_eq_true, decide_eq_true_eq] at hx)
    obtain ⟨⟨⟨⟨⟨⟨⟨⟨⟨⟨h1, k1⟩, h2⟩, h3⟩, h4⟩, h5⟩, h6⟩, h7⟩, h8⟩, h9⟩, h10⟩ := hx
    obtain ⟨gt, gi, gf, ga⟩ := g
    obtain ⟨gt1, gi1, gf1, ga1⟩ := g1
    simp only at h1 k1 h3 h4 h5 h6 h7 h8 h9 h10
    subst h1 k1
    have ok : BlkOk X.N X.env.scope scope (ownOf c.N own) := by
      rw [← G.N, ← G.sc]
      exact blkOk_by h3
    have eo : (ownOf c.N own).map (·.2) = own := by
      unfold ownOf
      rw [List.map_map]
      exact List.map_id' own
    have hf := sI it G gt gi h4
    have q := pe_lc2 (X := X) (pos := pos) (vs1 := tgSlots tg1) G.calm G.nd hf.1 ok (fun i hi => by rw [eo, h2]; exact List.mem_append_right _ hi) (fun s H C' cl fp => sG tg (G.blk ok.kind s H C' cl fp) gt h5) (fun s H C' cl fp => sC d (G.blk ok.kind s H C' cl fp) gf h6)
      (fun s H C' cl fp => (sI it1 (G.blk ok.kind s H C' cl fp) gt1 gi1 h7).1) (fun s H C' cl fp => sG tg1 (G.blk ok.kind s H C' cl fp) gt1 h8) (fun s H C' cl fp => sC d1 (G.blk ok.kind s H C' cl fp) gf1 h9) (fun s H C' cl fp => sE elt (G.blk ok.kind s H C' cl fp) el h10) (hf.2 X.env) (fun env x => chkI_fold h7 env x)
    rw [eo] at q
    exact PE.mono q fun t H Q p => lc2_read h2 t H Q p
theorem sT : ∀ (e : E) {X : Cx} {c : CC} {w0 : XK}, Good k CX w0 C c X → ∀ x : Expr, chkE c e x = true → PT X x (tTI k C w0 e) ∧ ∀ op vs pos, x = .BoolOp op vs pos → PW X x (tTI k C w0 e)
  | .and a b, X, c, w0, G, x, hx => by
    cases x <;> simp only [chkE, Bool.false_eq_true] at hx
    rename_i op vs pos
    cases op <;> (try simp only [Bool.false_eq_true] at hx)
    rcases vs with _ | ⟨u, _ | ⟨v, r⟩⟩ <;> (try simp only [Bool.false_eq_true, Bool.and_eq_true] at hx)
    have hb : PW X (.BoolOp .And (v :: r) pos) (tTI k C w0 b) := by
      rcases r with _ | ⟨w, q⟩
      · exact pw_and1 (sT b G _ hx.2).1
      · exact (sT b G _ hx.2).2 _ _ _ rfl
    have hw : PW X (.BoolOp .And (u :: v :: r) pos) (tTI k C w0 (.and a b)) := by
      refine PW.mono (pw_and (sT a G _ hx.1).1 hb) fun t H Q ⟨Z, m, s, h, S, St, p⟩ => ?_
      refine ⟨Z, m, s, h, S, St, (PostG.bind p).mono fun x' H1 ⟨m1, x, h1, e1, S1, r1, p1⟩ => ?_⟩
      cases x <;> (try simp only at p1) <;> (try exact p1.elim)
      rename_i kb
      refine ⟨kb, r1, ?_⟩
      cases kb with
      | true => exact iteT ⟨Z, m1, s, h1, S1, St.ext e1, p1⟩
      | false =>
        obtain ⟨b0, q1, q2⟩ := p1.now S1 (show Rel k.K Z m1 H1 (.bl false) (.bl false) from rfl)
        cases q1
        exact iteF q2
    exact ⟨hw.pt, fun op vs pos e => hw⟩
  | .or a b, X, c, w0, G, x, hx => by
    cases x <;> simp only [chkE, Bool.false_eq_true] at hx
    rename_i op vs pos
    cases op <;> (try simp only [Bool.false_eq_true] at hx)
    rcases vs with _ | ⟨u, _ | ⟨v, r⟩⟩ <;> (try simp only [Bool.false_eq_true, Bool.and_eq_true] at hx)
    have hb : PW X (.BoolOp .Or (v :: r) pos) (tTI k C w0 b) := by
      rcases r with _ | ⟨w, q⟩
      · exact pw_or1 (sT b G _ hx.2).1
      · exact (sT b G _ hx.2).2 _ _ _ rfl
    have hw : PW X (.BoolOp .Or (u :: v :: r) pos) (tTI k C w0 (.or a b)) := by
      refine PW.mono (pw_or (sT a G _ hx.1).1 hb) fun t H Q ⟨Z, m, s, h, S, St, p⟩ => ?_
      refine ⟨Z, m, s, h, S, St, (PostG.bind p).mono fun x' H1 ⟨m1, x, h1, e1, S1, r1, p1⟩ => ?_⟩
      cases x <;> (try simp only at p1) <;> (try exact p1.elim)
      rename_i kb
      refine ⟨kb, r1, ?_⟩
      cases kb with
      | true =>
        obtain ⟨b0, q1, q2⟩ := p1.now S1 (show Rel k.K Z m1 H1 (.bl true) (.bl true) from rfl)
        cases q1
        exact iteT q2
      | false => exact iteF ⟨Z, m1, s, h1, S1, St.ext e1, p1⟩
    exact ⟨hw.pt, fun op vs pos e => hw⟩
  | .not a, X, c, w0, G, x, hx => by
    cases x <;> simp only [chkE, Bool.false_eq_true] at hx
    rename_i op e pos
    cases op <;> (try simp only [Bool.false_eq_true] at hx)
    refine ⟨PT.mono (pt_not (sT a G _ hx).1) fun t H Q ⟨Z, m, s, h, S, St, p⟩ => ?_, fun op vs pos e => by cases e⟩
    refine ⟨Z, m, s, h, S, St, (PostG.bind p).mono fun x' H1 ⟨m1, x, h1, e1, S1, r1, p1⟩ => ?_⟩
    cases x <;> (try simp only at p1) <;> (try exact p1.elim)
    rename_i kb
    obtain ⟨b0, q1, q2⟩ := p1.now S1 (show Rel k.K Z m1 H1 (.bl (!kb)) (.bl (!kb)) from rfl)
    cases q1
    exact ⟨kb, r1, q2⟩
  | .cmp op a b, X, c, w0, G, x, hx => by
    cases x <;> simp only [chkE, Bool.false_eq_true] at hx
    rename_i l ops rs pos
    rcases ops with _ | ⟨o, _ | ⟨o2, ops⟩⟩ <;> (try simp only [Bool.false_eq_true] at hx)
    rcases rs with _ | ⟨r, _ | ⟨r2, rs⟩⟩ <;> (try simp only [Bool.false_eq_true, Bool.and_eq_true, decide_eq_true_eq] at hx)
    obtain ⟨⟨h1, h2⟩, h3⟩ := hx
    subst h1
    refine ⟨PT.mono (pt_cmpR (op_cmp (w0 := w0) G.K (by have := G.units; omega)) (sE a G _ h2) (sE b G _ h3) (chk_marks h3 o)) fun t H Q p => ?_, fun op vs pos e => by cases e⟩
    exact tI_two (fun Z m h H x y x' y' S rx ry p => ⟨Z, m, h, x, y, S, rx, ry, p⟩) p
  | .chain o1 o2 a b d, X, c, w0, G, x, hx => by
    cases x <;> simp only [chkE, Bool.false_eq_true] at hx
    rename_i l ops rs pos
    rcases ops with _ | ⟨p1, _ | ⟨p2, _ | ⟨p3, ops⟩⟩⟩ <;> (try simp only [Bool.false_eq_true] at hx)
    rcases rs with _ | ⟨r1, _ | ⟨r2, _ | ⟨r3, rs⟩⟩⟩ <;> (try simp only [Bool.false_eq_true, Bool.and_eq_true, decide_eq_true_eq] at hx)
    obtain ⟨⟨⟨⟨h1, h2⟩, h3⟩, h4⟩, h5⟩ := hx
    subst h1 h2
    have hu : X.A.units + 65 < cLine := by have := G.units; omega
    refine ⟨PT.mono (pt_chain (op_cmp (w0 := w0) G.K hu) (op_cmp (w0 := w0) G.K hu) (sE a G _ h3) (sE b G _ h4) (sE d G _ h5) (chk_marks h5 p2)) fun t H Q ⟨Z, m, s, h, S, St, p⟩ => ?_, fun op vs pos e => by cases e⟩
    refine ⟨Z, m, s, h, S, St, (PostG.bind p).mono fun x' H1 ⟨m1, x, h1, e1, S1, r1, p1⟩ => ?_⟩
    refine ⟨Z, m1, s, h1, S1, St.ext e1, (PostG.bind p1).mono fun y' H2 ⟨m2, y, h2, e2, S2, r2, p2⟩ => ?_⟩
    refine ⟨Z, m2, h2, x, y, S2, Rel.ext e2 x x' r1, r2, (PostG.bind p2).mono fun z' H3 ⟨m3, z, h3, e3, S3, r3, p3⟩ => ?_⟩
    cases z <;> (try simp only at p3) <;> (try exact p3.elim)
    rename_i kb
    refine ⟨kb, r3, ?_⟩
    cases kb with
    | true =>
      refine iteT ⟨Z, m3, s, h3, S3, ((St.ext e1).ext e2).ext e3, (PostG.bind p3).mono fun w' H4 ⟨m4, w, h4, e4, S4, r4, p4⟩ => ?_⟩
      exact ⟨Z, m4, h4, y, w, S4, Rel.ext e4 y y' (Rel.ext e3 y y' r2), r4, p4⟩
    | false => exact iteF (p3.now S3 rfl)
  | .lit v, X, c, w0, G, x, hx => by
    have h := sE (.lit v) G x hx
    cases x <;> simp only [chkE, Bool.false_eq_true] at hx
    exact ⟨pt_val h, fun op vs pos e => by cases e⟩
  | .var i, X, c, w0, G, x, hx => by
    have h := sE (.var i) G x hx
    cases x <;> simp only [chkE, Bool.false_eq_true] at hx
    exact ⟨pt_val h, fun op vs pos e => by cases e⟩
  | .glob g, X, c, w0, G, x, hx => by
    have h := sE (.glob g) G x hx
    cases x <;> simp only [chkE, Bool.false_eq_true] at hx
    exact ⟨pt_val h, fun op vs pos e => by cases e⟩
  | .bty n, X, c, w0, G, x, hx => by
    have h := sE (.bty n) G x hx
    cases x <;> simp only [chkE, Bool.false_eq_true] at hx
    exact ⟨pt_val h, fun op vs pos e => by cases e⟩
  | .bin op fl a b, X, c, w0, G, x, hx => by
    have h := sE (.bin op fl a b) G x hx
    cases x <;> simp only [chkE, Bool.false_eq_true] at hx
    exact ⟨pt_val h, fun op vs pos e => by cases e⟩
  | .neg a, X, c, w0, G, x, hx => by
    have h := sE (.neg a) G x hx
    cases x <;> simp only [chkE, Bool.false_eq_true] at hx
    rename_i op e pos
    cases op <;> (try simp only [Bool.false_eq_true] at hx)
    exact ⟨pt_val h, fun op vs pos e => by cases e⟩
  | .ife d a b, X, c, w0, G, x, hx => by
    cases x <;> simp only [chkE, Bool.false_eq_true] at hx
    simp only [Bool.and_eq_true] at hx
    refine ⟨PT.mono (pt_ifExp (sT d G _ hx.1.1).1 (sT a G _ hx.1.2).1 (sT b G _ hx.2).1) fun t H Q ⟨Z, m, s, h, S, St, p⟩ => ?_, fun op vs pos e => by cases e⟩
    refine ⟨Z, m, s, h, S, St, (PostG.bind p).mono fun x' H1 ⟨m1, x, h1, e1, S1, r1, p1⟩ => ?_⟩
    cases x <;> (try simp only at p1) <;> (try exact p1.elim)
    rename_i kb
    refine ⟨kb, r1, ?_⟩
    cases kb with
    | true => exact iteT ⟨Z, m1, s, h1, S1, St.ext e1, p1⟩
    | false => exact iteF ⟨Z, m1, s, h1, S1, St.ext e1, p1⟩
  | .tup es, X, c, w0, G, x, hx => by
    have h := sE (.tup es) G x hx
    cases x <;> simp only [chkE, Bool.false_eq_true] at hx
    exact ⟨pt_val h, fun op vs pos e => by cases e⟩
  | .lst fl es, X, c, w0, G, x, hx => by
    have h := sE (.lst fl es) G x hx
    cases x <;> simp only [chkE, Bool.false_eq_true] at hx
    exact ⟨pt_val h, fun op vs pos e => by cases e⟩
  | .idx a i, X, c, w0, G, x, hx => by
    have h := sE (.idx a i) G x hx
    cases x <;> simp only [chkE, Bool.false_eq_true] at hx
    exact ⟨pt_val h, fun op vs pos e => by cases e⟩
  | .slice fl a lo hi, X, c, w0, G, x, hx => by
    have h := sE (.slice fl a lo hi) G x hx
    cases x <;> simp only [chkE, Bool.false_eq_true] at hx
    exact ⟨pt_val h, fun op vs pos e => by cases e⟩
  | .rev fl a, X, c, w0, G, x, hx => by
    have h := sE (.rev fl a) G x hx
    cases x <;> simp only [chkE, Bool.false_eq_true] at hx
    exact ⟨pt_val h, fun op vs pos e => by cases e⟩
  | .call f es, X, c, w0, G, x, hx => by
    have h := sE (.call f es) G x hx
    cases x <;> simp only [chkE, Bool.false_eq_true] at hx
    exact ⟨pt_val h, fun op vs pos e => by cases e⟩
  | .blt b fl es, X, c, w0, G, x, hx => by
    have h := sE (.blt b fl es) G x hx
    cases x <;> simp [chkE] at hx
    exact ⟨pt_val h, fun op vs pos e => by cases e⟩
  | .mth b o es, X, c, w0, G, x, hx => by
    have h := sE (.mth b o es) G x hx
    cases x <;> simp only [chkE, Bool.false_eq_true] at hx
    exact ⟨pt_val h, fun op vs pos e => by cases e⟩
  | .lc fl own tg it d elt, X, c, w0, G, x, hx => by
    have h := sE (.lc fl own tg it d elt) G x hx
    cases x <;> simp only [chkE, Bool.false_eq_true] at hx
    exact ⟨pt_val h, fun op vs pos e => by cases e⟩
  | .lc2 fl own tg it d tg1 it1 d1 elt, X, c, w0, G, x, hx => by
    have h := sE (.lc2 fl own tg it d tg1 it1 d1 elt) G x hx
    cases x <;> simp only [chkE, Bool.false_eq_true] at hx
    exact ⟨pt_val h, fun op vs pos e => by cases e⟩
theorem sC : ∀ (o : Eo) {X : Cx} {c : CC} {w0 : XK}, Good k CX w0 C c X → ∀ xs : List Expr, chkC c o xs = true → PTs X xs (tIC k C w0 o)
  | .no, X, c, w0, G, xs, hx => by
    cases xs <;> simp only [chkC, Bool.false_eq_true] at hx
    refine ⟨fun pins s t H Q I ⟨Z, m, s0, h, S, St, p⟩ => pts_nil.run pins s t H Q I ?_⟩
    obtain ⟨b0, q1, q2⟩ := p m H (.bl true) (Ext.refl S) S rfl
    cases q1
    exact q2
  | .yes e, X, c, w0, G, xs, hx => by
    rcases xs with _ | ⟨x, _ | ⟨y, xs⟩⟩ <;> simp only [chkC, Bool.false_eq_true] at hx
    exact pts_one (sT e G _ hx).1
theorem sI : ∀ (it : It) {X : Cx} {c : CC} {w0 : XK}, Good k CX w0 C c X → ∀ tg x : Expr, chkI c it tg x = true → PI X tg x (tII k C w0 it) ∧ ∀ env v, foldedSetIterable x env v = pure v
  | .e e, X, c, w0, G, tg, x, hx => by
    simp only [chkI] at hx
    refine ⟨⟨fun pins s t H R0 I ⟨Z, m, s0, h, S, St, p⟩ => (pi_any (sE e G _ hx)).run pins s t H R0 I ?_⟩, fun env v => chk_fold hx env v⟩
    refine ⟨Z, m, s0, h, S, St, (PostG.bind p).mono fun x' H1 ⟨m1, x, h1, e1, S1, r1, p1⟩ => ?_⟩
    split at p1
    · rename_i w hw
      have fin : ∀ J, Adq k Z m1 H1 (.one w) J → R0 J H1 := fun J ad => p1 m1 H1 J (Ext.refl S1) S1 ad
      rw [G.K]
      cases x <;> simp only [viewOf] at hw
      case tup xs =>
        obtain ⟨a, vs, q1, q2, q3⟩ := view_tup r1 hw
        exact .inr (.inl ⟨a, vs, q1, q2, fin _ (adq_tup q3)⟩)
      case str z =>
        simp only [Option.some.injEq] at hw
        subst hw
        exact .inr (.inr ⟨_, r1.1, fin _ (adq_str r1.2.2)⟩)
      all_goals
        first
        | (simp only [viewL, reduceCtorEq] at hw; done)
        | (obtain ⟨a, vs, q1, q2, q3⟩ := view_lst S1 r1 hw
           exact .inl ⟨a, vs, q1, q2, fin _ (adq_list q3)⟩)
    · exact p1.elim
  | .range1 a, X, c, w0, G, tg, x, hx => by
    simp only [chkI] at hx
    split at hx
    · rename_i n p u pos
      simp only [Bool.and_eq_true, decide_eq_true_eq] at hx
      obtain ⟨⟨h1, h2⟩, h3⟩ := hx
      subst h1
      refine ⟨⟨fun pins s t H R0 I ⟨Z, m, s0, h, S, St, p⟩ => (pi_range1 (gl_of G.sc h2) (G.blt "range" (by decide)) (pa_cons (sE a G _ h3) pa_nil (chk_star h3 _ _)) (chk_star h3 _ _)).run pins s t H R0 I ?_⟩, fun env v => rfl⟩
      refine ⟨Z, m, s0, h, S, St, (PostG.bind p).mono fun x' H1 ⟨m1, x, h1, e1, S1, r1, p1⟩ => ?_⟩
      cases x <;> (try simp only at p1) <;> (try exact p1.elim)
      rename_i j
      split at p1
      · rename_i hr
        simp only [rangeOk, Bool.and_eq_true, decide_eq_true_eq] at hr
        refine ⟨j, by rw [show x' = V.int j from r1], by omega, by omega, ?_⟩
        have ad := adq_range (k := k) (Z := Z) (m := m1) (H := H1) (lo := 0) (hi := j)
        rw [Int.sub_zero] at ad
        exact p1 m1 H1 _ (Ext.refl S1) S1 ad
      · exact p1.elim
    · cases hx
  | .range2 a b, X, c, w0, G, tg, x, hx => by
    simp only [chkI] at hx
    split at hx
    · rename_i n p u v pos
      simp only [Bool.and_eq_true, decide_eq_true_eq] at hx
      obtain ⟨⟨⟨h1, h2⟩, h3⟩, h4⟩ := hx
      subst h1
      refine ⟨⟨fun pins s t H R0 I ⟨Z, m, s0, h, S, St, p⟩ => (pi_range2 (gl_of G.sc h2) (G.blt "range" (by decide)) (pa_cons (sE a G _ h3) (pa_cons (sE b G _ h4) pa_nil (chk_star h4 _ _)) (chk_star h3 _ _)) (by rw [chk_star h3, chk_star h4]; rfl) (chk_star h4 _ _)).run pins s t H R0 I ?_⟩, fun env v => rfl⟩
      refine ⟨Z, m, s0, h, S, St, (PostG.bind p).mono fun x' H1 ⟨m1, x, h1, e1, S1, r1, p1⟩ => ?_⟩
      refine ⟨Z, m1, s0, h1, S1, St.ext e1, (PostG.bind p1).mono fun y' H2 ⟨m2, y, h2, e2, S2, r2, p2⟩ => ?_⟩
      cases x <;> cases y <;> (try simp only at p2) <;> (try exact p2.elim)
      · rename_i i _ j
        split at p2
        · rename_i hr
          simp only [rangeOk, Bool.and_eq_true, decide_eq_true_eq] at hr
          refine ⟨i, j, by rw [show x' = V.int i from r1, show y' = V.int j from r2], ⟨by omega, by omega, by omega, by omega⟩, ?_⟩
          exact p2 m2 H2 _ (Ext.refl S2) S2 adq_range
        · exact p2.elim
    · cases hx
  | .enum e, X, c, w0, G, tg, x, hx => by
    simp only [chkI] at hx
    split at hx
    · rename_i n p u pos
      simp only [Bool.and_eq_true, decide_eq_true_eq] at hx
      obtain ⟨⟨⟨h1, h2⟩, h3⟩, h4⟩ := hx
      subst h1
      cases tg <;> simp only [isTup, Bool.false_eq_true] at h3
      refine ⟨⟨fun pins s t H R0 I ⟨Z, m, s0, h, S, St, p⟩ => (pi_enumA (gl_of G.sc h2) (G.blt "enumerate" (by decide)) (pa_cons (sE e G _ h4) pa_nil (chk_star h4 _ _)) (chk_star h4 _ _)).run pins s t H R0 I ?_⟩, fun env v => rfl⟩
      refine ⟨Z, m, s0, h, S, St, (PostG.bind p).mono fun x' H1 ⟨m1, x, h1, e1, S1, r1, p1⟩ => ?_⟩
      split at p1
      · rename_i w hw
        obtain ⟨a, vs, q1, q2, q3⟩ := view_lst S1 r1 hw
        rw [G.K]
        exact .inl ⟨a, vs, by rw [q1], q2, p1 m1 H1 _ (Ext.refl S1) S1 (adq_enum q3)⟩
      · split at p1
        · rename_i w hw
          unfold viewS at hw
          split at hw
          · cases hw
            obtain ⟨q1, q2, q3⟩ := r1
            exact .inr ⟨_, by rw [q1], p1 m1 H1 _ (Ext.refl S1) S1 (adq_enumS q3)⟩
          · cases hw
        · exact p1.elim
    · cases hx
  | .zip2 a b, X, c, w0, G, tg, x, hx => by
    simp only [chkI] at hx
    split at hx
    · rename_i n p u v pos
      simp only [Bool.and_eq_true, decide_eq_true_eq] at hx
      obtain ⟨⟨⟨⟨h1, h2⟩, h3⟩, h4⟩, h5⟩ := hx
      subst h1
      cases tg <;> simp only [isTup, Bool.false_eq_true] at h3
      refine ⟨⟨fun pins s t H R0 I ⟨Z, m, s0, h, S, St, p⟩ => (RZ.pi_zipA (gl_of G.sc h2) (G.blt "zip" (by decide)) (pa_cons (sE a G _ h4) (pa_cons (sE b G _ h5) pa_nil (chk_star h5 _ _)) (chk_star h4 _ _)) (chk_star h4 _ _) (by rw [chk_star h5]; rfl)).run pins s t H R0 I ?_⟩, fun env v => rfl⟩
      refine ⟨Z, m, s0, h, S, St, (PostG.bind p).mono fun x' H1 ⟨m1, x, h1, e1, S1, r1, p1⟩ => ?_⟩
      refine ⟨Z, m1, s0, h1, S1, St.ext e1, (PostG.bind p1).mono fun y' H2 ⟨m2, y, h2, e2, S2, r2, p2⟩ => ?_⟩
      have r1' := Rel.ext e2 x x' r1
      rw [G.K]
      split at p2
      · rename_i w1 w2 hw1 hw2
        obtain ⟨a1, vs, q1, q2, q3⟩ := view_lst S2 r1' hw1
        obtain ⟨a2, ws, f1, f2, f3⟩ := view_lst S2 r2 hw2
        exact ⟨a1, a2, vs, ws, by rw [q1, f1], .inl ⟨q2, f2, p2 m2 H2 _ (Ext.refl S2) S2 (adq_zipL q3 f3)⟩⟩
      · split at p2
        · rename_i w1 w2 hw1 hw2
          obtain ⟨a1, vs, q1, q2, q3⟩ := view_tup r1' hw1
          obtain ⟨a2, ws, f1, f2, f3⟩ := view_tup r2 hw2
          exact ⟨a1, a2, vs, ws, by rw [q1, f1], .inr ⟨q2, f2, p2 m2 H2 _ (Ext.refl S2) S2 (adq_zipT q3 f3)⟩⟩
        · exact p2.elim
    · cases hx
theorem sG : ∀ (g : Tg) {X : Cx} {c : CC} {w0 : XK}, Good k CX w0 C c X → ∀ x : Expr, chkG c g x = true → PG X x (tIG k C w0 g)
  | .name i, X, c, w0, G, x, hx => by
    cases x <;> simp only [chkG, Bool.false_eq_true, Bool.and_eq_true, decide_eq_true_eq] at hx
    rename_i n pos
    obtain ⟨h1, h2⟩ := hx
    rw [G.N] at h1
    obtain ⟨l1, l2⟩ := G.fn n h2
    refine ⟨fun pins s t H v' u Q I r ⟨Z, m, s0, h, v, S, St, rv, p⟩ => (pg_name G.nd h1 l1 l2).run pins s t H v' u Q I r ?_⟩
    refine p m H _ (Ext.refl S) S ⟨St.set i rv, by rw [List.length_set], fun j hj => ?_⟩
    rw [List.getElem?_set_ne]
    intro e
    exact hj (by rw [e]; exact List.mem_singleton.mpr rfl)
  | .tup ts, X, c, w0, G, x, hx => by
    cases x <;> simp only [chkG, Bool.false_eq_true] at hx
    rename_i xs j pos
    obtain ⟨q1, q2, q3⟩ := sGs ts G xs hx
    refine ⟨fun pins s t H v' u Q I r ⟨Z, m, s0, h, v, S, St, rv, p⟩ => ?_⟩
    simp only [evG] at p
    split at p
    · rename_i ys hys
      split at p
      · rename_i hl
        obtain ⟨a, vs, e1, t1, l⟩ := seqOf_sq S rv hys
        have hlen : vs.length = xs.length := by rw [l.length, hl, chkGs_len ts xs hx]
        rcases t1 with t1 | ⟨t1, _⟩
        · exact (pg_lst (n := xs.length) G.calm q1 q2 q3).run pins s t H v' u Q I r ⟨a, vs, e1, by rw [G.K]; exact t1, hlen, Z, m, s0, h, ys, S, St, l, p⟩
        · exact (pg_tup (n := xs.length) G.calm q1 q2 q3).run pins s t H v' u Q I r ⟨a, vs, e1, by rw [G.K]; exact t1, hlen, Z, m, s0, h, ys, S, St, l, p⟩
      · exact p.elim
    · exact p.elim
  | .sub o i, X, c, w0, G, x, hx => by
    cases x <;> simp only [chkG, Bool.false_eq_true, Bool.and_eq_true] at hx
    rename_i u v pos
    have hsl : ∀ a b d e, v ≠ .Slice a b d e := fun a b d e z => by
      subst z
      have := hx.2
      cases i <;> simp [chkE] at this
    refine ⟨fun pins s t H v' w Q I r ⟨Z, m, s0, h, v0, S, St, rv, p⟩ => (pg_sub (sE o G _ hx.1) (sE i G _ hx.2) set_list (fun w => by cases v <;> first | rfl | exact absurd rfl (hsl _ _ _ _))).run pins s t H v' w Q I r ?_⟩
    refine ⟨Z, m, s0, h, S, St, (PostG.bind p).mono fun x' H1 ⟨m1, x, h1, e1, S1, r1, p1⟩ => ?_⟩
    refine ⟨Z, m1, s0, h1, S1, St.ext e1, (PostG.bind p1).mono fun y' H2 ⟨m2, y, h2, e2, S2, r2, p2⟩ => ?_⟩
    cases x <;> cases y <;> (try simp only [setAt, R.bind_bad] at p2) <;> (try exact p2.elim)
    · rename_i n _ j
      split at p2
      · rename_i xs hn
        split at p2
        · rename_i jj hj
          simp only [R.bind_ok] at p2
          obtain ⟨a, q1, q2⟩ := Rel.ext e2 _ _ r1
          obtain ⟨ws, q3, q4⟩ := S2.cell n a _ q2 hn
          have hn' : n < h2.length := (List.getElem?_eq_some_iff.mp hn).1
          have rv2 := Rel.ext e2 v0 v' (Rel.ext e1 v0 v' rv)
          obtain ⟨f1, f2⟩ := setCell S2 q2 hn' (RelL.set rv2 jj q4)
          refine ⟨a, ws, j, jj, q1, r2, q3, ?_, p2 _ _ _ f1 f2 ⟨((St.ext e1).ext e2).ext f1, Out.refl⟩⟩
          rw [q4.length]
          exact hj
        · simp only [R.bind_bad] at p2; exact p2.elim
      · simp only [R.bind_bad] at p2; exact p2.elim
theorem sGs : ∀ (g : Tgs) {X : Cx} {c : CC} {w0 : XK}, Good k CX w0 C c X → ∀ xs : List Expr, chkGs c g xs = true → PGs X xs (tIGs k C w0 g) ∧ (assignEach xs X.env).length = xs.length ∧ (assignEach xs X.env).findIdx? (·.1) = none
  | .nil, X, c, w0, G, xs, hx => by
    cases xs <;> simp only [chkGs, Bool.false_eq_true] at hx
    refine ⟨⟨fun pins s t H vs us Q I r ⟨Z, m, s0, h, v, S, St, rv, p⟩ => pgs_nil.run pins s t H vs us Q I r ?_⟩, rfl, rfl⟩
    simp only [evGs] at p
    split at p
    · exact ⟨rv, p m H _ (Ext.refl S) S ⟨St, Out.refl⟩⟩
    · exact p.elim
  | .cons g r, X, c, w0, G, xs, hx => by
    cases xs <;> simp only [chkGs, Bool.false_eq_true, Bool.and_eq_true] at hx
    rename_i x xs
    obtain ⟨q1, q2, q3⟩ := sGs r G xs hx.2
    have hst : assignEach (x :: xs) X.env = (false, assign x X.env) :: assignEach xs X.env := by
      have := hx.1
      cases x <;> first | rfl | (cases g <;> simp [chkG] at this)
    refine ⟨⟨fun pins s t H vs us Q I rr ⟨Z, m, s0, h, v, S, St, rv, p⟩ => (pgs_cons (sG g G x hx.1) q1 (by rw [hst]; rfl)).run pins s t H vs us Q I rr ?_⟩, by rw [hst, List.length_cons, List.length_cons, q2], ?_⟩
    · simp only [evGs] at p
      split at p
      · rename_i y ys
        obtain ⟨v', t', e1, r1, r2⟩ := rv
        refine ⟨v', t', e1, Z, m, s0, h, y, S, St, r1, (PostG.bind p).mono fun t2 H2 ⟨m2, s2, h2, e2, S2, ⟨St2, o2⟩, p2⟩ => ?_⟩
        refine ⟨Z, m2, s2, h2, ys, S2, St2, RelL.ext e2 _ _ r2, ?_⟩
        cases hr : evGs C r ys s2 h2 with
        | bad => rw [hr] at p2; exact p2.elim
        | exc a b d => rw [hr] at p2; exact p2
        | ok s3 h3 =>
          rw [hr] at p2
          intro m3 H3 t3 e3 S3 ⟨St3, o3⟩
          exact p2 m3 H3 t3 e3 S3 ⟨St3, Out.trans o2 o3 (fun j hj => List.mem_append_left _ hj) (fun j hj => List.mem_append_right _ hj)⟩
      · exact p.elim
    · rw [hst, List.findIdx?_cons]
      simp only [Bool.false_eq_true, if_false, q3]
      rfl
theorem sA : ∀ (es : Es) {X : Cx} {c : CC} {w0 : XK}, Good k CX w0 C c X → ∀ xs : List Expr, chkA c es xs = true → PA X xs (tIA k C w0 es)
  | .nil, X, c, w0, G, xs, hx => by
    cases xs <;> simp only [chkA, Bool.false_eq_true] at hx
    exact PA.mono pa_nil fun t H Q ⟨Z, m, s, h, S, St, p⟩ => p m H [] (Ext.refl S) S rfl
  | .cons e r, X, c, w0, G, xs, hx => by
    cases xs <;> simp only [chkA, Bool.false_eq_true, Bool.and_eq_true] at hx
    refine PA.mono (pa_cons (sE e G _ hx.1) (sA r G _ hx.2) (chk_star hx.1 _ _)) fun t H Q ⟨Z, m, s, h, S, St, p⟩ => ?_
    refine ⟨Z, m, s, h, S, St, (PostG.bind p).mono fun x' H1 ⟨m1, x, h1, e1, S1, r1, p1⟩ => ?_⟩
    refine ⟨Z, m1, s, h1, S1, St.ext e1, (PostG.bind p1).mono fun vs' H2 ⟨m2, vs, h2, e2, S2, r2, p2⟩ => ?_⟩
    exact p2 m2 H2 _ (Ext.refl S2) S2 ⟨x', vs', rfl, Rel.ext e2 x x' r1, r2⟩
theorem sO : ∀ (o : Eo) {X : Cx} {c : CC} {w0 : XK}, Good k CX w0 C c X → ∀ x : Option Expr, chkO c o x = true → PO X x (tIO k C w0 o)
  | .no, X, c, w0, G, x, hx => by
    cases x <;> simp only [chkO, Bool.false_eq_true] at hx
    exact ⟨fun pins s t H Q I ⟨Z, m, s0, h, S, St, p⟩ => po_none.run pins s t H Q I (p m H none (Ext.refl S) S rfl)⟩
  | .yes e, X, c, w0, G, x, hx => by
    cases x <;> simp only [chkO, Bool.false_eq_true] at hx
    refine ⟨fun pins s t H Q I ⟨Z, m, s0, h, S, St, p⟩ => (po_some (sE e G _ hx)).run pins s t H Q I ?_⟩
    refine ⟨Z, m, s0, h, S, St, (PostG.bind p).mono fun x' H1 ⟨m1, x, h1, e1, S1, r1, p1⟩ => ?_⟩
    cases x <;> (try simp only at p1) <;> (try exact p1.elim)
    exact ⟨_, r1, p1 m1 H1 _ (Ext.refl S1) S1 rfl⟩
theorem evA_len (C : Ctx) (s : St) : ∀ (es : Es) (xs : List Expr) {c : CC}, chkA c es xs = true → ∀ (h : AH) (vs : List AV) (h' : AH), evA C s es h = .ok vs h' → vs.length = xs.length
  | .nil, xs, c, hx, h, vs, h', e => by
    cases xs <;> simp only [chkA, Bool.false_eq_true] at hx
    simp only [evA, R.ok.injEq] at e
    rw [← e.1]
    rfl
  | .cons e0 r, xs, c, hx, h, vs, h', e => by
    cases xs <;> simp only [chkA, Bool.false_eq_true, Bool.and_eq_true] at hx
    simp only [evA] at e
    cases h1 : evE C s e0 h with
    | bad => rw [h1] at e; cases e
    | exc a b d => rw [h1] at e; cases e
    | ok v h1' =>
      rw [h1, R.bind_ok] at e
      cases h2 : evA C s r h1' with
      | bad => rw [h2] at e; cases e
      | exc a b d => rw [h2] at e; cases e
      | ok ws h2' =>
        rw [h2, R.bind_ok, R.ok.injEq] at e
        rw [← e.1, List.length_cons, List.length_cons, evA_len C s r _ hx.2 h1' ws h2' h2]
end
end
end SP
end
section
set_option maxRecDepth 100000
set_option maxHeartbeats 4000000
/-! Statements. -/
namespace SP
open PySem PySem.Spec PyProof.Rows L2

inductive FB where
  | nx (t : L2.St) | rt (v : V) | bk (t : L2.St) | ct (t : L2.St)
def onE (D : Ends) : FB → Hp → Prop
  | .nx t, H => D.nx t H
  | .rt v, H => D.rt v H
  | .bk t, H => D.bk t H
  | .ct t, H => D.ct t H
def relF (K : Fg) (Z m : List Addr) (H : Hp) (p : St × Fl) : FB → Prop
  | .nx t => p.2 = .nx ∧ StRel K Z m H p.1 t
  | .rt v' => ∃ v, p.2 = .rt v ∧ Rel K Z m H v v'
  | .bk t => p.2 = .bk ∧ StRel K Z m H p.1 t
  | .ct t => p.2 = .ct ∧ StRel K Z m H p.1 t
def tIS (k : KC) (C : Ctx) (w0 : XK) (st : S) : TS := fun D t H => ∃ Z m s h, SRel k.K Z m h H ∧ StRel k.K Z m H s t ∧ PostG k Z m H w0 (relF k.K Z) (evS C st s h) (onE D)
def tISs (k : KC) (C : Ctx) (w0 : XK) (st : Ss) : TS := fun D t H => ∃ Z m s h, SRel k.K Z m h H ∧ StRel k.K Z m H s t ∧ PostG k Z m H w0 (relF k.K Z) (evSs C st s h) (onE D)

theorem blk_fn {env : Env} (hk : env.scope.kind = .function) : env.blockKind = .function := by
  unfold Env.blockKind
  rw [hk]
  rfl
theorem no_swap {c : CC} {e : E} {v : Expr} (h : chkE c e v = true) (hl : isLc v = false) (t : Option Expr) (l : Nat) (env : Env) : swapsWith v t l env = pure false := by
  cases v <;> first | rfl | (simp [isLc] at hl; done) | (cases e <;> simp [chkE] at h)
theorem no_swapT {c : CC} {e : E} {v : Expr} (h : chkE c e v = true) (tg : Expr) (hn : ∀ n p, tg ≠ .Name n p) (l : Nat) (env : Env) : swapsWithSole [tg] v l env = pure false := by
  by_cases hl : isLc v = false
  · exact no_swap h hl _ _ _
  · cases v <;> (try (simp [isLc] at hl; done))
    cases tg <;> first | rfl | exact absurd rfl (hn _ _)

def nmOf (env : Env) (line : Nat) : Expr → Option Str
  | .Name id pos => if env.kindOf id == some .local && pos.line == line then some id else none
  | _ => none
theorem nm_le (env : Env) (line : Nat) : ∀ ts : List Expr, (ts.filterMap (nmOf env line)).length ≤ ts.length := fun ts => List.length_filterMap_le _ _
theorem nm_sub {c : CC} {env : Env} (hs : c.sc = env.scope) (line : Nat) : ∀ {ts : List Expr}, (hasSub ts || hasCell c ts) = true → (ts.filterMap (nmOf env line)).length ≠ ts.length
  | [], h => by simp [hasSub, hasCell] at h
  | t :: r, h => by
    have hle := nm_le env line r
    cases hn : nmOf env line t with
    | none =>
      rw [List.filterMap_cons_none hn, List.length_cons]
      omega
    | some y =>
      rw [List.filterMap_cons_some hn, List.length_cons, List.length_cons]
      have : (hasSub r || hasCell c r) = true := by
        cases t <;> (try (simp [nmOf] at hn; done))
        rename_i id pos
        simp only [hasSub, hasCell, Bool.or_eq_true, decide_eq_true_eq] at h ⊢
        simp only [nmOf] at hn
        split at hn
        · rename_i hq
          simp only [Bool.and_eq_true, beq_iff_eq] at hq
          have hk : env.scope.names.lookup id = some .local := hq.1
          rcases h with h | h | h
          · exact .inl h
          · rw [hs, hk] at h; cases h
          · exact .inr h
        · cases hn
      have ih := nm_sub hs line this
      omega
theorem no_stores {c : CC} {X : Cx} (hs : c.sc = X.env.scope) {ts : List Expr} {v : Expr} {j : Nat} {p : Pos} (h : (!(isTup v) || hasSub ts || hasCell c ts) = true) : swappedStores [.Tuple ts j p] v X.env = pure none := by
  cases v <;> (try rfl)
  rename_i vs j2 p2
  have h' : (hasSub ts || hasCell c ts) = true := by simpa [isTup] using h
  have q := nm_sub hs ((ts.head?.map (·.pos.line)).getD 0) h'
  unfold swappedStores
  simp only
  split
  · rfl
  · split
    · rfl
    · rw [if_pos]
      simp only [Bool.or_eq_true, bne_iff_ne]
      left
      exact q
theorem tgt_one (tg : Expr) (env : Env) (h : ∀ e p, tg ≠ .Starred e p) : (assignEach [tg] env).map (·.2) = [assign tg env] := by
  cases tg <;> first | rfl | exact absurd rfl (h _ _)

section
variable {k : KC} {CX : CXT} {C : Ctx}
theorem on_nx {Z m : List Addr} {H : Hp} {h : AH} {w0 : XK} {s : St} {t : L2.St} {D : Ends} (S : SRel k.K Z m h H) (St : StRel k.K Z m H s t) (p : PostG k Z m H w0 (relF k.K Z) (.ok (s, .nx) h) (onE D)) : D.nx t H := p m H (.nx t) (Ext.refl S) S ⟨rfl, St⟩

/-- an assignment: the value, then the target -/
theorem asg_read {w0 : XK} {g : Tg} {e : E} {D : Ends} {t : L2.St} {H : Hp} (p : tIS k C w0 (.asg g e) D t H) : tAsg (tI k C w0 e) (tIG k C w0 g) D t H := by
  obtain ⟨Z, m, s, h, S, St, p⟩ := p
  refine ⟨Z, m, s, h, S, St, (PostG.bind p).mono fun x' H1 ⟨m1, x, h1, e1, S1, r1, p1⟩ => ?_⟩
  refine ⟨Z, m1, s, h1, x, S1, St.ext e1, r1, (PostG.bind p1).mono fun t2 H2 ⟨m2, s2, h2, e2, S2, r2, p2⟩ => ?_⟩
  exact on_nx S2 r2.1 p2
/-- .. a name -/
theorem asg_name {w0 : XK} {i : Nat} {e : E} {D : Ends} {t : L2.St} {H : Hp} (p : tIS k C w0 (.asg (.name i) e) D t H) : tAsg (tI k C w0 e) (gName i) D t H := by
  obtain ⟨Z, m, s, h, S, St, p⟩ := p
  refine ⟨Z, m, s, h, S, St, (PostG.bind p).mono fun x' H1 ⟨m1, x, h1, e1, S1, r1, p1⟩ => ?_⟩
  simp only [evG, R.bind_ok] at p1
  exact on_nx S1 ((St.ext e1).set i r1) p1

theorem lc_parts {c : CC} {X : Cx} {w0 : XK} (G : Good k CX w0 C c X) {fl : Bool} {own : List Nat} {tg : Tg} {it : It} {d : Eo} {elt : E} {el : Expr} {gs : List Comprehension} {scope : Scope} {pos : Pos} (hx : chkE c (.lc fl own tg it d elt) (.ListComp el gs scope pos) = true)
    {i : Nat} {y : Str} {py spos : Pos} (hy : X.N[i]? = some y) (hyl : X.env.scope.names.lookup y = some .local) (hsw : swapsWith (.ListComp el gs scope pos) (some (.Name y py)) spos.line X.env = pure true) :
    PS X (.Assign [.Name y py] (.ListComp el gs scope pos) spos) (tAsg (tI k C w0 (.lc fl own tg it d elt)) (gName i)) := by
  simp only [chkE, Bool.false_eq_true] at hx
  rcases gs with _ | ⟨g, _ | ⟨g2, gs⟩⟩ <;> (try simp only [Bool.false_eq_true, Bool.and_eq_true, decide_eq_true_eq] at hx)
  obtain ⟨⟨⟨⟨⟨⟨h1, h2⟩, h3⟩, h4⟩, h5⟩, h6⟩, h7⟩ := hx
  obtain ⟨gt, gi, gf, ga⟩ := g
  simp only at h1 h3 h4 h5 h6 h7
  subst h1
  have ok : BlkOk X.N X.env.scope scope (ownOf c.N own) := by
    rw [← G.N, ← G.sc]
    exact blkOk_by h3
  have eo : (ownOf c.N own).map (·.2) = own := by
    unfold ownOf
    rw [List.map_map]
    exact List.map_id' own
  have hf := sI it G gt gi h4
  have q := ps_setLc (X := X) (spos := spos) G.calm G.nd hy hyl hsw hf.1 ok (fun s H C' cl fp => sG tg (G.blk ok.kind s H C' cl fp) gt h5) (fun s H C' cl fp => sC d (G.blk ok.kind s H C' cl fp) gf h6) (fun s H C' cl fp => sE elt (G.blk ok.kind s H C' cl fp) el h7) (hf.2 X.env)
  rw [eo] at q
  exact PS.mono q fun D t H p => lc_read h2 t H _ p

theorem lc2_parts {c : CC} {X : Cx} {w0 : XK} (G : Good k CX w0 C c X) {fl : Bool} {own : List Nat} {tg : Tg} {it : It} {d : Eo} {tg1 : Tg} {it1 : It} {d1 : Eo} {elt : E} {el : Expr} {gs : List Comprehension} {scope : Scope} {pos : Pos} (hx : chkE c (.lc2 fl own tg it d tg1 it1 d1 elt) (.ListComp el gs scope pos) = true)
    {i : Nat} {y : Str} {py spos : Pos} (hy : X.N[i]? = some y) (hyl : X.env.scope.names.lookup y = some .local) (hsw : swapsWith (.ListComp el gs scope pos) (some (.Name y py)) spos.line X.env = pure true) :
    PS X (.Assign [.Name y py] (.ListComp el gs scope pos) spos) (tAsg (tI k C w0 (.lc2 fl own tg it d tg1 it1 d1 elt)) (gName i)) := by
  simp only [chkE, Bool.false_eq_true] at hx
  rcases gs with _ | ⟨g, _ | ⟨g1, _ | ⟨g2, gs⟩⟩⟩ <;> (try simp only [Bool.false_eq_true, Bool.and_eq_true, decide_eq_true_eq] at hx)
  obtain ⟨⟨⟨⟨⟨⟨⟨⟨⟨⟨h1, k1⟩, h2⟩, h3⟩, h4⟩, h5⟩, h6⟩, h7⟩, h8⟩, h9⟩, h10⟩ := hx
  obtain ⟨gt, gi, gf, ga⟩ := g
  obtain ⟨gt1, gi1, gf1, ga1⟩ := g1
  simp only at h1 k1 h3 h4 h5 h6 h7 h8 h9 h10
  subst h1 k1
  have ok : BlkOk X.N X.env.scope scope (ownOf c.N own) := by
    rw [← G.N, ← G.sc]
    exact blkOk_by h3
  have eo : (ownOf c.N own).map (·.2) = own := by
    unfold ownOf
    rw [List.map_map]
    exact List.map_id' own
  have hf := sI it G gt gi h4
  have q := ps_setLc2 (X := X) (spos := spos) (vs1 := tgSlots tg1) G.calm G.nd hy hyl hsw hf.1 ok (fun i hi => by rw [eo, h2]; exact List.mem_append_right _ hi) (fun s H C' cl fp => sG tg (G.blk ok.kind s H C' cl fp) gt h5) (fun s H C' cl fp => sC d (G.blk ok.kind s H C' cl fp) gf h6)
    (fun s H C' cl fp => (sI it1 (G.blk ok.kind s H C' cl fp) gt1 gi1 h7).1) (fun s H C' cl fp => sG tg1 (G.blk ok.kind s H C' cl fp) gt1 h8) (fun s H C' cl fp => sC d1 (G.blk ok.kind s H C' cl fp) gf1 h9) (fun s H C' cl fp => sE elt (G.blk ok.kind s H C' cl fp) el h10) (hf.2 X.env) (fun env x => chkI_fold h7 env x)
  rw [eo] at q
  exact PS.mono q fun D t H p => lc2_read h2 t H _ p

theorem swapLc {el : Expr} {gs : List Comprehension} {scope : Scope} {pos py : Pos} {y : Str} {l : Nat} {env : Env} (hk : env.scope.kind = .function) :
    (swapsWith (.ListComp el gs scope pos) (some (.Name y py)) l env = pure true ∧ env.scope.names.lookup y = some .local) ∨ swapsWith (.ListComp el gs scope pos) (some (.Name y py)) l env = pure false := by
  have e : swapsWith (.ListComp el gs scope pos) (some (.Name y py)) l env = pure (env.blockKind == .function && env.kindOf y == some .local && py.line == pos.line && !(scope.names.any fun (n, k) => n == y && (k == .local || k == .cell))) := rfl
  cases hb : (env.blockKind == .function && env.kindOf y == some .local && py.line == pos.line && !(scope.names.any fun (n, k) => n == y && (k == .local || k == .cell))) with
  | true =>
    refine .inl ⟨by rw [e, hb], ?_⟩
    simp only [Bool.and_eq_true, beq_iff_eq] at hb
    exact hb.1.1.2
  | false => exact .inr (by rw [e, hb])

theorem pe_of_lc {c : CC} {e : E} {v : Expr} (h : chkE c e v = true) (hl : isLc v = true) : (∃ fl own tg it d elt, e = .lc fl own tg it d elt) ∨ ∃ fl own tg it d tg1 it1 d1 elt, e = .lc2 fl own tg it d tg1 it1 d1 elt := by
  cases v <;> simp [isLc] at hl
  cases e <;> simp [chkE] at h
  · exact .inl ⟨_, _, _, _, _, _, rfl⟩
  · exact .inr ⟨_, _, _, _, _, _, _, _, _, rfl⟩

theorem s_asg {X : Cx} {c : CC} {w0 : XK} (G : Good k CX w0 C c X) (g : Tg) (e : E) (x : Stmt) (hx : chkS c (.asg g e) x = true) : PS X x (tIS k C w0 (.asg g e)) := by
  cases x <;> simp only [chkS, Bool.false_eq_true] at hx
  rename_i tgs v pos
  rcases tgs with _ | ⟨tg, _ | ⟨tg2, tgs⟩⟩ <;> (try simp only [Bool.false_eq_true, Bool.and_eq_true] at hx)
  obtain ⟨⟨h1, h2⟩, h3⟩ := hx
  have he := sE e G v h2
  have hg := sG g G tg h1
  cases tg <;> (try (cases g <;> simp [chkG] at h1; done))
  case Name n np =>
    cases g <;> simp only [chkG, Bool.false_eq_true, Bool.and_eq_true, decide_eq_true_eq] at h1
    rename_i i
    obtain ⟨h1, h4⟩ := h1
    rw [G.N] at h1
    obtain ⟨l1, l2⟩ := G.fn n h4
    by_cases hl : isLc v = true
    · have ee := pe_of_lc h2 hl
      cases v <;> (try (simp [isLc] at hl; done))
      rename_i el gs scope lp
      rcases swapLc (el := el) (gs := gs) (scope := scope) (pos := lp) (py := np) (y := n) (l := pos.line) G.kind with ⟨sw, yl⟩ | sw
      · rcases ee with ⟨fl, own, tg, it, d, elt, rfl⟩ | ⟨fl, own, tg, it, d, tg1, it1, d1, elt, rfl⟩
        · exact PS.mono (lc_parts G h2 h1 yl sw) fun D t H p => asg_name p
        · exact PS.mono (lc2_parts G h2 h1 yl sw) fun D t H p => asg_name p
      · exact PS.mono (ps_set (i := i) G.nd h1 l1 he sw l2) fun D t H p => asg_name p
    · exact PS.mono (ps_set (i := i) G.nd h1 l1 he (no_swap h2 (by simpa using hl) _ _ _) l2) fun D t H p => asg_name p
  case Tuple ts j tp =>
    exact PS.mono (ps_asg he hg (no_swapT h2 _ (fun _ _ z => by cases z) _ _) (no_stores G.sc (by simpa using h3)) (tgt_one _ _ (fun _ _ z => by cases z))) fun D t H p => asg_read p
  case Subscript o i sp =>
    exact PS.mono (ps_asg he hg (no_swapT h2 _ (fun _ _ z => by cases z) _ _) rfl (tgt_one _ _ (fun _ _ z => by cases z))) fun D t H p => asg_read p

theorem chkA_noStar {c : CC} : ∀ {es : Es} {xs : List Expr}, chkA c es xs = true → (xs.any fun | .Starred .. => true | _ => false) = false
  | .nil, [], _ => rfl
  | .nil, _ :: _, h => by simp [chkA] at h
  | .cons e r, [], h => by simp [chkA] at h
  | .cons e r, x :: xs, h => by
    simp only [chkA, Bool.and_eq_true] at h
    rw [List.any_cons, chkA_noStar h.2, Bool.or_false]
    have := h.1
    cases x <;> first | rfl | (cases e <;> simp [chkE] at this)

theorem locNames_of {c : CC} {env : Env} (hs : c.sc = env.scope) (line : Nat) : ∀ {ts : List Expr} {ns : List Str}, locNames c line ts = some ns → ts.filterMap (nmOf env line) = ns ∧ ns.length = ts.length ∧ ∀ n ∈ ns, env.scope.names.lookup n = some .local
  | [], ns, h => by
    simp only [locNames, Option.some.injEq] at h
    subst h
    exact ⟨rfl, rfl, fun n hn => by simp at hn⟩
  | t :: r, ns, h => by
    cases t <;> simp only [locNames, reduceCtorEq] at h
    rename_i n p
    split at h
    · rename_i hq
      obtain ⟨ns', h1, h2⟩ := Option.map_eq_some_iff.mp h
      subst h2
      obtain ⟨i1, i2, i3⟩ := locNames_of hs line h1
      rw [hs] at hq
      have hn : nmOf env line (.Name n p) = some n := by
        simp only [nmOf]
        rw [if_pos]
        simp only [Bool.and_eq_true, beq_iff_eq]
        exact ⟨hq.1, hq.2⟩
      refine ⟨by rw [List.filterMap_cons_some hn, i1], by rw [List.length_cons, List.length_cons, i2], fun m hm => ?_⟩
      rcases List.mem_cons.mp hm with e | hm
      · rw [e]; exact hq.1
      · exact i3 m hm
    · cases h

theorem loc_cons {c : CC} {l : Nat} {t : Expr} {r : List Expr} {ns : List Str} (h : locNames c l (t :: r) = some ns) : ∃ n p ns', t = .Name n p ∧ ns = n :: ns' ∧ locNames c l r = some ns' := by
  cases t <;> simp only [locNames, reduceCtorEq] at h
  rename_i n p
  split at h
  · obtain ⟨ns', h1, h2⟩ := Option.map_eq_some_iff.mp h
    exact ⟨n, p, ns', rfl, h2.symm, h1⟩
  · cases h
theorem loc_nil {c : CC} {l : Nat} {ns : List Str} (h : locNames c l [] = some ns) : ns = [] := by
  simp only [locNames, Option.some.injEq] at h
  exact h.symm

theorem line_of (ts : List Expr) (ns : List Str) {c : CC} {l : Nat} (h : locNames c l ts = some ns) : (ts.head?.map (·.pos.line)).getD 0 = lineOf ts := by
  cases ts with
  | nil => rfl
  | cons t r => cases t <;> first | rfl | (simp [locNames] at h; done)

theorem eraseDups_nodup : ∀ {ns : List Str}, ns.Nodup → ns.eraseDups = ns
  | [], _ => rfl
  | n :: r, h => by
    obtain ⟨h1, h2⟩ := List.nodup_cons.mp h
    rw [List.eraseDups_cons]
    have : r.filter (fun b => !b == n) = r := by
      rw [List.filter_eq_self]
      intro b hb
      have hne : b ≠ n := fun e => h1 (e ▸ hb)
      simpa using hne
    rw [this, eraseDups_nodup h2]

theorem stores_some {c : CC} {X : Cx} {w0 : XK} (G : Good k CX w0 C c X) {es : Es} {ts vs : List Expr} {ns : List Str} {j j2 : Nat} {p p2 : Pos} (h1 : locNames c (lineOf ts) ts = some ns) (hn : ns.Nodup) (hl : ts.length = 2 ∨ ts.length = 3) (hv : vs.length = ts.length)
    (hf : vs.all (foldedForSure 8) = false) (hc : vs.all (constantsAlone 8) = false) (he : chkA c es vs = true) : swappedStores [.Tuple ts j p] (.Tuple vs j2 p2) X.env = pure (some ns) := by
  obtain ⟨q1, q2, q3⟩ := locNames_of G.sc _ h1
  have ql := line_of ts ns h1
  unfold swappedStores
  simp only
  rw [if_neg, if_neg, if_neg, if_neg, if_neg]
  · rw [ql]
    show pure (some (ts.filterMap (nmOf X.env (lineOf ts)))) = _
    rw [q1]
  · rw [hc]; decide
  · rw [hf]; decide
  · rw [ql]
    show ¬ (((ts.filterMap (nmOf X.env (lineOf ts))).length != ts.length || (ts.filterMap (nmOf X.env (lineOf ts))).eraseDups.length != (ts.filterMap (nmOf X.env (lineOf ts))).length) = true)
    rw [q1, eraseDups_nodup hn, q2]
    simp
  · have := chkA_noStar he
    exact fun z => Bool.noConfusion (show false = true from this.symm.trans z)
  · rw [hv, blk_fn G.kind]
    rcases hl with e | e <;> rw [e] <;> decide

theorem s_par {X : Cx} {c : CC} {w0 : XK} (G : Good k CX w0 C c X) (ix : List Nat) (es : Es) (x : Stmt) (hx : chkS c (.par ix es) x = true) : PS X x (tIS k C w0 (.par ix es)) := by
  cases x <;> simp only [chkS, Bool.false_eq_true] at hx
  rename_i tgs v pos
  rcases tgs with _ | ⟨tg, _ | ⟨tg2, tgs⟩⟩ <;> (try simp only [Bool.false_eq_true] at hx)
  cases tg <;> (try simp only [Bool.false_eq_true] at hx)
  cases v <;> (try simp only [Bool.false_eq_true, Bool.and_eq_true, decide_eq_true_eq, Bool.not_eq_true'] at hx)
  rename_i ts j p vs j2 p2
  obtain ⟨⟨⟨⟨⟨h1, h2⟩, h3⟩, h4⟩, h5⟩, h6⟩ := hx
  split at h1
  · rename_i ns hns
    simp only [Bool.and_eq_true, decide_eq_true_eq] at h1
    obtain ⟨⟨i1, i2⟩, i3⟩ := h1
    have hw := stores_some G (j := j) (j2 := j2) (p := p) (p2 := p2) hns i2 h2 h3 h4 h5 h6
    obtain ⟨q1, q2, q3⟩ := locNames_of G.sc _ hns
    have ha := sA es G vs h6
    rcases h2 with h2 | h2
    · rcases ts with _ | ⟨t1, _ | ⟨t2, _ | ⟨t3, ts⟩⟩⟩ <;> (try (simp at h2; done))
      rcases vs with _ | ⟨v1, _ | ⟨v2, _ | ⟨v3, vs⟩⟩⟩ <;> (try (simp at h3; done))
      generalize hL : lineOf [t1, t2] = L at hns
      obtain ⟨x1, px, n1, rfl, rfl, hn1⟩ := loc_cons hns
      obtain ⟨x2, py, n2, rfl, rfl, hn2⟩ := loc_cons hn1
      have := loc_nil hn2
      subst this
      rcases ix with _ | ⟨a1, _ | ⟨a2, _ | ⟨a3, ix⟩⟩⟩ <;> (try (simp [indexNames] at i1; done))
      simp only [indexNames, Bool.and_eq_true, decide_eq_true_eq, Bool.and_true] at i1
      rw [G.N] at i1
      have hne : a1 ≠ a2 := by
        intro e
        simp [e] at i3
      refine PS.mono (ps_par G.calm G.nd i1.1 i1.2 hne (q3 x1 (by simp)) (q3 x2 (by simp)) ha hw) fun D t H ⟨Z, m, s, h, S, St, p⟩ => ?_
      refine ⟨Z, m, s, h, S, St, (PostG.bind p).mono fun us H1 ⟨m1, xs, g1, e1, S1, r1, p1⟩ => ?_⟩
      rcases xs with _ | ⟨y1, _ | ⟨y2, _ | ⟨y3, xs⟩⟩⟩ <;> (try (simp only [setAll] at p1; exact p1.elim))
      obtain ⟨w1, t1, rfl, r2, w2, t2, rfl, r3, r4⟩ := r1
      have r4' : t2 = [] := r4
      subst r4'
      simp only [setAll] at p1
      exact ⟨w1, w2, rfl, on_nx S1 (((St.ext e1).set a1 r2).set a2 r3) p1⟩
    · rcases ts with _ | ⟨t1, _ | ⟨t2, _ | ⟨t3, _ | ⟨t4, ts⟩⟩⟩⟩ <;> (try (simp at h2; done))
      rcases vs with _ | ⟨v1, _ | ⟨v2, _ | ⟨v3, _ | ⟨v4, vs⟩⟩⟩⟩ <;> (try (simp at h3; done))
      generalize hL : lineOf [t1, t2, t3] = L at hns
      obtain ⟨x1, px, n1, rfl, rfl, hn1⟩ := loc_cons hns
      obtain ⟨x2, py, n2, rfl, rfl, hn2⟩ := loc_cons hn1
      obtain ⟨x3, pz, n3, rfl, rfl, hn3⟩ := loc_cons hn2
      have := loc_nil hn3
      subst this
      rcases ix with _ | ⟨a1, _ | ⟨a2, _ | ⟨a3, _ | ⟨a4, ix⟩⟩⟩⟩ <;> (try (simp [indexNames] at i1; done))
      simp only [indexNames, Bool.and_eq_true, decide_eq_true_eq, Bool.and_true] at i1
      rw [G.N] at i1
      simp only [List.nodup_cons, List.mem_cons, List.not_mem_nil, or_false, not_or, not_false_eq_true, List.nodup_nil, and_true] at i3
      refine PS.mono (ps_par3 G.calm G.nd i1.1 i1.2.1 i1.2.2 i3.1.1 i3.1.2 i3.2 (q3 x1 (by simp)) (q3 x2 (by simp)) (q3 x3 (by simp)) ha hw) fun D t H ⟨Z, m, s, h, S, St, p⟩ => ?_
      refine ⟨Z, m, s, h, S, St, (PostG.bind p).mono fun us H1 ⟨m1, xs, g1, e1, S1, r1, p1⟩ => ?_⟩
      rcases xs with _ | ⟨y1, _ | ⟨y2, _ | ⟨y3, _ | ⟨y4, xs⟩⟩⟩⟩ <;> (try (simp only [setAll] at p1; exact p1.elim))
      obtain ⟨w1, t1, rfl, r2, w2, t2, rfl, r3, w3, t3, rfl, r4, r5⟩ := r1
      have r5' : t3 = [] := r5
      subst r5'
      simp only [setAll] at p1
      exact ⟨w1, w2, w3, rfl, on_nx S1 ((((St.ext e1).set a1 r2).set a2 r3).set a3 r4) p1⟩
  · cases h1

theorem s_aug {X : Cx} {c : CC} {w0 : XK} (G : Good k CX w0 C c X) (i : Nat) (op : Operator) (e : E) (x : Stmt) (hx : chkS c (.aug i op e) x = true) : PS X x (tIS k C w0 (.aug i op e)) := by
  cases x <;> simp only [chkS, Bool.false_eq_true] at hx
  rename_i tg o v pos
  cases tg <;> (try simp only [Bool.false_eq_true, Bool.and_eq_true, decide_eq_true_eq, Bool.or_eq_true] at hx)
  rename_i n np
  obtain ⟨⟨⟨⟨h0, h1⟩, h2⟩, h3⟩, h4⟩ := hx
  subst h1
  rw [G.N] at h2
  obtain ⟨l1, l2⟩ := G.fn n h3
  have he := sE e G v h4
  rcases h0 with ho | ho
  · subst ho
    refine PS.mono (ps_aug G.nd h2 l1 he ip_add l2) fun D t H ⟨Z, m, s, h, S, St, p⟩ => ?_
    simp only [evS, getV] at p
    split at p
    · rename_i a ha
      obtain ⟨a', q1, q2⟩ := St.2 i a ha
      simp only [R.bind_ok] at p
      refine ⟨a', q1, Z, m, s, h, S, St, (PostG.bind p).mono fun y' H1 ⟨m1, y, h1, e1, S1, r1, p1⟩ => ?_⟩
      cases a <;> cases y <;> (try simp only at p1) <;> (try exact p1.elim)
      exact ⟨_, _, q2, r1, on_nx S1 ((St.ext e1).set i (show Rel k.K Z m1 H1 (.int _) (.int _) from rfl)) p1⟩
    · exact p.elim
  · subst ho
    refine PS.mono (ps_aug G.nd h2 l1 he ip_sub l2) fun D t H ⟨Z, m, s, h, S, St, p⟩ => ?_
    simp only [evS, getV] at p
    split at p
    · rename_i a ha
      obtain ⟨a', q1, q2⟩ := St.2 i a ha
      simp only [R.bind_ok] at p
      refine ⟨a', q1, Z, m, s, h, S, St, (PostG.bind p).mono fun y' H1 ⟨m1, y, h1, e1, S1, r1, p1⟩ => ?_⟩
      cases a <;> cases y <;> (try simp only at p1) <;> (try exact p1.elim)
      exact ⟨_, _, q2, r1, on_nx S1 ((St.ext e1).set i (show Rel k.K Z m1 H1 (.int _) (.int _) from rfl)) p1⟩
    · exact p.elim

theorem for_read {w0 : XK} {tg : Tg} {it : It} {body : Ss} {D : Ends} {t : L2.St} {H : Hp} (p : tIS k C w0 (.for_ tg it body) D t H) : tFor (tII k C w0 it) (tIG k C w0 tg) (tISs k C w0 body) D t H := by
  obtain ⟨Z, m, s, h, S, St, p⟩ := p
  simp only [evS] at p
  refine ⟨Z, m, s, h, S, St, (PostG.bind p).mono fun J H1 ⟨m1, src, h1, e1, S1, ad, p1⟩ => ?_⟩
  refine ⟨fun i f t' H' => ∃ m' s' h', Ext m1 H1 m' H' ∧ SRel k.K Z m' h' H' ∧ StRel k.K Z m' H' s' t' ∧ PostG k Z m' H' w0 (relF k.K Z) (forGo (fun x s h => evG C tg x s h) (fun s h => evSs C body s h) src f i s' h') (onE D),
    ⟨loopL, m1, s, h1, Ext.refl S1, S1, St.ext e1, p1⟩, ?_⟩
  rintro i f t' H' ⟨m', s', h', ex, S', St', p2⟩
  cases f with
  | zero => simp only [forGo] at p2; exact p2.elim
  | succ f =>
    obtain ⟨a1, a2⟩ := ad Z m' H' h' ZOk.refl ex.toZ S' i
    simp only [forGo] at p2
    cases hs : src.at i h' with
    | none => rw [hs] at p2; exact p2.elim
    | some o =>
      cases o with
      | none =>
        rw [hs] at p2
        exact .inl ⟨a1 hs, on_nx S' St' p2⟩
      | some x =>
        rw [hs] at p2
        simp only at p2
        obtain ⟨go, yl⟩ := a2 x hs
        refine .inr ⟨go, fun t3 H3 => ∃ m' s' h', Ext m1 H1 m' H3 ∧ SRel k.K Z m' h' H3 ∧ StRel k.K Z m' H3 s' t3 ∧ PostG k Z m' H3 w0 (relF k.K Z) (forGo (fun x s h => evG C tg x s h) (fun s h => evSs C body s h) src f (i + 1) s' h') (onE D), fun t3 H3 q => ⟨f, Nat.lt_succ_self _, q⟩, fun x' H2 hy => ?_⟩
        obtain ⟨e2, S2, r2⟩ := yl x' H2 hy
        refine ⟨Z, m', s', h', x, S2, St'.ext e2, r2, (PostG.bind (PostG.ext p2 e2)).mono fun t4 H4 ⟨m4, s4, h4, e4, S4, r4, p4⟩ => ?_⟩
        refine ⟨Z, m4, s4, h4, S4, r4.1, (PostG.bind p4).mono fun b H5 ⟨m5, pr, h5, e5, S5, r5, p5⟩ => ?_⟩
        have ex5 := ((ex.trans e2).trans e4).trans e5
        cases b with
        | nx t5 =>
          rw [r5.1] at p5
          exact ⟨m5, _, h5, ex5, S5, r5.2, p5⟩
        | ct t5 =>
          rw [r5.1] at p5
          exact ⟨m5, _, h5, ex5, S5, r5.2, p5⟩
        | bk t5 =>
          rw [r5.1] at p5
          exact on_nx S5 r5.2 p5
        | rt v' =>
          obtain ⟨v, q1, q2⟩ := r5
          rw [q1] at p5
          exact p5 m5 H5 (.rt v') (Ext.refl S5) S5 ⟨v, rfl, q2⟩

theorem while_read {w0 : XK} {c : E} {body : Ss} {D : Ends} {t : L2.St} {H : Hp} (p : tIS k C w0 (.while_ c body) D t H) : tWhile (tTI k C w0 c) (tISs k C w0 body) D t H := by
  obtain ⟨Z, m, s, h, S, St, p⟩ := p
  simp only [evS] at p
  refine ⟨fun f t' H' => ∃ Z m' s' h', SRel k.K Z m' h' H' ∧ StRel k.K Z m' H' s' t' ∧ PostG k Z m' H' w0 (relF k.K Z) (whileGo (fun s h => evE C s c h) (fun s h => evSs C body s h) f s' h') (onE D),
    ⟨loopL, Z, m, s, h, S, St, p⟩, ?_⟩
  rintro f t' H' ⟨Z, m', s', h', S', St', p2⟩
  cases f with
  | zero => simp only [whileGo] at p2; exact p2.elim
  | succ f =>
    simp only [whileGo] at p2
    refine ⟨Z, m', s', h', S', St', (PostG.bind p2).mono fun b' H2 ⟨m2, b, h2, e2, S2, r2, p3⟩ => ?_⟩
    cases b <;> (try simp only at p3) <;> (try exact p3.elim)
    rename_i kb
    refine ⟨kb, r2, ?_⟩
    cases kb with
    | false => exact iteF (on_nx S2 (St'.ext e2) p3)
    | true =>
      refine iteT ⟨fun t3 H3 => ∃ Z m' s' h', SRel k.K Z m' h' H3 ∧ StRel k.K Z m' H3 s' t3 ∧ PostG k Z m' H3 w0 (relF k.K Z) (whileGo (fun s h => evE C s c h) (fun s h => evSs C body s h) f s' h') (onE D), fun t3 H3 q => ⟨f, Nat.lt_succ_self _, q⟩, ?_⟩
      refine ⟨Z, m2, s', h2, S2, St'.ext e2, (PostG.bind p3).mono fun b H5 ⟨m5, pr, h5, e5, S5, r5, p5⟩ => ?_⟩
      cases b with
      | nx t5 =>
        rw [r5.1] at p5
        exact ⟨Z, m5, _, h5, S5, r5.2, p5⟩
      | ct t5 =>
        rw [r5.1] at p5
        exact ⟨Z, m5, _, h5, S5, r5.2, p5⟩
      | bk t5 =>
        rw [r5.1] at p5
        exact on_nx S5 r5.2 p5
      | rt v' =>
        obtain ⟨v, q1, q2⟩ := r5
        rw [q1] at p5
        exact p5 m5 H5 (.rt v') (Ext.refl S5) S5 ⟨v, rfl, q2⟩

mutual
theorem sS {X : Cx} {c : CC} {w0 : XK} (G : Good k CX w0 C c X) : ∀ (st : S) (x : Stmt), chkS c st x = true → PS X x (tIS k C w0 st)
  | .asg g e, x, hx => s_asg G g e x hx
  | .par ix es, x, hx => s_par G ix es x hx
  | .aug i op e, x, hx => s_aug G i op e x hx
  | .expr e, x, hx => by
    cases x <;> simp only [chkS, Bool.false_eq_true, Bool.and_eq_true, Bool.not_eq_true'] at hx
    refine PS.mono (ps_expr (sE e G _ hx.1) (no_swap hx.1 hx.2 _ _ _)) fun D t H ⟨Z, m, s, h, S, St, p⟩ => ?_
    refine ⟨Z, m, s, h, S, St, (PostG.bind p).mono fun x' H1 ⟨m1, x, h1, e1, S1, r1, p1⟩ => ?_⟩
    exact on_nx S1 (St.ext e1) p1
  | .ret e, x, hx => by
    cases x <;> simp only [chkS, Bool.false_eq_true] at hx
    rename_i o pos
    cases o <;> (try simp only [Bool.false_eq_true] at hx)
    refine PS.mono (ps_ret (sE e G _ hx)) fun D t H ⟨Z, m, s, h, S, St, p⟩ => ?_
    refine ⟨Z, m, s, h, S, St, (PostG.bind p).mono fun x' H1 ⟨m1, x, h1, e1, S1, r1, p1⟩ => ?_⟩
    exact p1 m1 H1 (.rt x') (Ext.refl S1) S1 ⟨x, rfl, r1⟩
  | .ifs d a b, x, hx => by
    cases x <;> simp only [chkS, Bool.false_eq_true, Bool.and_eq_true] at hx
    refine PS.mono (ps_if (sT d G _ hx.1.1).1 (sSs G a _ hx.1.2) (sSs G b _ hx.2)) fun D t H ⟨Z, m, s, h, S, St, p⟩ => ?_
    refine ⟨Z, m, s, h, S, St, (PostG.bind p).mono fun x' H1 ⟨m1, x, h1, e1, S1, r1, p1⟩ => ?_⟩
    cases x <;> (try simp only at p1) <;> (try exact p1.elim)
    rename_i kb
    refine ⟨kb, r1, ?_⟩
    cases kb with
    | true => exact iteT ⟨Z, m1, s, h1, S1, St.ext e1, p1⟩
    | false => exact iteF ⟨Z, m1, s, h1, S1, St.ext e1, p1⟩
  | .for_ tg it body, x, hx => by
    cases x <;> simp only [chkS, Bool.false_eq_true] at hx
    rename_i gt gi gb go pos
    cases go <;> (try simp only [Bool.false_eq_true, Bool.and_eq_true] at hx)
    have hi := sI it G gt gi hx.1.1
    exact PS.mono (ps_for G.own G.calm hi.1 (sG tg G gt hx.1.2) (sSs G body gb hx.2) (hi.2 X.env)) fun D t H p => for_read p
  | .while_ d body, x, hx => by
    cases x <;> simp only [chkS, Bool.false_eq_true] at hx
    rename_i u gb go pos
    cases go <;> (try simp only [Bool.false_eq_true, Bool.and_eq_true] at hx)
    exact PS.mono (ps_while G.own (sT d G u hx.1).1 (sSs G body gb hx.2)) fun D t H p => while_read p
  | .pass, x, hx => by
    cases x <;> simp only [chkS, Bool.false_eq_true] at hx
    exact PS.mono ps_pass fun D t H ⟨Z, m, s, h, S, St, p⟩ => on_nx S St p
  | .brk, x, hx => by
    cases x <;> simp only [chkS, Bool.false_eq_true] at hx
    exact PS.mono ps_break fun D t H ⟨Z, m, s, h, S, St, p⟩ => p m H (.bk t) (Ext.refl S) S ⟨rfl, St⟩
  | .cont, x, hx => by
    cases x <;> simp only [chkS, Bool.false_eq_true] at hx
    exact PS.mono ps_continue fun D t H ⟨Z, m, s, h, S, St, p⟩ => p m H (.ct t) (Ext.refl S) S ⟨rfl, St⟩
theorem sSs {X : Cx} {c : CC} {w0 : XK} (G : Good k CX w0 C c X) : ∀ (st : Ss) (xs : List Stmt), chkSs c st xs = true → PSs X xs (tISs k C w0 st)
  | .nil, xs, hx => by
    cases xs <;> simp only [chkSs, Bool.false_eq_true] at hx
    exact PSs.mono pss_nil fun D t H ⟨Z, m, s, h, S, St, p⟩ => on_nx S St p
  | .cons st r, xs, hx => by
    cases xs <;> simp only [chkSs, Bool.false_eq_true, Bool.and_eq_true] at hx
    refine PSs.mono (pss_cons (sS G st _ hx.1) (sSs G r _ hx.2)) fun D t H ⟨Z, m, s, h, S, St, p⟩ => ?_
    refine ⟨Z, m, s, h, S, St, (PostG.bind p).mono fun b H5 ⟨m5, pr, h5, e5, S5, r5, p5⟩ => ?_⟩
    cases b with
    | nx t5 =>
      rw [r5.1] at p5
      exact ⟨Z, m5, _, h5, S5, r5.2, p5⟩
    | ct t5 =>
      rw [r5.1] at p5
      exact p5 m5 H5 (.ct t5) (Ext.refl S5) S5 ⟨rfl, r5.2⟩
    | bk t5 =>
      rw [r5.1] at p5
      exact p5 m5 H5 (.bk t5) (Ext.refl S5) S5 ⟨rfl, r5.2⟩
    | rt v' =>
      obtain ⟨v, q1, q2⟩ := r5
      rw [q1] at p5
      exact p5 m5 H5 (.rt v') (Ext.refl S5) S5 ⟨v, rfl, q2⟩
end
end
end SP
end
section
set_option maxRecDepth 100000
set_option maxHeartbeats 4000000
/-! Defs. -/
namespace SP
open PySem PySem.Spec PyProof.Rows L2

section
variable {K : Fg} {Z m r : List Addr} {H : Hp}
mutual
theorem Rel.cut : ∀ (x : AV) (v : V), below m.length x = true → Rel K Z (m ++ r) H x v → Rel K Z m H x v
  | .non, v, _, q => q
  | .bl _, v, _, q => q
  | .int _, v, _, q => q
  | .str _, v, _, q => q
  | .ty _, v, _, q => q
  | .ref n, v, b, q => by
    obtain ⟨a, e1, e2⟩ := q
    simp only [below, decide_eq_true_eq] at b
    rw [List.getElem?_append_left b] at e2
    exact ⟨a, e1, e2⟩
  | .tup xs, v, b, q => by
    obtain ⟨a, vs, e1, t, l⟩ := q
    simp only [below] at b
    refine ⟨a, vs, e1, ?_, RelL.cut xs vs b l⟩
    rcases t with ⟨h1, h2, h3⟩ | t
    · exact .inl ⟨fun z => h1 (List.mem_append_left _ z), h2, h3⟩
    · exact .inr t
  | .lst xs, v, b, q => by
    obtain ⟨a, vs, e1, t, l⟩ := q
    simp only [below] at b
    refine ⟨a, vs, e1, ?_, RelL.cut xs vs b l⟩
    rcases t with ⟨h1, h2, h3⟩ | t
    · exact .inl ⟨fun z => h1 (List.mem_append_left _ z), h2, h3⟩
    · exact .inr t
  | .dcs ks ws, v, b, q => by
    obtain ⟨a, kvs, e1, ⟨h1, h2, h3⟩, k, l⟩ := q
    simp only [below] at b
    exact ⟨a, kvs, e1, ⟨fun z => h1 (List.mem_append_left _ z), h2, h3⟩, k, RelL.cut ws _ b l⟩
theorem RelL.cut : ∀ (xs : List AV) (vs : List V), belows m.length xs = true → RelL K Z (m ++ r) H xs vs → RelL K Z m H xs vs
  | [], vs, _, q => q
  | x :: xs, vs, b, q => by
    obtain ⟨v, t, e1, r1, r2⟩ := q
    simp only [belows, Bool.and_eq_true] at b
    exact ⟨v, t, e1, Rel.cut x v b.1 r1, RelL.cut xs t b.2 r2⟩
end
end

theorem gc_read {k : KC} {Z m m1 : List Addr} {H H1 : Hp} {h h1 : AH} {w0 : XK} {g : Bool} {v : AV} {v' : V} {Q : VK} (S : SRel k.K Z m h H) (e : Ext m H m1 H1) (S1 : SRel k.K Z m1 h1 H1) (r : Rel k.K Z m1 H1 v v') (p : PostG k Z m H w0 (Rel k.K Z) (gcOf g h.length v h1) Q) : Q v' H1 := by
  unfold gcOf at p
  cases g with
  | false => exact p m1 H1 v' e S1 r
  | true =>
    rw [if_pos rfl] at p
    split at p
    · rename_i hb
      simp only [Bool.and_eq_true] at hb
      obtain ⟨b1, b2⟩ := hb
      obtain ⟨r0, e1, e2⟩ := e.app
      subst e1
      rw [← S.len] at b1 b2 p
      refine p m H1 v' ⟨⟨[], (List.append_nil m).symm, fun a z => absurd z (by simp)⟩, e.keep, e.live⟩ ⟨?_, ?_, fun n a c g1 g2 => ?_, fun a ha => ⟨fun z => (S1.zs a ha).1 (List.mem_append_left _ z), (S1.zs a ha).2⟩⟩ (Rel.cut v v' b1 r)
      · have := S1.len
        rw [List.length_append] at this
        rw [List.length_take]
        omega
      · exact (List.nodup_append.mp S1.nd).1
      · have hn : n < m.length := (List.getElem?_eq_some_iff.mp g1).1
        have g3 : h1[n]? = some c := by
          rw [List.getElem?_take_of_lt hn] at g2
          exact g2
        have q := S1.cell n a c (by rw [List.getElem?_append_left hn]; exact g1) g3
        have bc : Cell.below m.length c = true := List.all_eq_true.mp b2 c (List.mem_of_getElem? g2)
        cases c with
        | lst xs =>
          obtain ⟨vs, q1, q2⟩ := q
          exact ⟨vs, q1, RelL.cut xs vs bc q2⟩
    · exact p.elim

/-- a def of the text and what is said of it -/
structure DefOk (K : Fg) (mg : Str → Option Value) (fns globs : List Str) (d : FnD) (a : Addr) (fd : FuncData) : Prop where
  ns : mg (Str.ofString d.name) = some (.ref a)
  ex : ∃ (x qual : Str) (st : Stmt), Fun K x qual st a fd ∧ FnScope (d.N.map Str.ofString) (d.ps.map Str.ofString) (defScope st) ∧ chkSs ⟨d.N.map Str.ofString, defScope st, none, fns, globs⟩ d.body (defBody st) = true
  kp : PySem.W.keepIn K (.ref a) = true
  bi : Binds K fd (d.ps.map Str.ofString) []

section
variable {CX : CXT} {P : Program} {w : World} {K : Fg} {mg : Str → Option Value} {base : Heap}
/-- a def by its body, where no repr is under way -/
theorem fn_ofG {n : Nat} {f : Addr} {name qual : Str} {params : Arguments} {body : List Stmt} {scope : Scope} {dV kV doc pm cdv ct oc : Value} {an od : Option Addr} {osl : Array (Option Value)} {N ps : List Str} {sp : Sp}
    (lk : K.lookup f = some ⟨oc, od, .func (PySem.W.fnOf name qual params body scope dV kV doc pm an cdv ct), osl⟩) (hcd : PySem.W.codeIn K cdv qual = true) (S : FnScope N ps scope) (len : ∀ vs H Q W, sp vs H Q W → vs.length = ps.length)
    (hbody : ∀ (A : Around) (outer : List Env) (s : Shared) (H : Hp) (vs : List V) (Q : VK) (W : XK), Room n (A.deeper (envOfC qual scope s.heap.objs.size f cdv)) → A.guards = some [] → sp vs H Q W → ∃ t, PSs (cxOf CX P w K mg base N qual scope f cdv A outer s H W) body t ∧ t { nx := fun _ H' => Q .non H', rt := Q } (start N vs) H) :
    FnG P w K mg base CX (n + 1) f (PySem.W.fnOf name qual params body scope dV kV doc pm an cdv ct) ps sp := by
  refine ⟨len, fun A outer s H args us vs Q W hr hgu e0 hb rv hsp => ?_⟩
  have hlen := len _ _ _ _ hsp
  have kin : K.In s.heap := e0.mod.kin.keeps fun b o q => (e0.bs b o q).1
  have nolim : s.heap.NoLimit := e0.mod.nolimit.keeps fun b o q => (e0.bs b o q).1
  refine codeAny_call_function hr.depth (kin _ _ lk) rfl S.co S.gen rfl (PySem.W.codeRec_of kin hcd) (hb _ _ _ _ (wpAny_newFunctionEnv_cells S.kind (fun ⟨y, v⟩ hy => ?_) fun env he s1 x => ?_))
  · rcases S.par y (List.of_mem_zip hy).1 with q | q
    · exact .inl q
    · exact .inr ⟨q, PySem.W.cellsFrom_some _ _ _ (.inl q)⟩
  · subst he
    obtain ⟨t, ht, hq⟩ := hbody A outer s H vs Q W (hr.deeper _) hgu hsp
    refine ⟨nolim.keeps x.toInCall.keep, codeAny_func (wpAny_mono (ht.run [] s1 (start N vs) H _ (inv_start S hr.hd e0 hlen rv x) hq) (fun fl s' hs => ?_) fun e s' hs => hs)⟩
    cases fl with
    | ret u => exact let ⟨v, _, H', J, r, q⟩ := hs; ⟨v, H', J.os, J.bare, J.base, J.hok, r, q⟩
    | next => exact let ⟨_, H', J, q⟩ := hs; ⟨.non, H', J.os, J.bare, J.base, J.hok, rfl, q⟩
    | brk => exact let ⟨_, _, _, q⟩ := hs; q.elim
    | cont => exact let ⟨_, _, _, q⟩ := hs; q.elim

theorem start_rel {k : KC} {Z m : List Addr} {H : Hp} {N : List String} {as : List AV} {vs : List V} (r : RelL k.K Z m H as vs) : StRel k.K Z m H (as.map some ++ List.replicate (N.length - as.length) none) (L2.start (N.map Str.ofString) vs) := by
  unfold L2.start
  refine ⟨by simp [r.length], fun i v h => ?_⟩
  by_cases hi : i < as.length
  · rw [List.getElem?_append_left (by simpa using hi), List.getElem?_map] at h
    cases ha : as[i]? with
    | none => rw [ha] at h; cases h
    | some b =>
      rw [ha] at h
      cases h
      obtain ⟨v', q1, q2⟩ := RelL.get r ha
      refine ⟨v', ?_, q2⟩
      rw [List.getElem?_append_left (by rw [List.length_map, r.length]; exact hi), List.getElem?_map, q1]
      rfl
  · rw [List.getElem?_append_right (by simpa using hi), List.getElem?_replicate] at h
    split at h <;> cases h

theorem callN_len (Pd : List FnD) (Gv : List AV) (n : Nat) {f : Nat} {d : FnD} (hd : Pd[f]? = some d) (vs : List AV) (h : AH) (hl : vs.length ≠ d.ps.length) : callN Pd Gv n f vs h = .bad := by
  cases n with
  | zero => rfl
  | succ n => simp only [callN, hd, if_neg hl]

structure ProgOk (P : Program) (w : World) (k : KC) (mg : Str → Option Value) (Pd : List FnD) (Gv : List AV) (globs : List Str) : Prop where
  defs : ∀ (f : Nat) (d : FnD), Pd[f]? = some d → ∃ a fd, DefOk k.K mg (Pd.map fun d => Str.ofString d.name) globs d a fd
  blt : ∀ x, bltNames.contains x = true → mg (Str.ofString x) = none
  globs : ∀ (g : Nat) (n : Str), globs[g]? = some n → ∃ v u v', Gv[g]? = some v ∧ mg n = some u ∧ RelV v' u ∧ ∀ Z m H, Rel k.K Z m H v v'

/-- THE RULE: the defs do what their runs say -/
theorem defs_ok {k : KC} {Pd : List FnD} {Gv : List AV} {globs : List Str} (O : ProgOk P w k mg Pd Gv globs) : ∀ (n : Nat) (f : Nat) (d : FnD), Pd[f]? = some d → ∀ a fd, DefOk k.K mg (Pd.map fun d => Str.ofString d.name) globs d a fd →
    FnG P w k.K mg base CX0 n a fd (d.ps.map Str.ofString) (spF k (d.ps.map Str.ofString).length (callN Pd Gv n f))
  | 0, f, d, hd, a, fd, D => by
    refine ⟨fun vs H Q W ⟨Z, m, h, as, S, r, l, p⟩ => by rw [r.length]; exact l, fun A outer s H args us vs Q W _ _ _ _ _ ⟨Z, m, h, as, S, r, l, p⟩ => ?_⟩
    exact False.elim p
  | n + 1, f, d, hd, a, fd, D => by
    obtain ⟨x, qual, st, F, S, ck⟩ := D.ex
    obtain ⟨oc, od, kV, doc, pm, an, cdv, ct, osl, rfl, lk, hcd⟩ := F.ex
    refine fn_ofG lk hcd S (fun vs H Q W ⟨Z, m, h, as, _, r, l, p⟩ => by rw [r.length]; exact l) fun A outer s H vs Q W hr hgu ⟨Z, m, h, as, SR, r, l, p⟩ => ?_
    have G : Good k CX0 W ⟨callN Pd Gv n, Gv⟩ ⟨d.N.map Str.ofString, defScope st, none, Pd.map fun d => Str.ofString d.name, globs⟩ (cxOf CX0 P w k.K mg base (d.N.map Str.ofString) qual (defScope st) a cdv A outer s H W).nox := {
      K := rfl
      N := rfl
      nd := S.nd
      sc := rfl
      kind := S.kind
      calm := rfl
      own := PassesOwn.never
      pass := fun _ _ _ _ _ _ _ z => z.elim
      units := Nat.lt_of_le_of_lt (by show (A.deeper (envOfC qual (defScope st) s.heap.objs.size a cdv)).units + 200 ≤ _; omega) hr.un
      guards := hgu
      fn := fun y hy => by
        unfold locB at hy
        split at hy
        · rename_i q; exact ⟨.inl q, .inl rfl⟩
        · rename_i q; exact ⟨.inr q, .inl rfl⟩
        · cases hy
      blt := O.blt
      fns := fun g nm hg => by
        rw [List.getElem?_map] at hg
        cases hq : Pd[g]? with
        | none => rw [hq] at hg; cases hg
        | some dg =>
          rw [hq] at hg
          cases hg
          obtain ⟨ag, fg, Dg⟩ := O.defs g dg hq
          refine ⟨ag, fg, dg.ps.map Str.ofString, n, Dg.ns, Dg.kp, defs_ok O n g dg hq ag fg Dg, hr, Dg.bi, fun vs h hl => callN_len Pd Gv n hq vs h (by rw [List.length_map] at hl; exact hl)⟩
      globs := O.globs
      cx0 := fun _ _ _ _ _ z => z }
    refine ⟨tISs k ⟨callN Pd Gv n, Gv⟩ W d.body, (sSs G d.body (defBody st) ck).nox, Z, m, _, h, SR, start_rel r, ?_⟩
    rw [List.length_map] at l
    simp only [callN, hd, if_pos l] at p
    cases hv : evSs ⟨callN Pd Gv n, Gv⟩ d.body (as.map some ++ List.replicate (d.N.length - as.length) none) h with
    | bad => rw [hv] at p; exact p.elim
    | exc c0 w1 h1 => rw [hv] at p; exact p
    | ok pr h1 =>
      rw [hv, R.bind_ok] at p
      intro m1 H1 b e1 S1 r1
      cases b with
      | nx t5 =>
        rw [r1.1] at p
        exact gc_read (v := .non) (v' := .non) SR e1 S1 rfl p
      | ct t5 =>
        rw [r1.1] at p
        exact p.elim
      | bk t5 =>
        rw [r1.1] at p
        exact p.elim
      | rt v' =>
        obtain ⟨v, q1, q2⟩ := r1
        rw [q1] at p
        exact gc_read SR e1 S1 q2 p
end
end SP
end
section
set_option maxRecDepth 100000
set_option maxHeartbeats 4000000
/-! A law's end. -/
namespace SP
open PySem PySem.Spec PyProof.Rows L2

def scopeB (N ps : List Str) (sc : Scope) : Bool :=
  decide (sc.kind = .function) && decide (sc.isCoroutine = false) && decide (sc.isGenerator = false) && decide N.Nodup && decide (N.take ps.length = ps) &&
  (ps.all fun x => decide (sc.names.lookup x = some .local) || decide (sc.names.lookup x = some .cell)) && sc.names.all fun y => decide (y.2 ≠ .free)
theorem scope_of {N ps : List Str} {sc : Scope} (h : scopeB N ps sc = true) : FnScope N ps sc := by
  unfold scopeB at h
  simp only [Bool.and_eq_true, decide_eq_true_eq, List.all_eq_true, Bool.or_eq_true] at h
  obtain ⟨⟨⟨⟨⟨⟨h1, h2⟩, h3⟩, h4⟩, h5⟩, h6⟩, h7⟩ := h
  exact ⟨h1, h2, h3, h4, h5, h6, h7⟩
/-- all that is to be looked at in a def's text -/
def textB (fns globs : List Str) (d : FnD) (st : Stmt) : Bool :=
  scopeB (d.N.map Str.ofString) (d.ps.map Str.ofString) (defScope st) && chkSs ⟨d.N.map Str.ofString, defScope st, none, fns, globs⟩ d.body (defBody st)

theorem def_mk {K : Fg} {h : Heap} {mg : Str → Option Value} {fns globs : List Str} {d : FnD} {x : Str} {st : Stmt} {f : Addr} {oc : Value} {od an : Option Addr} {osl : Array (Option Value)} {kV doc pm cdv ct : Value} (X : K.In h) (G : h.Ns mainGlobals mg)
    (hx : Str.ofString d.name = x) (ht : textB fns globs d st = true) (bi : ∀ (kV doc pm : Value) (an : Option Addr) (cdv ct : Value) (us : List Value), us.length = (d.ps.map Str.ofString).length → bindArgs (PySem.W.fnOf x x (defArgs st) (defBody st) (defScope st) .none kV doc pm an cdv ct) ⟨us, []⟩ = pure ((d.ps.map Str.ofString).zip us))
    (a1 : PySem.W.nsIn K mainGlobals x = some (some (.ref f))) (l1 : K.lookup f = some ⟨oc, od, .func (PySem.W.fnOf x x (defArgs st) (defBody st) (defScope st) .none kV doc pm an cdv ct), osl⟩) (c1 : PySem.W.codeIn K cdv x = true) (k1 : PySem.W.keepIn K (.ref f) = true) :
    ∃ a fd, DefOk K mg fns globs d a fd := by
  unfold textB at ht
  simp only [Bool.and_eq_true] at ht
  have F := fun_mk (st := st) l1 c1 k1
  exact ⟨f, _, by rw [hx]; exact PySem.W.mg_of X G a1, ⟨x, x, st, F, scope_of ht.1, ht.2⟩, k1, F.binds bi⟩

/-- a list of defs, one by one -/
def DefsOk (K : Fg) (mg : Str → Option Value) (fns globs : List Str) : List FnD → Prop
  | [] => True
  | d :: r => (∃ a fd, DefOk K mg fns globs d a fd) ∧ DefsOk K mg fns globs r
theorem DefsOk.get {K : Fg} {mg : Str → Option Value} {fns globs : List Str} : ∀ {ds : List FnD} {f : Nat} {d : FnD}, DefsOk K mg fns globs ds → ds[f]? = some d → ∃ a fd, DefOk K mg fns globs d a fd
  | [], f, d, _, h => by simp at h
  | e :: r, 0, d, q, h => by
    have : e = d := by simpa using h
    rw [← this]
    exact q.1
  | e :: r, f + 1, d, q, h => DefsOk.get q.2 (by simpa using h)
def NonesOk (mg : Str → Option Value) : List String → Prop
  | [] => True
  | x :: r => mg (Str.ofString x) = none ∧ NonesOk mg r
theorem NonesOk.get {mg : Str → Option Value} : ∀ {xs : List String}, NonesOk mg xs → ∀ x, xs.contains x = true → mg (Str.ofString x) = none
  | [], _, x, h => by simp at h
  | y :: r, q, x, h => by
    by_cases e : x = y
    · rw [e]; exact q.1
    · exact NonesOk.get q.2 x (by simpa [e] using h)
/-- the module's constants: texts and numbers -/
def GlobsOk (mg : Str → Option Value) : List Str → List AV → Prop
  | [], _ => True
  | n :: r, vs => ∃ v t, vs = v :: t ∧ (∃ u v', mg n = some u ∧ RelV v' u ∧ ∀ K Z m H, Rel K Z m H v v') ∧ GlobsOk mg r t
theorem GlobsOk.get {K : Fg} {mg : Str → Option Value} : ∀ {ns : List Str} {vs : List AV}, GlobsOk mg ns vs → ∀ (g : Nat) (n : Str), ns[g]? = some n → ∃ v u v', vs[g]? = some v ∧ mg n = some u ∧ RelV v' u ∧ ∀ Z m H, Rel K Z m H v v'
  | [], vs, _, g, n, h => by simp at h
  | n0 :: r, vs, q, 0, n, h => by
    obtain ⟨v, t, rfl, ⟨u, v', q1, q2, q3⟩, _⟩ := q
    have : n0 = n := by simpa using h
    subst this
    exact ⟨v, u, v', rfl, q1, q2, q3 K⟩
  | n0 :: r, vs, q, g + 1, n, h => by
    obtain ⟨v, t, rfl, _, q4⟩ := q
    exact GlobsOk.get q4 g n (by simpa using h)
theorem glob_str {K : Fg} {h : Heap} {mg : Str → Option Value} {n : Str} {s : List Nat} {t : Tok} (X : K.In h) (G : h.Ns mainGlobals mg) (a : PySem.W.nsIn K mainGlobals n = some (some (.str ⟨s.toArray⟩ t))) (hl : s.length ≤ bigL) (ho : okS s = true) :
    ∃ u v', mg n = some u ∧ RelV v' u ∧ ∀ K Z m H, Rel K Z m H (.str s) v' := ⟨_, .str ⟨s.toArray⟩, PySem.W.mg_of X G a, ⟨t, rfl⟩, fun _ _ _ _ => ⟨rfl, hl, ho⟩⟩

theorem glob_int {K : Fg} {h : Heap} {mg : Str → Option Value} {n : Str} {i : Int} {t : Tok} (X : K.In h) (G : h.Ns mainGlobals mg) (a : PySem.W.nsIn K mainGlobals n = some (some (.int i t))) :
    ∃ u v', mg n = some u ∧ RelV v' u ∧ ∀ K Z m H, Rel K Z m H (.int i) v' := ⟨_, .int i, PySem.W.mg_of X G a, ⟨t, rfl⟩, fun _ _ _ _ => rfl⟩
theorem ints_rel {K : Fg} {Z m : List Addr} {H : Hp} : ∀ ns : List Int, RelL K Z m H (ns.map .int) (ns.map V.int)
  | [] => rfl
  | n :: r => ⟨.int n, r.map V.int, rfl, rfl, ints_rel r⟩

theorem law_callG {P : Program} {w : World} {k : KC} {mg mb : Str → Option Value} {Pd : List FnD} {Gv : List AV} {globs : List Str} {n f : Nat} {d : FnD} {fa a : Addr} {fd : FuncData} {s1 : Shared} {us : List Value} {ns : List Int}
    (kx : k.K.In s1.heap) (hns : s1.heap.Ns mainGlobals mg) (hb : s1.heap.Ns builtinsNs mb) (hbb : ∀ x : Str, x ≠ "__name__" → mb x = bootBuiltins x) (hlim : s1.heap.NoLimit) (hge : s1.gens = #[])
    (hat : s1.heap.get? a = some { cls := .type "list", data := .seq us.toArray }) (hi : IntsAre us ns) (hl : ns.length ≤ sizeLine) (hr : Room n callerA)
    (O : ProgOk P w k mg Pd Gv globs) (hd : Pd[f]? = some d) (hp : d.ps.length = 1) (D : DefOk k.K mg (Pd.map fun d => Str.ofString d.name) globs d fa fd) (hv : ∃ h', callN Pd Gv n f [.lst (ns.map .int)] [] = .ok (.bl true) h') :
    codeAny (model P w) callerA (.call (.ref fa) ⟨[.ref a], []⟩) (fun r s' => r = .ok (.ret (.bool true)) ∧ OldK s1.heap s'.heap ∧ s'.os = s1.os ∧ AllBare s'.gens) s1 := by
  obtain ⟨h', hv⟩ := hv
  have rv := vals_ints hi
  have core : ∀ H : Hp, (∀ b, H b = none ∨ (b = a ∧ k.K.lookup a = none ∧ ∃ o xs, H b = some (.frz o (.lst xs)))) → LstAt k.K [] [] H a (ns.map V.int) → HOk P w H s1.heap →
      codeAny (model P w) callerA (.call (.ref fa) ⟨[.ref a], []⟩) (fun r s' => r = .ok (.ret (.bool true)) ∧ OldK s1.heap s'.heap ∧ s'.os = s1.os ∧ AllBare s'.gens) s1 := by
    intro H hO hS hok
    have atA : ∀ b, H b ≠ none → b = a := fun b z => (hO b).elim (fun q => absurd q z) fun q => q.1
    have noD : ∀ {b : Addr} {o : Obj} {es : Array DictEntry} {ep : Nat}, s1.heap.get? b = some o → o.data = .dict es ep → H b = none := fun {b o es ep} q dd => by
      rcases hO b with z | ⟨z, _⟩
      · exact z
      · subst z
        rw [hat] at q
        cases q
        have dd' : Data.seq us.toArray _ = Data.dict es ep := dd
        cases dd'
    have nsH : ∀ {b : Addr} {m : Str → Option Value}, s1.heap.Ns b m → (hidT s1.heap H).Ns b m := fun {b m} ⟨o, es, ep, q, dd, r⟩ => ⟨o, es, ep, hidT_get q (noD q dd), dd, r⟩
    have kb : k.K.In (hidT s1.heap H) := fun b o q => hidT_get (kx b o q) (by
      rcases hO b with z | ⟨z, z2, _⟩
      · exact z
      · rw [z, z2] at q; cases q)
    have hM : Mod k.K mg (hidT s1.heap H) := ⟨kb, nsH hns, ⟨mb, nsH hb, hbb⟩, let ⟨mc, h1, h2⟩ := hlim; ⟨mc, nsH h1, h2⟩⟩
    have e0 : Env0 P w k.K mg (hidT s1.heap H) callerA [] s1 H := ⟨rfl, hM, fun b o q => of_hidT q, Nat.le_of_eq (hidT_size _ _), trivial, fun b z => absurd (show b ∈ ([] : List Addr) from z) (by simp), hok, .of_eq hge⟩
    have FG := defs_ok (base := hidT s1.heap H) O n f d hd fa fd D
    have hb1 : BindsTo s1 fd ⟨[.ref a], []⟩ ((d.ps.map Str.ofString).zip [.ref a]) := by
      have := D.bi s1 [.ref a] kx (by rw [List.length_map, hp]; rfl)
      rwa [List.append_nil] at this
    refine codeAny_mono (FG.run callerA [] s1 H ⟨[.ref a], []⟩ [.ref a] [.ref a] (fun v _ => v = .bl true) (fun _ _ _ => False) hr rfl e0 hb1 (.cons rfl .nil) ⟨[], [], [], [.lst (ns.map .int)], ⟨rfl, List.nodup_nil, fun i b c z => by simp at z, fun b z => by simp at z⟩, ⟨.ref a, [], rfl, ⟨a, ns.map V.int, rfl, hS, ints_rel ns⟩, rfl⟩, by rw [List.length_map, hp]; rfl, ?_⟩) fun r s' q => ?_
    · rw [hv]
      exact fun m' H' v' _ _ z => z
    · cases r with
      | error e => exact False.elim q
      | ok fl =>
        cases fl with
        | next => exact False.elim q
        | brk => exact False.elim q
        | cont => exact False.elim q
        | ret u =>
          obtain ⟨v, H', os, bare, un, hok', r', q⟩ := q
          have q' : v = .bl true := q
          subst q'
          obtain rfl : u = Value.bool true := r'
          refine ⟨rfl, OldK.of_keep fun b o e => ?_, os, bare⟩
          rcases hO b with z | ⟨_, _, ob, xs, z⟩
          · exact un.keep b o e z (fun z => absurd (show b ∈ ([] : List Addr) from z) (by simp)) (by simp)
          · have e1 := (hok b _ z).1
            have e2 := (hok' b _ (un.frzs b ob _ z)).1
            rw [e] at e1
            cases e1
            exact e2
  have hz : us.toArray.size ≤ sizeLine := by rw [List.size_toArray, hi.length]; exact hl
  cases hk : k.K.lookup a with
  | some o =>
    have e := kx a o hk
    rw [hat] at e
    cases e
    exact core (fun _ => none) (fun _ => .inl rfl) (.inr ⟨us.toArray, _, hk, hz, by simpa using rv⟩) fun b u z => by
      have z' : (none : Option HO) = some u := z
      cases z'
  | none =>
    refine core (fun b => if b = a then some (.frz { cls := .type "list", data := .seq us.toArray } (.lst (ns.map V.int))) else none) (fun b => ?_) (.inl ⟨by simp, by simp, .inr ⟨_, if_pos rfl⟩⟩) fun b u z => ?_
    · by_cases q : b = a
      · exact .inr ⟨q, hk, _, _, if_pos q⟩
      · exact .inl (if_neg q)
    · by_cases q : b = a
      · have z' := (if_pos q).symm.trans z
        cases z'
        subst q
        exact ⟨hat, by rw [List.length_map]; exact hl, us, _, rv, hat⟩
      · have z' := (if_neg q).symm.trans z
        cases z'

/-- what a law asks for: the run of its last def over any script -/
def Lawful (Pd : List FnD) (Gv : List AV) (n f : Nat) : Prop := ∀ ns : List Int, ns.length ≤ 63 → (∀ z ∈ ns, Builtin.Int.intBits z ≤ 1048576) → ∃ h', callN Pd Gv n f [.lst (ns.map .int)] [] = .ok (.bl true) h'

theorem walkG {l : PySem.W.OpenLaw} {n f : Nat} {q : Program} {loose : List Str} {XP : (Str → Option Value) → Heap → Prop} {YP : World → Heap → Prop} {d : DefRec} {K : Params → PySem.W.Frag} {Pd : List FnD} {Gv : List AV} {globs : List Str} {df : FnD}
    (hn : l.most = some 63) (hdf : d.params.defaults = []) (hr : Room n callerA) (hY : ∀ (w : World) (h : Heap), YP w h → (K w.params).In h) (hf : Pd[f]? = some df) (hp : df.ps.length = 1) (hnm : Str.ofString df.name = d.name)
    (F : ∀ (w : World) (mg : Str → Option Value) (h : Heap), (K w.params).In h → h.Ns mainGlobals mg → DefsOk (K w.params) mg (Pd.map fun d => Str.ofString d.name) globs Pd ∧ NonesOk mg bltNames ∧ GlobsOk mg globs Gv) (L : Lawful Pd Gv n f) :
    PySem.W.WalkO q loose XP YP l.row.toRowW d [] (fun f vs => PySem.call f vs) := by
  refine Att.attach_callB hn hdf fun w s0 s1 mg mb fa o pm cd doc a vs ns G Y ho hd hcd hmg hobj hints hlen hbits hg => ?_
  have KX := hY w _ Y
  obtain ⟨f1, f2, f3⟩ := F w mg _ KX G.T.g
  have O : ProgOk l.prog w ⟨K w.params, fun _ => 0⟩ mg Pd Gv globs := ⟨fun i e h => f1.get h, fun x h => f2.get x h, fun g m h => f3.get g m h⟩
  obtain ⟨fa', fd, D⟩ := f1.get hf
  have e : fa' = fa := by
    have := D.ns
    rw [hnm, hmg] at this
    cases this
    rfl
  subst e
  exact law_callG (k := ⟨K w.params, fun _ => 0⟩) KX G.T.g G.T.b G.T.builtins G.T.nolimit hg hobj hints (Nat.le_trans hlen (by decide)) hr O hf hp D (L ns hlen hbits)
end SP
end
section
set_option maxRecDepth 10000
set_option maxHeartbeats 1000000
/-! Plain facts of the runs: the helpers of the laws. -/
namespace SP

theorem call_eq {P : List FnD} {G : List AV} {n f : Nat} {d : FnD} {as : List AV} {h : AH} (hd : P[f]? = some d) (hl : as.length = d.ps.length) :
    callN P G (n + 1) f as h = (evSs ⟨callN P G n, G⟩ d.body (as.map some ++ List.replicate (d.N.length - as.length) none) h).bind fun p h1 => match p.2 with
      | .rt v => gcOf d.gc h.length v h1
      | .nx => gcOf d.gc h.length .non h1
      | _ => .bad := by
  simp only [callN, hd, if_pos hl] <;> rfl
/-- a def's run by its body's -/
theorem call_rt {P : List FnD} {G : List AV} {n f : Nat} {d : FnD} {as : List AV} {h h1 : AH} {s : St} {v : AV} (hd : P[f]? = some d) (hl : as.length = d.ps.length) (hb : evSs ⟨callN P G n, G⟩ d.body (as.map some ++ List.replicate (d.N.length - as.length) none) h = .ok (s, .rt v) h1) :
    callN P G (n + 1) f as h = gcOf d.gc h.length v h1 := by
  rw [call_eq hd hl, hb]
  rfl

/-! the run's equations, one by one; the turns of comprehensions and loops stay closed -/
def lcRun (C : Ctx) (s : St) (own : List Nat) (t : Tg) (c : Eo) (elt : E) (src : Src) (h : AH) : R (List AV) := lcGo (fun x h => evG C t x (wipeA s own) h) (fun s h => evC C s c h) (fun s h => evE C s elt h) src loopL 0 h
def lc2Run (C : Ctx) (s : St) (own : List Nat) (t : Tg) (c : Eo) (t1 : Tg) (it1 : It) (c1 : Eo) (elt : E) (src : Src) (h : AH) : R (List AV) := lc2Go (fun x h => evG C t x (wipeA s own) h) (fun s h => evC C s c h) (fun s h => (noX (evI C s it1 h)).bind fun src1 h1 => lcGo (fun x h => evG C t1 x (wipeA s (tgSlots t1)) h) (fun s h => evC C s c1 h) (fun s h => evE C s elt h) src1 loop2 0 h1) src loop2 0 h
def forRun (C : Ctx) (t : Tg) (body : Ss) (src : Src) (s : St) (h : AH) : R (St × Fl) := forGo (fun x s h => evG C t x s h) (fun s h => evSs C body s h) src loopL 0 s h
def whileRun (C : Ctx) (c : E) (body : Ss) (s : St) (h : AH) : R (St × Fl) := whileGo (fun s h => evE C s c h) (fun s h => evSs C body s h) loopL s h
section
variable (C : Ctx) (s : St) (h : AH)
theorem ee_lit (c : AV) : evE C s (.lit c) h = .ok c h := by simp only [evE]
theorem ee_var (i : Nat) : evE C s (.var i) h = getV s i h := by simp only [evE]
theorem ee_glob (g : Nat) : evE C s (.glob g) h = match C.globs[g]? with
    | some v => .ok v h
    | none => .bad := by simp only [evE] <;> rfl
theorem ee_bty (n : String) : evE C s (.bty n) h = .ok (.ty n) h := by simp only [evE]
theorem ee_bin (op : PySem.Operator) (m : Bool) (a b : E) : evE C s (.bin op m a b) h = (evE C s a h).bind fun x h1 => (evE C s b h1).bind fun y h2 => binop op m x y h2 := by simp only [evE]
theorem ee_neg (a : E) : evE C s (.neg a) h = (evE C s a h).bind fun x h1 => match x with
    | .int i => .ok (.int (-i)) h1
    | _ => .bad := by simp only [evE] <;> rfl
theorem ee_cmp (op : PySem.CmpOp) (a b : E) : evE C s (.cmp op a b) h = (evE C s a h).bind fun x h1 => (evE C s b h1).bind fun y h2 => cmpop op x y h2 := by simp only [evE]
theorem ee_chain (o1 o2 : PySem.CmpOp) (a b c : E) : evE C s (.chain o1 o2 a b c) h = (evE C s a h).bind fun x h1 => (evE C s b h1).bind fun y h2 => (cmpop o1 x y h2).bind fun k h3 => match k with
    | .bl true => (evE C s c h3).bind fun z h4 => cmpop o2 y z h4
    | .bl false => .ok (.bl false) h3
    | _ => .bad := by simp only [evE] <;> rfl
theorem ee_not (a : E) : evE C s (.not a) h = (evE C s a h).bind fun x h1 => match x with
    | .bl b => .ok (.bl (!b)) h1
    | _ => .bad := by simp only [evE] <;> rfl
theorem ee_and (a b : E) : evE C s (.and a b) h = (evE C s a h).bind fun x h1 => match x with
    | .bl true => evE C s b h1
    | .bl false => .ok (.bl false) h1
    | _ => .bad := by simp only [evE] <;> rfl
theorem ee_or (a b : E) : evE C s (.or a b) h = (evE C s a h).bind fun x h1 => match x with
    | .bl true => .ok (.bl true) h1
    | .bl false => evE C s b h1
    | _ => .bad := by simp only [evE] <;> rfl
theorem ee_ife (c a b : E) : evE C s (.ife c a b) h = (evE C s c h).bind fun x h1 => match x with
    | .bl true => evE C s a h1
    | .bl false => evE C s b h1
    | _ => .bad := by simp only [evE] <;> rfl
theorem ee_tup (es : Es) : evE C s (.tup es) h = (evA C s es h).bind fun vs h1 => .ok (.tup vs) h1 := by simp only [evE]
theorem ee_lst (m : Bool) (es : Es) : evE C s (.lst m es) h = (evA C s es h).bind fun vs h1 => mk m vs h1 := by simp only [evE]
theorem ee_idx (a i : E) : evE C s (.idx a i) h = (evE C s a h).bind fun x h1 => (evE C s i h1).bind fun y h2 => idxop x y h2 := by simp only [evE]
theorem ee_slice (m : Bool) (a : E) (lo hi : Eo) : evE C s (.slice m a lo hi) h = (evE C s a h).bind fun x h1 => (evO C s lo h1).bind fun l h2 => (evO C s hi h2).bind fun u h3 => slop m x l u h3 := by simp only [evE]
theorem ee_rev (m : Bool) (a : E) : evE C s (.rev m a) h = (evE C s a h).bind fun x h1 => revop m x h1 := by simp only [evE]
theorem ee_call (f : Nat) (es : Es) : evE C s (.call f es) h = (evA C s es h).bind fun vs h1 => C.call f vs h1 := by simp only [evE]
theorem ee_blt (b : Blt) (m : Bool) (es : Es) : evE C s (.blt b m es) h = (evA C s es h).bind fun vs h1 => bltop b m vs h1 := by simp only [evE]
theorem ee_mth (b : Mth) (o : E) (es : Es) : evE C s (.mth b o es) h = (evE C s o h).bind fun x h1 => if recvOk b x h1 then (evA C s es h1).bind fun vs h2 => mthop b x vs h2 else .bad := by simp only [evE]
theorem ee_lc (m : Bool) (own : List Nat) (t : Tg) (it : It) (c : Eo) (elt : E) : evE C s (.lc m own t it c elt) h = (evI C s it h).bind fun src h1 => (lcRun C s own t c elt src h1).bind fun ys h2 => mk m ys h2 := by simp only [evE, lcRun]
theorem ee_lc2 (m : Bool) (own : List Nat) (t : Tg) (it : It) (c : Eo) (t1 : Tg) (it1 : It) (c1 : Eo) (elt : E) : evE C s (.lc2 m own t it c t1 it1 c1 elt) h = (evI C s it h).bind fun src h1 => (lc2Run C s own t c t1 it1 c1 elt src h1).bind fun ys h2 => mk m ys h2 := by simp only [evE, lc2Run]
theorem es_asg (t : Tg) (e : E) : evS C (.asg t e) s h = (evE C s e h).bind fun v h1 => (evG C t v s h1).bind fun s1 h2 => .ok (s1, .nx) h2 := by simp only [evS]
theorem es_par (ix : List Nat) (es : Es) : evS C (.par ix es) s h = (evA C s es h).bind fun vs h1 => match setAll ix vs s with
    | some s1 => .ok (s1, .nx) h1
    | none => .bad := by simp only [evS] <;> rfl
theorem es_aug (i : Nat) (op : PySem.Operator) (e : E) : evS C (.aug i op e) s h = (getV s i h).bind fun x _ => (evE C s e h).bind fun y h1 => match op, x, y with
    | .Add, .int a, .int b => .ok (s.set i (some (.int (a + b))), .nx) h1
    | .Sub, .int a, .int b => .ok (s.set i (some (.int (a - b))), .nx) h1
    | _, _, _ => .bad := by simp only [evS] <;> rfl
theorem es_expr (e : E) : evS C (.expr e) s h = (evE C s e h).bind fun _ h1 => .ok (s, .nx) h1 := by simp only [evS]
theorem es_ret (e : E) : evS C (.ret e) s h = (evE C s e h).bind fun v h1 => .ok (s, .rt v) h1 := by simp only [evS]
theorem es_ifs (c : E) (a b : Ss) : evS C (.ifs c a b) s h = (evE C s c h).bind fun x h1 => match x with
    | .bl true => evSs C a s h1
    | .bl false => evSs C b s h1
    | _ => .bad := by simp only [evS] <;> rfl
theorem es_for (t : Tg) (it : It) (body : Ss) : evS C (.for_ t it body) s h = (evI C s it h).bind fun src h1 => forRun C t body src s h1 := by simp only [evS, forRun]
theorem es_while (c : E) (body : Ss) : evS C (.while_ c body) s h = whileRun C c body s h := by simp only [evS, whileRun]
theorem es_pass : evS C .pass s h = .ok (s, .nx) h := by simp only [evS]
theorem es_brk : evS C .brk s h = .ok (s, .bk) h := by simp only [evS]
theorem es_cont : evS C .cont s h = .ok (s, .ct) h := by simp only [evS]
end

theorem seqOf_tup (h : AH) (xs : List AV) : seqOf h (.tup xs) = some xs := rfl
theorem seqOf_lst (h : AH) (xs : List AV) : seqOf h (.lst xs) = some xs := rfl
theorem bin_add (i j : Int) (m : Bool) (h : AH) : binop .Add m (.int i) (.int j) h = .ok (.int (i + j)) h := rfl
theorem bin_sub (i j : Int) (m : Bool) (h : AH) : binop .Sub m (.int i) (.int j) h = .ok (.int (i - j)) h := rfl
theorem bin_pow7 (m : Bool) (h : AH) : binop .Pow m (.int 10) (.int 7) h = .ok (.int 10000000) h := rfl
theorem bin_pow18 (m : Bool) (h : AH) : binop .Pow m (.int 10) (.int 18) h = .ok (.int 1000000000000000000) h := rfl
theorem bin_mul {i j : Int} (m : Bool) (h : AH) (q : i.natAbs < 2 ^ 64 ∨ j.natAbs < 2 ^ 64) : binop .Mult m (.int i) (.int j) h = .ok (.int (i * j)) h := by
  simp only [binop, if_pos q]
theorem bin_mod {i j : Int} (m : Bool) (h : AH) (q : 0 < j) : binop .Mod m (.int i) (.int j) h = .ok (.int (i % j)) h := by
  simp only [binop, if_pos q]
theorem bin_div {i j : Int} (m : Bool) (h : AH) (q : 0 < j ∧ j < 1073741824) : binop .FloorDiv m (.int i) (.int j) h = .ok (.int (i / j)) h := by
  simp only [binop, if_pos q]
theorem cmp_gt (i j : Int) (h : AH) : cmpop .Gt (.int i) (.int j) h = .ok (.bl (decide (j < i))) h := rfl
theorem cmp_lt (i j : Int) (h : AH) : cmpop .Lt (.int i) (.int j) h = .ok (.bl (decide (i < j))) h := rfl
theorem cmp_ge (i j : Int) (h : AH) : cmpop .GtE (.int i) (.int j) h = .ok (.bl (decide (j ≤ i))) h := rfl
theorem cmp_le (i j : Int) (h : AH) : cmpop .LtE (.int i) (.int j) h = .ok (.bl (decide (i ≤ j))) h := rfl
theorem blt_abs (i : Int) (m : Bool) (h : AH) : bltop .abs m [.int i] h = .ok (.int (if i < 0 then -i else i)) h := rfl
theorem blt_divmod {i j : Int} (m : Bool) (h : AH) (q : 0 ≤ i ∧ 0 < j ∧ j < 1073741824) : bltop .divmod m [.int i, .int j] h = .ok (.tup [.int (i / j), .int (i % j)]) h := by
  simp only [bltop, if_pos q]

def Pl (h : AH) : Prop := ∀ c ∈ h, Cell.below 0 c = true
mutual
theorem below_up : ∀ (v : AV) (n : Nat), below 0 v = true → below n v = true
  | .non, _, _ => rfl
  | .bl _, _, _ => rfl
  | .int _, _, _ => rfl
  | .str _, _, _ => rfl
  | .ty _, _, _ => rfl
  | .ref k, n, h => by simp [below] at h
  | .tup xs, n, h => by simp only [below] at h ⊢; exact belows_up xs n h
  | .lst xs, n, h => by simp only [below] at h ⊢; exact belows_up xs n h
  | .dcs ks vs, n, h => by simp only [below] at h ⊢; exact belows_up vs n h
theorem belows_up : ∀ (xs : List AV) (n : Nat), belows 0 xs = true → belows n xs = true
  | [], _, _ => rfl
  | x :: r, n, h => by
    simp only [belows, Bool.and_eq_true] at h ⊢
    exact ⟨below_up x n h.1, belows_up r n h.2⟩
end
theorem cell_up {c : Cell} (n : Nat) (h : Cell.below 0 c = true) : Cell.below n c = true := by
  cases c with
  | lst xs => exact belows_up xs n h
/-- what a def gives back where no cells lie within -/
theorem gc_ok {g : Bool} {n : Nat} {v : AV} {h : AH} (hv : below 0 v = true) (hh : Pl (h.take n)) (hg : g = true) : gcOf g n v h = .ok v (h.take n) := by
  subst hg
  unfold gcOf
  rw [if_pos rfl, if_pos]
  simp only [Bool.and_eq_true, List.all_eq_true]
  exact ⟨below_up v n hv, fun c hc => cell_up n (hh c hc)⟩

/-- the box of numbers at r, all else as in h -/
def boxC (a m k : Int) : Cell := .lst [.int a, .int m, .int k]
def Box (h : AH) (r b : Nat) (g : AH) : Prop := r < h.length ∧ Pl h ∧ ∃ a m k : Int, g = h.set r (boxC a m k) ∧ 0 ≤ a ∧ 0 ≤ m ∧ m < 2147483647 ∧ 0 ≤ k ∧ k ≤ b
theorem Box.len {h g : AH} {r b : Nat} (B : Box h r b g) : g.length = h.length := by
  obtain ⟨_, _, a, m, k, e, _⟩ := B
  rw [e, List.length_set]
theorem Pl.set {h : AH} {r : Nat} {c : Cell} (p : Pl h) (hc : Cell.below 0 c = true) : Pl (h.set r c) := fun d hd => by
  rcases List.mem_or_eq_of_mem_set hd with q | q
  · exact p d q
  · rw [q]; exact hc
theorem Box.pl {h g : AH} {r b : Nat} (B : Box h r b g) : Pl g := by
  obtain ⟨_, p, a, m, k, e, _⟩ := B
  rw [e]
  exact p.set rfl
theorem Box.mono {h g : AH} {r b b' : Nat} (B : Box h r b g) (hb : b ≤ b') : Box h r b' g := by
  obtain ⟨x, p, a, m, k, e, h1, h2, h3, h4, h5⟩ := B
  exact ⟨x, p, a, m, k, e, h1, h2, h3, h4, by omega⟩
theorem Pl.take {h : AH} (n : Nat) (p : Pl h) : Pl (h.take n) := fun c hc => p c (List.mem_of_mem_take hc)

namespace Lib
def law_box : FnD := { name := "_law_box", ps := ["_law_script", "_law_k"], N := ["_law_script", "_law_k", "_law_cell"], gc := false, body :=
    (.cons (.asg (.name 2) (.ife (.cmp .Lt (.var 1) (.blt .len false (.cons (.var 0) .nil))) (.idx (.var 0) (.var 1)) (.lit (.int 0)))) (.cons (.ret (.lst true (.cons (.bin .Mult false (.blt .abs false (.cons (.var 2) .nil)) (.blt .int1 false (.cons (.cmp .GtE (.blt .abs false (.cons (.var 2) .nil)) (.bin .Pow false (.lit (.int 10)) (.lit (.int 18)))) .nil))) (.cons (.bin .Mod false (.bin .Mult false (.bin .Add false (.bin .Add false (.bin .Mod false (.var 2) (.lit (.int 2147483629))) (.bin .Mult false (.lit (.int 15485863)) (.var 1))) (.lit (.int 43))) (.lit (.int 48271))) (.lit (.int 2147483647))) (.cons (.lit (.int 0)) .nil))))) .nil)) }
def law_take (c_law_take : Nat) : FnD := { name := "_law_take", ps := ["_law_box_here", "_law_room"], N := ["_law_box_here", "_law_room", "_law_step", "_law_once", "_law_twice", "_law_found"], gc := true, body :=
    (.cons (.ifs (.cmp .Gt (.idx (.var 0) (.lit (.int 0))) (.lit (.int 0))) (.cons (.asg (.tup (.cons (.sub (.var 0) (.lit (.int 0))) (.cons (.name 5) .nil))) (.blt .divmod false (.cons (.idx (.var 0) (.lit (.int 0))) (.cons (.var 1) .nil)))) (.cons (.ret (.var 5)) .nil)) .nil) (.cons (.ifs (.cmp .Gt (.var 1) (.bin .Pow false (.lit (.int 10)) (.lit (.int 7)))) (.cons (.ret (.bin .Mod false (.bin .Add false (.call c_law_take (.cons (.var 0) (.cons (.bin .Pow false (.lit (.int 10)) (.lit (.int 7))) .nil))) (.bin .Mult false (.bin .Pow false (.lit (.int 10)) (.lit (.int 7))) (.call c_law_take (.cons (.var 0) (.cons (.bin .Add false (.bin .FloorDiv false (.bin .Sub false (.var 1) (.lit (.int 1))) (.bin .Pow false (.lit (.int 10)) (.lit (.int 7)))) (.lit (.int 1))) .nil))))) (.var 1))) .nil) .nil) (.cons (.asg (.sub (.var 0) (.lit (.int 2))) (.bin .Add false (.idx (.var 0) (.lit (.int 2))) (.lit (.int 1)))) (.cons (.asg (.name 2) (.bin .Add false (.lit (.int 69621)) (.bin .Mult false (.idx (.var 0) (.lit (.int 2))) (.idx (.var 0) (.lit (.int 2)))))) (.cons (.asg (.name 3) (.bin .Mod false (.bin .Mult false (.bin .Add false (.idx (.var 0) (.lit (.int 1))) (.bin .Mult false (.lit (.int 39373)) (.idx (.var 0) (.lit (.int 2))))) (.var 2)) (.lit (.int 2147483587)))) (.cons (.asg (.name 4) (.bin .Mod false (.bin .Add false (.bin .Mult false (.var 3) (.bin .Add false (.bin .Mod false (.var 3) (.lit (.int 30011))) (.lit (.int 5)))) (.idx (.var 0) (.lit (.int 2)))) (.lit (.int 2147483563)))) (.cons (.ret (.bin .Mod false (.bin .FloorDiv false (.bin .Mod false (.bin .Mult false (.var 4) (.bin .Add false (.bin .Mod false (.var 4) (.lit (.int 1013))) (.lit (.int 3)))) (.lit (.int 998244353))) (.lit (.int 16))) (.var 1))) .nil))))))) }
def law_folded_b1 : Ss := (.cons (.asg (.sub (.var 2) (.bin .Mod false (.var 3) (.var 1))) (.bin .Add false (.idx (.var 2) (.bin .Mod false (.var 3) (.var 1))) (.bin .Mult false (.var 4) (.bin .Add false (.var 3) (.lit (.int 2)))))) .nil)
def law_folded : FnD := { name := "_law_folded", ps := ["_law_script", "_law_room"], N := ["_law_script", "_law_room", "_law_cells", "_law_k", "_law_cell"], gc := false, body :=
    (.cons (.asg (.name 2) (.blt .list true (.cons (.slice false (.var 0) .no (.yes (.var 1))) .nil))) (.cons (.for_ (.tup (.cons (.name 3) (.cons (.name 4) .nil))) (.enum (.slice false (.var 0) (.yes (.var 1)) (.yes (.lit (.int 63))))) law_folded_b1) (.cons (.ret (.ife (.cmp .NotEq (.var 2) (.lst false .nil)) (.var 2) (.lst false (.cons (.lit (.int 0)) .nil)))) .nil))) }
def law_same_e1 (c_law_same : Nat) : E := (.call c_law_same (.cons (.var 2) (.cons (.var 3) .nil)))
def law_same (c_law_same : Nat) : FnD := { name := "_law_same", ps := ["_law_found", "_law_due"], N := ["_law_found", "_law_due", "_law_one", "_law_other"], gc := true, body :=
    (.cons (.ifs (.blt .isi false (.cons (.var 1) (.cons (.tup (.cons (.bty "list") (.cons (.bty "tuple") .nil))) .nil))) (.cons (.ifs (.or (.cmp .NotEq (.blt .isi false (.cons (.var 0) (.cons (.bty "list") .nil))) (.blt .isi false (.cons (.var 1) (.cons (.bty "list") .nil)))) (.cmp .NotEq (.blt .isi false (.cons (.var 0) (.cons (.bty "tuple") .nil))) (.blt .isi false (.cons (.var 1) (.cons (.bty "tuple") .nil))))) (.cons (.ret (.lit (.bl false))) .nil) .nil) (.cons (.ret (.and (.cmp .Eq (.blt .len false (.cons (.var 0) .nil)) (.blt .len false (.cons (.var 1) .nil))) (.blt .all false (.cons (.lc false [2, 3] (.tup (.cons (.name 2) (.cons (.name 3) .nil))) (.zip2 (.var 0) (.var 1)) .no (law_same_e1 c_law_same)) .nil)))) .nil)) .nil) (.cons (.ifs (.or (.cmp .Is (.var 1) (.lit .non)) (.blt .isi false (.cons (.var 1) (.cons (.bty "str") .nil)))) (.cons (.ret (.and (.cmp .Eq (.var 0) (.var 1)) (.cmp .Eq (.blt .isi false (.cons (.var 0) (.cons (.bty "str") .nil))) (.blt .isi false (.cons (.var 1) (.cons (.bty "str") .nil)))))) .nil) .nil) (.cons (.ret (.and (.blt .isi false (.cons (.var 0) (.cons (.bty "int") .nil))) (.and (.cmp .Eq (.blt .isi false (.cons (.var 0) (.cons (.bty "bool") .nil))) (.blt .isi false (.cons (.var 1) (.cons (.bty "bool") .nil)))) (.cmp .Eq (.var 0) (.var 1))))) .nil))) }
def law_of (c_law_take : Nat) : FnD := { name := "_law_of", ps := ["_law_box_here", "_law_some"], N := ["_law_box_here", "_law_some"], gc := true, body :=
    (.cons (.ret (.idx (.var 1) (.call c_law_take (.cons (.var 0) (.cons (.blt .len false (.cons (.var 1) .nil)) .nil))))) .nil) }
def law_text_e1 (c_law_of : Nat) : E := (.call c_law_of (.cons (.var 0) (.cons (.var 1) .nil)))
def law_text (c_law_of : Nat) : FnD := { name := "_law_text", ps := ["_law_box_here", "_law_beads", "_law_size"], N := ["_law_box_here", "_law_beads", "_law_size", "_law_turn"], gc := true, body :=
    (.cons (.ret (.mth .join (.lit (.str [])) (.cons (.lc false [3] (.name 3) (.range1 (.var 2)) .no (law_text_e1 c_law_of)) .nil))) .nil) }
def law_rules_b1 (c_law_take : Nat) (c_law_text : Nat) : Ss := (.cons (.asg (.name 5) (.call c_law_text (.cons (.var 0) (.cons (.var 1) (.cons (.bin .Add false (.lit (.int 1)) (.call c_law_take (.cons (.var 0) (.cons (.blt .min2 false (.cons (.lit (.int 3)) (.cons (.var 2) .nil))) .nil)))) .nil))))) (.cons (.asg (.name 6) (.idx (.lst false (.cons (.rev false (.var 5)) (.cons (.call c_law_text (.cons (.var 0) (.cons (.var 1) (.cons (.blt .len false (.cons (.var 5) .nil)) .nil)))) (.cons (.bin .Add false (.slice false (.var 5) (.yes (.lit (.int 1))) .no) (.slice false (.var 5) .no (.yes (.lit (.int 1))))) .nil)))) (.call c_law_take (.cons (.var 0) (.cons (.lit (.int 3)) .nil))))) (.cons (.ifs (.and (.cmp .NotEq (.var 5) (.var 6)) (.cmp .NotIn (.tup (.cons (.var 5) (.cons (.var 6) .nil))) (.var 3))) (.cons (.expr (.mth .append (.var 3) (.cons (.tup (.cons (.var 5) (.cons (.var 6) .nil))) .nil))) .nil) .nil) .nil)))
def law_rules (c_law_take : Nat) (c_law_text : Nat) : FnD := { name := "_law_rules", ps := ["_law_box_here", "_law_beads", "_law_long"], N := ["_law_box_here", "_law_beads", "_law_long", "_law_found", "_law_turn", "_law_old", "_law_new"], gc := true, body :=
    (.cons (.asg (.name 3) (.lst true .nil)) (.cons (.for_ (.name 4) (.range1 (.call c_law_take (.cons (.var 0) (.cons (.lit (.int 5)) .nil)))) (law_rules_b1 c_law_take c_law_text)) (.cons (.ret (.blt .tuple false (.cons (.blt .sorted false (.cons (.var 3) .nil)) .nil))) .nil))) }
def law_turned_text_e1 : E := (.idx (.var 2) (.var 3))
def law_turned_text : FnD := { name := "_law_turned_text", ps := ["_law_text_here", "_law_beads"], N := ["_law_text_here", "_law_beads", "_law_to", "_law_sign"], gc := true, body :=
    (.cons (.asg (.name 2) (.blt .dictzip false (.cons (.var 1) (.cons (.bin .Add false (.bin .Add false (.slice false (.var 1) .no (.yes (.neg (.lit (.int 2))))) (.idx (.var 1) (.neg (.lit (.int 1))))) (.idx (.var 1) (.neg (.lit (.int 2))))) .nil)))) (.cons (.ret (.mth .join (.lit (.str [])) (.cons (.lc false [3] (.name 3) (.e (.rev false (.var 0))) .no law_turned_text_e1) .nil))) .nil)) }
def law_ends_e1 : E := (.slice false (.var 8) .no (.yes (.lit (.int 2))))
def law_ends_b1 (c_law_take : Nat) (c_law_of : Nat) (c_law_text : Nat) : Ss := (.cons (.asg (.name 5) (.call c_law_of (.cons (.var 0) (.cons (.lst false (.cons (.lit (.int 9)) (.cons (.neg (.lit (.int 9))) (.cons (.lit (.int 1)) (.cons (.neg (.lit (.int 1))) (.cons (.lit (.int 3)) (.cons (.neg (.lit (.int 4))) .nil))))))) .nil)))) (.cons (.asg (.name 6) (.call c_law_text (.cons (.var 0) (.cons (.var 1) (.cons (.bin .Add false (.lit (.int 1)) (.call c_law_take (.cons (.var 0) (.cons (.var 2) .nil)))) .nil))))) (.cons (.asg (.name 7) (.tup (.cons (.call c_law_take (.cons (.var 0) (.cons (.lit (.int 3)) .nil))) (.cons (.var 6) .nil)))) (.cons (.ifs (.cmp .NotIn (.var 7) (.lc false [8] (.name 8) (.e (.var 3)) .no law_ends_e1)) (.cons (.expr (.mth .append (.var 3) (.cons (.bin .Add false (.var 7) (.tup (.cons (.var 5) .nil))) .nil))) .nil) .nil) .nil))))
def law_ends (c_law_take : Nat) (c_law_of : Nat) (c_law_text : Nat) : FnD := { name := "_law_ends", ps := ["_law_box_here", "_law_beads", "_law_long"], N := ["_law_box_here", "_law_beads", "_law_long", "_law_found", "_law_turn", "_law_worth", "_law_pattern", "_law_one", "_law_row"], gc := true, body :=
    (.cons (.asg (.name 3) (.lst true .nil)) (.cons (.for_ (.name 4) (.range1 (.bin .Add false (.lit (.int 1)) (.call c_law_take (.cons (.var 0) (.cons (.lit (.int 4)) .nil))))) (law_ends_b1 c_law_take c_law_of c_law_text)) (.cons (.ret (.blt .tuple false (.cons (.blt .sorted false (.cons (.var 3) .nil)) .nil))) .nil))) }
def law_any_game_e1 (c_law_turned_text : Nat) : E := (.tup (.cons (.call c_law_turned_text (.cons (.var 9) (.cons (.var 5) .nil))) (.cons (.call c_law_turned_text (.cons (.var 10) (.cons (.var 5) .nil))) .nil)))
def law_any_game (c_law_take : Nat) (c_law_of : Nat) (c_law_rules : Nat) (c_law_turned_text : Nat) (c_law_ends : Nat) : FnD := { name := "_law_any_game", ps := ["_law_box_here", "_law_name", "_law_longest"], N := ["_law_box_here", "_law_name", "_law_longest", "_law_others", "_law_stuck", "_law_beads", "_law_long", "_law_shape", "_law_rules_here", "_law_old", "_law_new"], gc := true, body :=
    (.cons (.asg (.tup (.cons (.name 5) (.cons (.name 6) .nil))) (.tup (.cons (.call c_law_of (.cons (.var 0) (.cons (.lst false (.cons (.lit (.str [46, 120, 111])) (.cons (.lit (.str [46, 120, 111])) (.cons (.lit (.str [46, 120])) (.cons (.lit (.str [120, 46, 111])) (.cons (.lit (.str [46, 97, 98, 122])) .nil)))))) .nil))) (.cons (.bin .Add false (.lit (.int 2)) (.call c_law_take (.cons (.var 0) (.cons (.bin .Sub false (.var 2) (.lit (.int 1))) .nil)))) .nil)))) (.cons (.par [7, 8] (.cons (.call c_law_of (.cons (.var 0) (.cons (.lst false (.cons (.lit (.str [108, 105, 110, 101])) (.cons (.lit (.str [114, 105, 110, 103])) .nil))) .nil))) (.cons (.call c_law_rules (.cons (.var 0) (.cons (.var 5) (.cons (.var 6) .nil)))) .nil))) (.cons (.asg (.name 3) (.call c_law_rules (.cons (.var 0) (.cons (.var 5) (.cons (.var 6) .nil))))) (.cons (.ifs (.cmp .Eq (.call c_law_take (.cons (.var 0) (.cons (.lit (.int 3)) .nil))) (.lit (.int 0))) (.cons (.asg (.name 3) (.blt .tuple false (.cons (.blt .sorted false (.cons (.lc false [9, 10] (.tup (.cons (.name 9) (.cons (.name 10) .nil))) (.e (.var 8)) .no (law_any_game_e1 c_law_turned_text)) .nil)) .nil))) .nil) .nil) (.cons (.asg (.name 4) (.tup (.cons (.call c_law_of (.cons (.var 0) (.cons (.lst false (.cons (.lit (.int 0)) (.cons (.lit (.int 9)) (.cons (.neg (.lit (.int 9))) (.cons (.neg (.lit (.int 2))) .nil))))) .nil))) (.cons (.call c_law_of (.cons (.var 0) (.cons (.lst false (.cons (.lit (.int 0)) (.cons (.neg (.lit (.int 9))) (.cons (.lit (.int 9)) (.cons (.lit (.int 2)) .nil))))) .nil))) .nil)))) (.cons (.ret (.tup (.cons (.var 1) (.cons (.var 7) (.cons (.var 5) (.cons (.var 6) (.cons (.tup (.cons (.var 8) (.cons (.var 3) .nil))) (.cons (.call c_law_ends (.cons (.var 0) (.cons (.var 5) (.cons (.var 6) .nil)))) (.cons (.var 4) .nil))))))))) .nil)))))) }
def law_lists_e1 (c_law_lists : Nat) : E := (.call c_law_lists (.cons (.var 1) .nil))
def law_lists (c_law_lists : Nat) : FnD := { name := "_law_lists", ps := ["_law_thing"], N := ["_law_thing", "_law_one"], gc := true, body :=
    (.cons (.ret (.ife (.blt .isi false (.cons (.var 0) (.cons (.tup (.cons (.bty "list") (.cons (.bty "tuple") .nil))) .nil))) (.lc false [1] (.name 1) (.e (.var 0)) .no (law_lists_e1 c_law_lists)) (.var 0))) .nil) }
end Lib

def TakeOk (c : CallSem) (i : Nat) : Prop := ∀ (h : AH) (r b : Nat) (g : AH) (room : Int), Box h r b g → 0 < room → room ≤ 10000000 → b + 1 ≤ 1000000000000 → ∃ v g', c i [.ref r, .int room] g = .ok (.int v) g' ∧ 0 ≤ v ∧ v < room ∧ Box h r (b + 1) g'

theorem idx_box0 {h : AH} {r : Nat} {a m k : Int} (e : h[r]? = some (boxC a m k)) : idxop (.ref r) (.int 0) h = .ok (.int a) h := by
  simp [idxop, seqOf, e, boxC, ixA]
theorem idx_box1 {h : AH} {r : Nat} {a m k : Int} (e : h[r]? = some (boxC a m k)) : idxop (.ref r) (.int 1) h = .ok (.int m) h := by
  simp [idxop, seqOf, e, boxC, ixA]
theorem idx_box2 {h : AH} {r : Nat} {a m k : Int} (e : h[r]? = some (boxC a m k)) : idxop (.ref r) (.int 2) h = .ok (.int k) h := by
  simp [idxop, seqOf, e, boxC, ixA]
theorem set_box0 {h : AH} {r : Nat} {a m k x : Int} (e : h[r]? = some (boxC a m k)) : setAt (.ref r) (.int 0) (.int x) h = .ok () (h.set r (boxC x m k)) := by
  simp [setAt, e, boxC, ixA]
theorem set_box2 {h : AH} {r : Nat} {a m k x : Int} (e : h[r]? = some (boxC a m k)) : setAt (.ref r) (.int 2) (.int x) h = .ok () (h.set r (boxC a m x)) := by
  simp [setAt, e, boxC, ixA]

theorem take_body {C : Ctx} {i r : Nat} {h : AH} {a m k room : Int} (hr : r < h.length) (ha : 0 ≤ a) (hm : 0 ≤ m) (hm2 : m < 2147483647) (hk : 0 ≤ k) (hk2 : k < 1000000000000) (h0 : 0 < room) (h1 : room ≤ 10000000) :
    ∃ (s : St) (v a' k' : Int), evSs C (Lib.law_take i).body [some (.ref r), some (.int room), none, none, none, none] (h.set r (boxC a m k)) = .ok (s, .rt (.int v)) (h.set r (boxC a' m k')) ∧ 0 ≤ v ∧ v < room ∧ 0 ≤ a' ∧ 0 ≤ k' ∧ k' ≤ k + 1 := by
  have e1 : (h.set r (boxC a m k))[r]? = some (boxC a m k) := List.getElem?_set_self hr
  by_cases hp : 0 < a
  · have dm : ∀ H, bltop .divmod false [.int a, .int room] H = .ok (.tup [.int (a / room), .int (a % room)]) H := fun H => blt_divmod _ _ ⟨ha, h0, by omega⟩
    simp only [Lib.law_take, evSs, es_asg, es_par, es_aug, es_expr, es_ret, es_ifs, es_for, es_while, es_pass, es_brk, es_cont, ee_lit, ee_var, ee_glob, ee_bty, ee_bin, ee_neg, ee_cmp, ee_chain, ee_not, ee_and, ee_or, ee_ife, ee_tup, ee_lst, ee_idx, ee_slice, ee_rev, ee_call, ee_blt, ee_mth, ee_lc, ee_lc2, evA, evO, evC, evI, evG, evGs, R.bind_ok, seqOf_tup, seqOf_lst, bin_add, bin_sub, bin_pow7, bin_pow18, cmp_gt, cmp_lt, cmp_ge, cmp_le, blt_abs, getV, List.getElem?_cons_zero, List.getElem?_cons_succ, List.set_cons_zero, List.set_cons_succ, List.map_cons, List.map_nil, List.length_cons, List.length_nil, List.replicate, List.cons_append, List.nil_append, Nat.reduceAdd, Nat.reduceSub, Nat.zero_add, idx_box0 e1, hp, decide_true, dm, tgsLen, if_true, set_box0 e1, List.set_set]
    exact ⟨_, a % room, a / room, k, rfl, Int.emod_nonneg _ (by omega), Int.emod_lt_of_pos _ h0, Int.ediv_nonneg ha (by omega), hk, by omega⟩
  · have ha0 : a = 0 := by omega
    subst ha0
    have hroom : ¬ (10000000 < room) := by omega
    have e2 : (h.set r (boxC 0 m (k + 1)))[r]? = some (boxC 0 m (k + 1)) := List.getElem?_set_self hr
    have q1 : ∀ H, binop .Mult false (.int (k + 1)) (.int (k + 1)) H = .ok (.int ((k + 1) * (k + 1))) H := fun H => bin_mul _ _ (.inl (by omega))
    have q2 : ∀ H, binop .Mult false (.int 39373) (.int (k + 1)) H = .ok (.int (39373 * (k + 1))) H := fun H => bin_mul _ _ (.inl (by decide))
    have q3 : ∀ x H, binop .Mult false (.int (m + 39373 * (k + 1))) (.int x) H = .ok (.int ((m + 39373 * (k + 1)) * x)) H := fun x H => bin_mul _ _ (.inl (by omega))
    have q4 : ∀ x H, binop .Mod false (.int x) (.int 2147483587) H = .ok (.int (x % 2147483587)) H := fun x H => bin_mod _ _ (by decide)
    have q5 : ∀ x H, binop .Mod false (.int x) (.int 30011) H = .ok (.int (x % 30011)) H := fun x H => bin_mod _ _ (by decide)
    have q6 : ∀ x y H, binop .Mult false (.int (x % 2147483587)) (.int y) H = .ok (.int (x % 2147483587 * y)) H := fun x y H => bin_mul _ _ (.inl (by omega))
    have q7 : ∀ x H, binop .Mod false (.int x) (.int 2147483563) H = .ok (.int (x % 2147483563)) H := fun x H => bin_mod _ _ (by decide)
    have q8 : ∀ x H, binop .Mod false (.int x) (.int 1013) H = .ok (.int (x % 1013)) H := fun x H => bin_mod _ _ (by decide)
    have q9 : ∀ x y H, binop .Mult false (.int (x % 2147483563)) (.int y) H = .ok (.int (x % 2147483563 * y)) H := fun x y H => bin_mul _ _ (.inl (by omega))
    have qa : ∀ x H, binop .Mod false (.int x) (.int 998244353) H = .ok (.int (x % 998244353)) H := fun x H => bin_mod _ _ (by decide)
    have qb : ∀ x H, binop .FloorDiv false (.int x) (.int 16) H = .ok (.int (x / 16)) H := fun x H => bin_div _ _ (by decide)
    have qc : ∀ x H, binop .Mod false (.int x) (.int room) H = .ok (.int (x % room)) H := fun x H => bin_mod _ _ h0
    simp only [Lib.law_take, evSs, es_asg, es_par, es_aug, es_expr, es_ret, es_ifs, es_for, es_while, es_pass, es_brk, es_cont, ee_lit, ee_var, ee_glob, ee_bty, ee_bin, ee_neg, ee_cmp, ee_chain, ee_not, ee_and, ee_or, ee_ife, ee_tup, ee_lst, ee_idx, ee_slice, ee_rev, ee_call, ee_blt, ee_mth, ee_lc, ee_lc2, evA, evO, evC, evI, evG, evGs, R.bind_ok, seqOf_tup, seqOf_lst, bin_add, bin_sub, bin_pow7, bin_pow18, cmp_gt, cmp_lt, cmp_ge, cmp_le, blt_abs, getV, List.getElem?_cons_zero, List.getElem?_cons_succ, List.set_cons_zero, List.set_cons_succ, List.map_cons, List.map_nil, List.length_cons, List.length_nil, List.replicate, List.cons_append, List.nil_append, Nat.reduceAdd, Nat.reduceSub, Nat.zero_add, idx_box0 e1, idx_box2 e1, hp, hroom, decide_false, set_box2 e1, List.set_set, idx_box2 e2, idx_box1 e2, q1, q2, q3, q4, q5, q6, q7, q8, q9, qa, qb, qc]
    exact ⟨_, _, 0, k + 1, rfl, Int.emod_nonneg _ (by omega), Int.emod_lt_of_pos _ h0, by omega, by omega, by omega⟩

theorem take_ok {P : List FnD} {G : List AV} {n i : Nat} (hd : P[i]? = some (Lib.law_take i)) : TakeOk (callN P G (n + 1)) i := by
  rintro h r b g room ⟨hr, pl, a, m, k, rfl, ha, hm, hm2, hk, hkb⟩ h0 h1 hb
  obtain ⟨s, v, a', k', e, v0, v1, a0, k0, k1⟩ := take_body (C := ⟨callN P G n, G⟩) (i := i) hr ha hm hm2 hk (by omega) h0 h1
  refine ⟨v, h.set r (boxC a' m k'), ?_, v0, v1, hr, pl, a', m, k', rfl, a0, hm, hm2, k0, by omega⟩
  rw [call_rt hd rfl e]
  show gcOf true _ _ _ = _
  rw [gc_ok rfl _ rfl]
  · rw [List.length_set, List.take_of_length_le (by rw [List.length_set]; exact Nat.le_refl _)]
  · exact ((pl.set rfl)).take _
end SP
end
section
set_option maxRecDepth 10000
set_option maxHeartbeats 1000000
/-! Loops; texts, rules, games. -/
namespace SP

section
variable {bind : AV → AH → R St} {c elt : St → AH → R AV} {src : Src}
theorem lc_from {items : List AV} {I : Nat → AH → List AV → Prop} (hat : ∀ i h acc, I i h acc → src.at i h = some items[i]?)
    (step : ∀ i x h acc, items[i]? = some x → I i h acc → ∃ s h1, bind x h = .ok s h1 ∧ ∃ b h2, c s h1 = .ok (.bl b) h2 ∧ ((b = true ∧ ∃ y h3, elt s h2 = .ok y h3 ∧ I (i + 1) h3 (acc ++ [y])) ∨ (b = false ∧ I (i + 1) h2 acc))) :
    ∀ (d f i : Nat) (h : AH) (acc : List AV), items.length - i = d → i ≤ items.length → d < f → I i h acc → ∃ ys h', lcGo bind c elt src f i h = .ok ys h' ∧ I items.length h' (acc ++ ys)
  | 0, f, i, h, acc, hd, hi, hf, q => by
    have e : i = items.length := by omega
    subst e
    cases f with
    | zero => omega
    | succ f =>
      refine ⟨[], h, ?_, by rw [List.append_nil]; exact q⟩
      simp only [lcGo, hat _ _ _ q, List.getElem?_eq_none (Nat.le_refl _)]
  | d + 1, f, i, h, acc, hd, hi, hf, q => by
    cases f with
    | zero => omega
    | succ f =>
      have lt : i < items.length := by omega
      have g := List.getElem?_eq_getElem lt
      obtain ⟨s, h1, e1, b, h2, e2, r⟩ := step i _ h acc g q
      rcases r with ⟨rfl, y, h3, e3, q3⟩ | ⟨rfl, q3⟩
      · obtain ⟨ys, h', e4, q4⟩ := lc_from hat step d f (i + 1) h3 (acc ++ [y]) (by omega) (by omega) (by omega) q3
        refine ⟨y :: ys, h', ?_, by rw [List.append_assoc] at q4; exact q4⟩
        simp only [lcGo, hat _ _ _ q, g, e1, e2, e3, e4, noX_ok, R.bind_ok]
      · obtain ⟨ys, h', e4, q4⟩ := lc_from hat step d f (i + 1) h2 acc (by omega) (by omega) (by omega) q3
        refine ⟨ys, h', ?_, q4⟩
        simp only [lcGo, hat _ _ _ q, g, e1, e2, e4, noX_ok, R.bind_ok]
theorem lc_inv {items : List AV} (I : Nat → AH → List AV → Prop) {h : AH} (hl : items.length ≤ bigL) (hat : ∀ i h acc, I i h acc → src.at i h = some items[i]?) (h0 : I 0 h [])
    (step : ∀ i x h acc, items[i]? = some x → I i h acc → ∃ s h1, bind x h = .ok s h1 ∧ ∃ b h2, c s h1 = .ok (.bl b) h2 ∧ ((b = true ∧ ∃ y h3, elt s h2 = .ok y h3 ∧ I (i + 1) h3 (acc ++ [y])) ∨ (b = false ∧ I (i + 1) h2 acc))) :
    ∃ ys h', lcGo bind c elt src loopL 0 h = .ok ys h' ∧ I items.length h' ys := by
  obtain ⟨ys, h', e, q⟩ := lc_from hat step items.length loopL 0 h [] (by omega) (Nat.zero_le _) (by unfold loopL; omega) h0
  exact ⟨ys, h', e, q⟩
end
section
variable {bind : AV → St → AH → R St} {body : St → AH → R (St × Fl)} {src : Src}
theorem for_from {items : List AV} {I : Nat → St → AH → Prop} (hat : ∀ i s h, I i s h → src.at i h = some items[i]?)
    (step : ∀ i x s h, items[i]? = some x → I i s h → ∃ s1 h1, bind x s h = .ok s1 h1 ∧ ∃ s2 h2, body s1 h1 = .ok (s2, .nx) h2 ∧ I (i + 1) s2 h2) :
    ∀ (d f i : Nat) (s : St) (h : AH), items.length - i = d → i ≤ items.length → d < f → I i s h → ∃ s' h', forGo bind body src f i s h = .ok (s', .nx) h' ∧ I items.length s' h'
  | 0, f, i, s, h, hd, hi, hf, q => by
    have e : i = items.length := by omega
    subst e
    cases f with
    | zero => omega
    | succ f =>
      refine ⟨s, h, ?_, q⟩
      simp only [forGo, hat _ _ _ q, List.getElem?_eq_none (Nat.le_refl _)]
  | d + 1, f, i, s, h, hd, hi, hf, q => by
    cases f with
    | zero => omega
    | succ f =>
      have lt : i < items.length := by omega
      have g := List.getElem?_eq_getElem lt
      obtain ⟨s1, h1, e1, s2, h2, e2, q2⟩ := step i _ s h g q
      obtain ⟨s', h', e4, q4⟩ := for_from hat step d f (i + 1) s2 h2 (by omega) (by omega) (by omega) q2
      refine ⟨s', h', ?_, q4⟩
      simp only [forGo, hat _ _ _ q, g, e1, e2, e4, R.bind_ok]
theorem for_inv {items : List AV} (I : Nat → St → AH → Prop) {s : St} {h : AH} (hl : items.length ≤ bigL) (hat : ∀ i s h, I i s h → src.at i h = some items[i]?) (h0 : I 0 s h)
    (step : ∀ i x s h, items[i]? = some x → I i s h → ∃ s1 h1, bind x s h = .ok s1 h1 ∧ ∃ s2 h2, body s1 h1 = .ok (s2, .nx) h2 ∧ I (i + 1) s2 h2) :
    ∃ s' h', forGo bind body src loopL 0 s h = .ok (s', .nx) h' ∧ I items.length s' h' :=
  for_from hat step items.length loopL 0 s h (by omega) (Nat.zero_le _) (by unfold loopL; omega) h0
end

theorem lcRun_inv {C : Ctx} {st : St} {own : List Nat} {t : Tg} {cd : Eo} {el : E} {src : Src} {items : List AV} (I : Nat → AH → List AV → Prop) {h : AH} (hl : items.length ≤ bigL) (hat : ∀ i h acc, I i h acc → src.at i h = some items[i]?) (h0 : I 0 h [])
    (step : ∀ i x h acc, items[i]? = some x → I i h acc → ∃ s h1, evG C t x (wipeA st own) h = .ok s h1 ∧ ∃ b h2, evC C s cd h1 = .ok (.bl b) h2 ∧ ((b = true ∧ ∃ y h3, evE C s el h2 = .ok y h3 ∧ I (i + 1) h3 (acc ++ [y])) ∨ (b = false ∧ I (i + 1) h2 acc))) :
    ∃ ys h', lcRun C st own t cd el src h = .ok ys h' ∧ I items.length h' ys := lc_inv I hl hat h0 step
theorem forRun_inv {C : Ctx} {t : Tg} {body : Ss} {src : Src} {items : List AV} (I : Nat → St → AH → Prop) {s : St} {h : AH} (hl : items.length ≤ bigL) (hat : ∀ i s h, I i s h → src.at i h = some items[i]?) (h0 : I 0 s h)
    (step : ∀ i x s h, items[i]? = some x → I i s h → ∃ s1 h1, evG C t x s h = .ok s1 h1 ∧ ∃ s2 h2, evSs C body s1 h1 = .ok (s2, .nx) h2 ∧ I (i + 1) s2 h2) :
    ∃ s' h', forRun C t body src s h = .ok (s', .nx) h' ∧ I items.length s' h' := for_inv I hl hat h0 step

theorem blt_len_str (s : List Nat) (m : Bool) (h : AH) : bltop .len m [.str s] h = .ok (.int s.length) h := rfl
theorem blt_len_lst (xs : List AV) (m : Bool) (h : AH) : bltop .len m [.lst xs] h = .ok (.int xs.length) h := rfl
theorem blt_len_tup (xs : List AV) (m : Bool) (h : AH) : bltop .len m [.tup xs] h = .ok (.int xs.length) h := rfl
theorem ix_nat {n j : Nat} (h : j < n) : ixA n (j : Int) = some j := by
  unfold ixA
  rw [if_pos (by omega), if_pos (by omega)]
  simp
theorem idx_str {s : List Nat} {j : Nat} (h : AH) (hj : j < s.length) : idxop (.str s) (.int j) h = .ok (.str [s[j]]) h := by
  simp only [idxop, ix_nat hj, Option.bind_some, List.getElem?_eq_getElem hj]
theorem idx_lst {s : List AV} {j : Nat} (h : AH) (hj : j < s.length) : idxop (.lst s) (.int j) h = .ok s[j] h := by
  simp only [idxop, seqOf, ix_nat hj, Option.bind_some, List.getElem?_eq_getElem hj]
theorem idx_tup {s : List AV} {j : Nat} (h : AH) (hj : j < s.length) : idxop (.tup s) (.int j) h = .ok s[j] h := by
  simp only [idxop, seqOf, ix_nat hj, Option.bind_some, List.getElem?_eq_getElem hj]

theorem Box.ret {h g : AH} {r b n : Nat} {v : AV} (B : Box h r b g) (hn : n = h.length) (hv : below 0 v = true) : gcOf true n v g = .ok v g := by
  have l := B.len
  rw [gc_ok hv (B.pl.take _) rfl, List.take_of_length_le (by omega)]

/-! ### one of some -/
def OfS (c : CallSem) (i : Nat) : Prop := ∀ (h : AH) (r b : Nat) (g : AH) (s : List Nat), Box h r b g → 0 < s.length → s.length ≤ 1000 → b + 1 ≤ 1000000000000 → ∃ x g', c i [.ref r, .str s] g = .ok (.str [x]) g' ∧ x ∈ s ∧ Box h r (b + 1) g'
def OfL (c : CallSem) (i : Nat) : Prop := ∀ (h : AH) (r b : Nat) (g : AH) (s : List AV), Box h r b g → 0 < s.length → s.length ≤ 1000 → belows 0 s = true → b + 1 ≤ 1000000000000 → ∃ x g', c i [.ref r, .lst s] g = .ok x g' ∧ x ∈ s ∧ Box h r (b + 1) g'
theorem belows_mem : ∀ {xs : List AV} {n : Nat} {x : AV}, belows n xs = true → x ∈ xs → below n x = true
  | y :: r, n, x, h, hm => by
    simp only [belows, Bool.and_eq_true] at h
    rcases List.mem_cons.mp hm with e | e
    · rw [e]; exact h.1
    · exact belows_mem h.2 e
theorem ofS_ok {P : List FnD} {G : List AV} {n i j : Nat} (hd : P[i]? = some (Lib.law_of j)) (ht : TakeOk (callN P G n) j) : OfS (callN P G (n + 1)) i := by
  intro h r b g s B h0 h1 hb
  obtain ⟨v, g', e, v0, v1, B'⟩ := ht h r b g s.length B (by omega) (by omega) hb
  obtain ⟨k, rfl⟩ := Int.eq_ofNat_of_zero_le v0
  have hk : k < s.length := by omega
  refine ⟨s[k], g', ?_, List.getElem_mem _, B'⟩
  have eb : evSs ⟨callN P G n, G⟩ (Lib.law_of j).body [some (.ref r), some (.str s)] g = .ok ([some (.ref r), some (.str s)], .rt (.str [s[k]])) g' := by
    simp only [Lib.law_of, evSs, es_asg, es_par, es_aug, es_expr, es_ret, es_ifs, es_for, es_while, es_pass, es_brk, es_cont, ee_lit, ee_var, ee_glob, ee_bty, ee_bin, ee_neg, ee_cmp, ee_chain, ee_not, ee_and, ee_or, ee_ife, ee_tup, ee_lst, ee_idx, ee_slice, ee_rev, ee_call, ee_blt, ee_mth, ee_lc, ee_lc2, evA, evO, evC, evI, evG, evGs, R.bind_ok, seqOf_tup, seqOf_lst, bin_add, bin_sub, bin_pow7, bin_pow18, cmp_gt, cmp_lt, cmp_ge, cmp_le, blt_abs, getV, List.getElem?_cons_zero, List.getElem?_cons_succ, List.set_cons_zero, List.set_cons_succ, List.map_cons, List.map_nil, List.length_cons, List.length_nil, List.replicate, List.cons_append, List.nil_append, Nat.reduceAdd, Nat.reduceSub, Nat.zero_add, blt_len_str, e, idx_str g' hk]
  rw [call_rt hd rfl eb]
  exact B'.ret B.len rfl
theorem ofL_ok {P : List FnD} {G : List AV} {n i j : Nat} (hd : P[i]? = some (Lib.law_of j)) (ht : TakeOk (callN P G n) j) : OfL (callN P G (n + 1)) i := by
  intro h r b g s B h0 h1 hs hb
  obtain ⟨v, g', e, v0, v1, B'⟩ := ht h r b g s.length B (by omega) (by omega) hb
  obtain ⟨k, rfl⟩ := Int.eq_ofNat_of_zero_le v0
  have hk : k < s.length := by omega
  refine ⟨s[k], g', ?_, List.getElem_mem _, B'⟩
  have eb : evSs ⟨callN P G n, G⟩ (Lib.law_of j).body [some (.ref r), some (.lst s)] g = .ok ([some (.ref r), some (.lst s)], .rt s[k]) g' := by
    simp only [Lib.law_of, evSs, es_asg, es_par, es_aug, es_expr, es_ret, es_ifs, es_for, es_while, es_pass, es_brk, es_cont, ee_lit, ee_var, ee_glob, ee_bty, ee_bin, ee_neg, ee_cmp, ee_chain, ee_not, ee_and, ee_or, ee_ife, ee_tup, ee_lst, ee_idx, ee_slice, ee_rev, ee_call, ee_blt, ee_mth, ee_lc, ee_lc2, evA, evO, evC, evI, evG, evGs, R.bind_ok, seqOf_tup, seqOf_lst, bin_add, bin_sub, bin_pow7, bin_pow18, cmp_gt, cmp_lt, cmp_ge, cmp_le, blt_abs, getV, List.getElem?_cons_zero, List.getElem?_cons_succ, List.set_cons_zero, List.set_cons_succ, List.map_cons, List.map_nil, List.length_cons, List.length_nil, List.replicate, List.cons_append, List.nil_append, Nat.reduceAdd, Nat.reduceSub, Nat.zero_add, blt_len_lst, e, idx_lst g' hk]
  rw [call_rt hd rfl eb]
  exact B'.ret B.len (belows_mem hs (List.getElem_mem _))

/-! ### texts -/
def signs (t : List Nat) : List AV := t.map fun c => .str [c]
theorem textsA_signs : ∀ t : List Nat, textsA (signs t) = some (t.map fun c => [c])
  | [] => rfl
  | c :: r => by
    have ih := textsA_signs r
    simp only [signs, List.map_cons, textsA] at ih ⊢
    rw [ih]
    rfl
theorem join_signs : ∀ t : List Nat, joinT [] (t.map fun c => [c]) = t
  | [] => rfl
  | [c] => rfl
  | c :: d :: r => by
    have ih := join_signs (d :: r)
    simp only [List.map_cons] at ih
    simp only [List.map_cons, joinT, ih, List.append_nil, List.cons_append, List.nil_append]
theorem sum_signs : ∀ t : List Nat, ((t.map fun c => [c]).map (·.length)).sum = t.length
  | [] => rfl
  | c :: r => by
    have ih := sum_signs r
    simp only [List.map_cons, List.sum_cons, List.length_cons, List.length_nil, ih]
    omega
theorem mth_join {t : List Nat} (h : AH) (hl : t.length ≤ bigL) : mthop .join (.str []) [.lst (signs t)] h = .ok (.str t) h := by
  simp only [mthop, seqOf, textsA_signs, sum_signs, join_signs, List.length_nil, Nat.mul_zero, Nat.add_zero, if_pos hl]
theorem range_at {n : Int} {i : Nat} {x : AV} (h : (rangeA 0 n)[i]? = some x) : x = .int i ∧ (i : Int) < n := by
  unfold rangeA at h
  rw [List.getElem?_map] at h
  cases hr : (List.range (n - 0).toNat)[i]? with
  | none => rw [hr] at h; cases h
  | some j =>
    rw [hr] at h
    obtain ⟨h1, h2⟩ := List.getElem?_eq_some_iff.mp hr
    rw [List.getElem_range] at h2
    rw [List.length_range] at h1
    subst h2
    simp only [Option.map_some, Option.some.injEq] at h
    refine ⟨?_, by omega⟩
    rw [← h]
    congr 1
    omega
theorem range_len (n : Int) : (rangeA 0 n).length = n.toNat := by
  unfold rangeA
  rw [List.length_map, List.length_range, Int.sub_zero]
theorem range_ok {n : Int} (h0 : 0 ≤ n) (h1 : n ≤ 1000000) : rangeOk 0 n = true := by
  unfold rangeOk
  have e : (2 : Int) ^ 61 = 2305843009213693952 := by decide
  have e2 : ((bigL : Nat) : Int) = 1000000 := rfl
  rw [e, e2]
  simp only [Bool.and_eq_true, decide_eq_true_eq]
  refine ⟨⟨⟨⟨by decide, by decide⟩, ?_⟩, ?_⟩, ?_⟩
  · exact Int.le_trans (by decide) h0
  · exact Int.le_trans h1 (by decide)
  · rw [Int.sub_zero]; exact h1

def TextOk (c : CallSem) (i : Nat) : Prop := ∀ (h : AH) (r b : Nat) (g : AH) (s : List Nat) (n : Nat), Box h r b g → 0 < s.length → s.length ≤ 1000 → n ≤ 1000 → b + n ≤ 1000000000000 → ∃ t g', c i [.ref r, .str s, .int n] g = .ok (.str t) g' ∧ t.length = n ∧ (∀ x ∈ t, x ∈ s) ∧ Box h r (b + n) g'
theorem text_ok {P : List FnD} {G : List AV} {l i j : Nat} (hd : P[i]? = some (Lib.law_text j)) (ho : OfS (callN P G l) j) : TextOk (callN P G (l + 1)) i := by
  intro h r b g s n B h0 h1 hn hb
  obtain ⟨ys, g', e, B', t, rfl, tl, tm⟩ := lcRun_inv (C := ⟨callN P G l, G⟩) (st := [some (.ref r), some (.str s), some (.int n), none]) (own := [3]) (t := .name 3) (cd := .no) (el := Lib.law_text_e1 j) (src := .one (.xs (rangeA 0 n)))
    (items := rangeA 0 n) (fun i g acc => Box h r (b + i) g ∧ ∃ t, acc = signs t ∧ t.length = i ∧ ∀ x ∈ t, x ∈ s) (h := g) (by rw [range_len]; unfold bigL; omega) (fun _ _ _ _ => rfl) ⟨B, [], rfl, rfl, fun x hx => by simp at hx⟩ (by
      rintro i x g2 acc hx ⟨B2, t, rfl, tl, tm⟩
      obtain ⟨rfl, lt⟩ := range_at hx
      obtain ⟨y, g3, e3, hy, B3⟩ := ho h r (b + i) g2 s B2 h0 h1 (by omega)
      refine ⟨[some (.ref r), some (.str s), some (.int n), some (.int i)], g2, by simp only [evSs, es_asg, es_par, es_aug, es_expr, es_ret, es_ifs, es_for, es_while, es_pass, es_brk, es_cont, ee_lit, ee_var, ee_glob, ee_bty, ee_bin, ee_neg, ee_cmp, ee_chain, ee_not, ee_and, ee_or, ee_ife, ee_tup, ee_lst, ee_idx, ee_slice, ee_rev, ee_call, ee_blt, ee_mth, ee_lc, ee_lc2, evA, evO, evC, evI, evG, evGs, R.bind_ok, seqOf_tup, seqOf_lst, bin_add, bin_sub, bin_pow7, bin_pow18, cmp_gt, cmp_lt, cmp_ge, cmp_le, blt_abs, getV, List.getElem?_cons_zero, List.getElem?_cons_succ, List.set_cons_zero, List.set_cons_succ, List.map_cons, List.map_nil, List.length_cons, List.length_nil, List.replicate, List.cons_append, List.nil_append, Nat.reduceAdd, Nat.reduceSub, Nat.zero_add, wipeA], true, g2, by simp only [evSs, es_asg, es_par, es_aug, es_expr, es_ret, es_ifs, es_for, es_while, es_pass, es_brk, es_cont, ee_lit, ee_var, ee_glob, ee_bty, ee_bin, ee_neg, ee_cmp, ee_chain, ee_not, ee_and, ee_or, ee_ife, ee_tup, ee_lst, ee_idx, ee_slice, ee_rev, ee_call, ee_blt, ee_mth, ee_lc, ee_lc2, evA, evO, evC, evI, evG, evGs, R.bind_ok], .inl ⟨rfl, .str [y], g3, ?_, B3, t ++ [y], ?_, by rw [List.length_append, tl]; rfl, fun x hx => ?_⟩⟩
      · simp only [Lib.law_text_e1, evSs, es_asg, es_par, es_aug, es_expr, es_ret, es_ifs, es_for, es_while, es_pass, es_brk, es_cont, ee_lit, ee_var, ee_glob, ee_bty, ee_bin, ee_neg, ee_cmp, ee_chain, ee_not, ee_and, ee_or, ee_ife, ee_tup, ee_lst, ee_idx, ee_slice, ee_rev, ee_call, ee_blt, ee_mth, ee_lc, ee_lc2, evA, evO, evC, evI, evG, evGs, R.bind_ok, seqOf_tup, seqOf_lst, bin_add, bin_sub, bin_pow7, bin_pow18, cmp_gt, cmp_lt, cmp_ge, cmp_le, blt_abs, getV, List.getElem?_cons_zero, List.getElem?_cons_succ, List.set_cons_zero, List.set_cons_succ, List.map_cons, List.map_nil, List.length_cons, List.length_nil, List.replicate, List.cons_append, List.nil_append, Nat.reduceAdd, Nat.reduceSub, Nat.zero_add, e3]
      · simp only [signs, List.map_append, List.map_cons, List.map_nil]
      · rcases List.mem_append.mp hx with q | q
        · exact tm x q
        · rw [List.mem_singleton.mp q]; exact hy)
  rw [range_len, Int.toNat_natCast] at B' tl
  refine ⟨t, g', ?_, tl, tm, B'⟩
  have eb : evSs ⟨callN P G l, G⟩ (Lib.law_text j).body [some (.ref r), some (.str s), some (.int n), none] g = .ok ([some (.ref r), some (.str s), some (.int n), none], .rt (.str t)) g' := by
    simp only [Lib.law_text, evSs, es_asg, es_par, es_aug, es_expr, es_ret, es_ifs, es_for, es_while, es_pass, es_brk, es_cont, ee_lit, ee_var, ee_glob, ee_bty, ee_bin, ee_neg, ee_cmp, ee_chain, ee_not, ee_and, ee_or, ee_ife, ee_tup, ee_lst, ee_idx, ee_slice, ee_rev, ee_call, ee_blt, ee_mth, ee_lc, ee_lc2, evA, evO, evC, evI, evG, evGs, R.bind_ok, seqOf_tup, seqOf_lst, bin_add, bin_sub, bin_pow7, bin_pow18, cmp_gt, cmp_lt, cmp_ge, cmp_le, blt_abs, getV, List.getElem?_cons_zero, List.getElem?_cons_succ, List.set_cons_zero, List.set_cons_succ, List.map_cons, List.map_nil, List.length_cons, List.length_nil, List.replicate, List.cons_append, List.nil_append, Nat.reduceAdd, Nat.reduceSub, Nat.zero_add, recvOk, if_true, range_ok (n := n) (by omega) (by omega), e, mk, Bool.false_eq_true, if_false, mth_join g' (t := t) (by unfold bigL; omega)]
  rw [call_rt hd rfl eb]
  exact B'.ret B.len rfl
end SP
end
section
set_option maxRecDepth 10000
set_option maxHeartbeats 1000000
/-! Rules, ends, games. -/
namespace SP

theorem Pl.snoc {h : AH} {c : Cell} (p : Pl h) (hc : Cell.below 0 c = true) : Pl (h ++ [c]) := fun d hd => by
  rcases List.mem_append.mp hd with q | q
  · exact p d q
  · rw [List.mem_singleton.mp q]; exact hc
/-- one more cell -/
theorem Box.push {h g : AH} {r b : Nat} {c : Cell} (B : Box h r b g) (hc : Cell.below 0 c = true) : Box (h ++ [c]) r b (g ++ [c]) := by
  obtain ⟨hr, p, a, m, k, e, q⟩ := B
  refine ⟨by rw [List.length_append]; omega, p.snoc hc, a, m, k, ?_, q⟩
  rw [e, List.set_append_left _ _ hr]
theorem Box.last {h g : AH} {r b : Nat} {c : Cell} (B : Box (h ++ [c]) r b g) (hr : r < h.length) : g[h.length]? = some c := by
  obtain ⟨_, p, a, m, k, e, q⟩ := B
  rw [e, List.getElem?_set_ne (by omega), List.getElem?_append_right (Nat.le_refl _), Nat.sub_self]
  rfl
theorem Box.relast {h g : AH} {r b : Nat} {c c' : Cell} (B : Box (h ++ [c]) r b g) (hr : r < h.length) (hp : Pl h) (hc : Cell.below 0 c' = true) : Box (h ++ [c']) r b (g.set h.length c') := by
  obtain ⟨_, p, a, m, k, e, q⟩ := B
  refine ⟨by rw [List.length_append]; omega, hp.snoc hc, a, m, k, ?_, q⟩
  rw [e, List.set_append_left _ _ hr, List.set_append_left _ _ hr, List.set_append_right _ _ (by rw [List.length_set]; exact Nat.le_refl _), List.length_set, Nat.sub_self]
  rfl
theorem Box.drop {h g : AH} {r b : Nat} {c : Cell} (B : Box (h ++ [c]) r b g) (hr : r < h.length) (hp : Pl h) : Box h r b (g.take h.length) := by
  obtain ⟨_, p, a, m, k, e, q⟩ := B
  refine ⟨hr, hp, a, m, k, ?_, q⟩
  rw [e, List.set_append_left _ _ hr, List.take_left' (by rw [List.length_set])]
/-- back from a def that had a cell of its own -/
theorem Box.ret1 {h g : AH} {r b : Nat} {v : AV} {c : Cell} (B : Box (h ++ [c]) r b g) (hr : r < h.length) (hp : Pl h) (hv : below 0 v = true) : gcOf true h.length v g = .ok v (g.take h.length) := gc_ok hv ((B.drop hr hp).pl) rfl

def prA (p : List Nat × List Nat) : AV := .tup [.str p.1, .str p.2]
theorem below_prs : ∀ rs : List (List Nat × List Nat), belows 0 (rs.map prA) = true
  | [] => rfl
  | p :: r => by simp only [List.map_cons, belows, below_prs r, prA, below, Bool.and_true]
theorem cmp_ne_str (s t : List Nat) (h : AH) : cmpop .NotEq (.str s) (.str t) h = .ok (.bl (!decide (s = t))) h := by
  simp only [cmpop, eqD, depthL, flat, eqA]
theorem cmp_eq_str (s t : List Nat) (h : AH) : cmpop .Eq (.str s) (.str t) h = .ok (.bl (decide (s = t))) h := by
  simp only [cmpop, eqD, depthL, flat, eqA]
theorem cmp_eq_int (s t : Int) (h : AH) : cmpop .Eq (.int s) (.int t) h = .ok (.bl (decide (s = t))) h := by
  simp only [cmpop, eqD, depthL, flat, eqA]
  rfl
theorem flat_pr (h : AH) (k : Nat) (p : List Nat × List Nat) : flat h (k + 2) (prA p) = some (prA p) := by
  simp only [prA, flat, flatL, Option.map_some]
theorem flatL_prs (h : AH) (k : Nat) : ∀ rs : List (List Nat × List Nat), flatL (flat h (k + 2)) (rs.map prA) = some (rs.map prA)
  | [] => rfl
  | p :: r => by simp only [List.map_cons, flatL, flat_pr, flatL_prs h k r]
theorem eq_pr (p q : List Nat × List Nat) : eqA (prA p) (prA q) = decide (p = q) := by
  obtain ⟨a, b⟩ := p
  obtain ⟨c, d⟩ := q
  simp only [prA, eqA, eqAs, Bool.and_true, Prod.mk.injEq]
  by_cases h1 : a = c <;> by_cases h2 : b = d <;> simp [h1, h2]
theorem any_prs (p : List Nat × List Nat) : ∀ rs : List (List Nat × List Nat), ((rs.map prA).any fun y => eqA y (prA p)) = decide (p ∈ rs)
  | [] => rfl
  | q :: r => by
    rw [List.map_cons, List.any_cons, any_prs p r, eq_pr]
    by_cases h1 : q = p
    · subst h1; simp
    · have h2 : ¬ p = q := fun e => h1 e.symm
      simp [h1, h2]
theorem notin_prs {h : AH} {n : Nat} {o w : List Nat} {rs : List (List Nat × List Nat)} (e : h[n]? = some (.lst (rs.map prA))) : cmpop .NotIn (.tup [.str o, .str w]) (.ref n) h = .ok (.bl (!decide ((o, w) ∈ rs))) h := by
  have hf := flat_pr h 10 (o, w)
  have hl := flatL_prs h 10 rs
  have ha := any_prs (o, w) rs
  simp only [prA] at hf ha
  simp only [cmpop, inop, listOf, e, depthL, hf, hl, ha]
theorem mth_append {h : AH} {n : Nat} {xs : List AV} {v : AV} (e : h[n]? = some (.lst xs)) (hl : xs.length < bigL) : mthop .append (.ref n) [v] h = .ok .non (h.set n (.lst (xs ++ [v]))) := by
  simp only [mthop, e, if_pos hl]
theorem recv_append {h : AH} {n : Nat} (hn : n < h.length) : recvOk .append (.ref n) h = true := decide_eq_true hn
theorem cut_tail (s : List Nat) : cutA s (some 1) none = s.drop 1 := by
  cases s with
  | nil => rfl
  | cons c r =>
    unfold cutA sIxA
    have : min (Int.toNat 1) (r.length + 1) = 1 := by simp
    simp only [List.length_cons, Int.reduceLT, if_false, this, List.drop_succ_cons, List.drop_zero, Nat.add_sub_cancel, List.take_length]
theorem cut_head (s : List Nat) : cutA s none (some 1) = s.take 1 := by
  cases s with
  | nil => rfl
  | cons c r =>
    unfold cutA sIxA
    have : min (Int.toNat 1) (r.length + 1) = 1 := by simp
    simp only [List.length_cons, Int.reduceLT, if_false, this, List.drop_zero, Nat.sub_zero]
theorem slop_str (m : Bool) (s : List Nat) (lo hi : Option Int) (h : AH) : slop m (.str s) lo hi h = .ok (.str (cutA s lo hi)) h := rfl
theorem rev_strA (m : Bool) (s : List Nat) (h : AH) : revop m (.str s) h = .ok (.str s.reverse) h := rfl
theorem add_str {s t : List Nat} (m : Bool) (h : AH) (q : s.length + t.length ≤ bigL) : binop .Add m (.str s) (.str t) h = .ok (.str (s ++ t)) h := by
  simp only [binop, if_pos q]
theorem blt_min (i j : Int) (m : Bool) (h : AH) : bltop .min2 m [.int i, .int j] h = .ok (.int (if j < i then j else i)) h := rfl
theorem mk_f (xs : List AV) (h : AH) : mk false xs h = .ok (.lst xs) h := rfl
theorem mk_t (xs : List AV) (h : AH) : mk true xs h = .ok (.ref h.length) (h ++ [.lst xs]) := rfl

/-- rules as they come: of one length, not the same twice -/
def RuleOk (s : List Nat) (long : Nat) (p : List Nat × List Nat) : Prop := 1 ≤ p.1.length ∧ p.1.length ≤ 3 ∧ p.1.length ≤ long ∧ p.2.length = p.1.length ∧ p.1 ≠ p.2 ∧ (∀ x ∈ p.1, x ∈ s) ∧ ∀ x ∈ p.2, x ∈ s
def RulesOk (c : CallSem) (i : Nat) : Prop := ∀ (h : AH) (r b : Nat) (g : AH) (s : List Nat) (long : Nat), Box h r b g → 0 < s.length → s.length ≤ 1000 → 1 ≤ long → long ≤ 1000 → b + 100 ≤ 1000000000000 →
  ∃ (rs : List (List Nat × List Nat)) (g' : AH), c i [.ref r, .str s, .int long] g = .ok (.tup (sortA (rs.map prA))) g' ∧ rs.length ≤ 4 ∧ rs.Nodup ∧ (∀ p ∈ rs, RuleOk s long p) ∧ Box h r (b + 100) g'
theorem sortable_prs (rs : List (List Nat × List Nat)) : sortable (rs.map prA) = true := by
  cases rs with
  | nil => rfl
  | cons p r =>
    simp only [List.map_cons, sortable, prA, kdOf, kdsOf, Option.map_some]
    simp only [Bool.and_eq_true, List.all_eq_true]
    refine ⟨rfl, fun y hy => ?_⟩
    obtain ⟨q, _, rfl⟩ := List.mem_map.mp hy
    rfl
theorem belows_sort {xs : List AV} (h : belows 0 xs = true) : belows 0 (sortA xs) = true := by
  have : ∀ ys : List AV, (∀ y ∈ ys, below 0 y = true) → belows 0 ys = true := fun ys => by
    induction ys with
    | nil => intro _; rfl
    | cons y r ih =>
      intro q
      simp only [belows, Bool.and_eq_true]
      exact ⟨q y List.mem_cons_self, ih fun z hz => q z (List.mem_cons_of_mem _ hz)⟩
  exact this _ fun y hy => belows_mem h ((List.mergeSort_perm _ _).mem_iff.mp hy)
theorem blt_sorted_ref {h : AH} {n : Nat} {xs : List AV} (e : h[n]? = some (.lst xs)) (hs : sortable xs = true) : bltop .sorted false [.ref n] h = .ok (.lst (sortA xs)) h := by
  simp only [bltop, listOf, e, hs, if_true, mk_f]
theorem blt_sorted_lst {h : AH} {xs : List AV} (hs : sortable xs = true) : bltop .sorted false [.lst xs] h = .ok (.lst (sortA xs)) h := by
  simp only [bltop, listOf, hs, if_true, mk_f]
theorem blt_tuple_lst (xs : List AV) (m : Bool) (h : AH) : bltop .tuple m [.lst xs] h = .ok (.tup xs) h := rfl

theorem rules_ok {P : List FnD} {G : List AV} {l i jt jx : Nat} (hd : P[i]? = some (Lib.law_rules jt jx)) (ht : TakeOk (callN P G l) jt) (hx : TextOk (callN P G l) jx) : RulesOk (callN P G (l + 1)) i := by
  intro h r b g s long B h0 h1 hl0 hl1 hb
  have hr := B.1
  have pl := B.2.1
  have Bp := B.push (c := .lst []) rfl
  obtain ⟨v, g1, e1, v0, v1, B1⟩ := ht _ r b _ 5 Bp (by omega) (by omega) (by omega)
  obtain ⟨n, rfl⟩ := Int.eq_ofNat_of_zero_le v0
  obtain ⟨s2, g2, e2, rs, x4, x5, x6, rfl, B2, nd, ln, ok⟩ := forRun_inv (C := ⟨callN P G l, G⟩) (t := .name 4) (body := Lib.law_rules_b1 jt jx) (src := .one (.xs (rangeA 0 n))) (items := rangeA 0 n)
    (fun i st g => ∃ (rs : List (List Nat × List Nat)) (x4 x5 x6 : Option AV), st = [some (.ref r), some (.str s), some (.int long), some (.ref h.length), x4, x5, x6] ∧ Box (h ++ [.lst (rs.map prA)]) r (b + 1 + 10 * i) g ∧ rs.Nodup ∧ rs.length ≤ i ∧ ∀ p ∈ rs, RuleOk s long p)
    (s := [some (.ref r), some (.str s), some (.int long), some (.ref h.length), none, none, none]) (h := g1) (by rw [range_len]; unfold bigL; omega) (fun _ _ _ _ => rfl)
    ⟨[], none, none, none, rfl, B1, List.nodup_nil, Nat.le_refl _, fun p hp => by simp at hp⟩ (by
      rintro i x st g ix ⟨rs, x4, x5, x6, rfl, B, nd, ln, ok⟩
      obtain ⟨rfl, lt⟩ := range_at ix
      refine ⟨[some (.ref r), some (.str s), some (.int long), some (.ref h.length), some (.int i), x5, x6], g, by simp only [evSs, es_asg, es_par, es_aug, es_expr, es_ret, es_ifs, es_for, es_while, es_pass, es_brk, es_cont, ee_lit, ee_var, ee_glob, ee_bty, ee_bin, ee_neg, ee_cmp, ee_chain, ee_not, ee_and, ee_or, ee_ife, ee_tup, ee_lst, ee_idx, ee_slice, ee_rev, ee_call, ee_blt, ee_mth, ee_lc, ee_lc2, evA, evO, evC, evI, evG, evGs, R.bind_ok, seqOf_tup, seqOf_lst, bin_add, bin_sub, bin_pow7, bin_pow18, cmp_gt, cmp_lt, cmp_ge, cmp_le, blt_abs, getV, List.getElem?_cons_zero, List.getElem?_cons_succ, List.set_cons_zero, List.set_cons_succ, List.map_cons, List.map_nil, List.length_cons, List.length_nil, List.replicate, List.cons_append, List.nil_append, Nat.reduceAdd, Nat.reduceSub, Nat.zero_add], ?_⟩
      obtain ⟨v1, ga, ea, va0, va1, Ba⟩ := ht _ r _ g (if (long : Int) < 3 then long else 3) B (by split <;> omega) (by split <;> omega) (by omega)
      obtain ⟨n1, rfl⟩ := Int.eq_ofNat_of_zero_le va0
      have hn1 : n1 < 3 ∧ n1 < long := by split at va1 <;> omega
      obtain ⟨o, gb, eb, lo, mo, Bb⟩ := hx _ r _ ga s (1 + n1) Ba h0 h1 (by omega) (by omega)
      obtain ⟨w, gc, ec, lw, mw, Bc⟩ := hx _ r _ gb s o.length Bb h0 h1 (by omega) (by omega)
      obtain ⟨v2, gd, ed, vd0, vd1, Bd⟩ := ht _ r _ gc 3 Bc (by omega) (by omega) (by omega)
      obtain ⟨n2, rfl⟩ := Int.eq_ofNat_of_zero_le vd0
      have hn2 : n2 < 3 := by omega
      have hrot : (o.drop 1).length + (o.take 1).length ≤ bigL := by rw [List.length_drop, List.length_take]; unfold bigL; omega
      obtain ⟨nw, ew, lnw, mnw⟩ : ∃ nw : List Nat, (∀ H : AH, idxop (.lst [.str o.reverse, .str w, .str (o.drop 1 ++ o.take 1)]) (.int n2) H = .ok (.str nw) H) ∧ nw.length = o.length ∧ ∀ x ∈ nw, x ∈ s := by
        match n2, hn2 with
        | 0, _ => exact ⟨o.reverse, fun H => rfl, List.length_reverse, fun x hx => mo x (List.mem_reverse.mp hx)⟩
        | 1, _ => exact ⟨w, fun H => rfl, lw, mw⟩
        | 2, _ => exact ⟨o.drop 1 ++ o.take 1, fun H => rfl, by rw [List.length_append, List.length_drop, List.length_take]; omega, fun x hx => by
            rcases List.mem_append.mp hx with q | q
            · exact mo x (List.mem_of_mem_drop q)
            · exact mo x (List.mem_of_mem_take q)⟩
      have el := Bd.last hr
      have hlen : gd.length = h.length + 1 := by rw [Bd.len, List.length_append]; rfl
      have e1n : ((1 : Int) + (n1 : Int)) = ((1 + n1 : Nat) : Int) := by omega
      by_cases q1 : o = nw
      · refine ⟨[some (.ref r), some (.str s), some (.int long), some (.ref h.length), some (.int i), some (.str o), some (.str nw)], gd, ?_, rs, _, _, _, rfl, Bd.mono (by omega), nd, by omega, ok⟩
        simp only [Lib.law_rules_b1, evSs, es_asg, es_par, es_aug, es_expr, es_ret, es_ifs, es_for, es_while, es_pass, es_brk, es_cont, ee_lit, ee_var, ee_glob, ee_bty, ee_bin, ee_neg, ee_cmp, ee_chain, ee_not, ee_and, ee_or, ee_ife, ee_tup, ee_lst, ee_idx, ee_slice, ee_rev, ee_call, ee_blt, ee_mth, ee_lc, ee_lc2, evA, evO, evC, evI, evG, evGs, R.bind_ok, seqOf_tup, seqOf_lst, bin_add, bin_sub, bin_pow7, bin_pow18, cmp_gt, cmp_lt, cmp_ge, cmp_le, blt_abs, getV, List.getElem?_cons_zero, List.getElem?_cons_succ, List.set_cons_zero, List.set_cons_succ, List.map_cons, List.map_nil, List.length_cons, List.length_nil, List.replicate, List.cons_append, List.nil_append, Nat.reduceAdd, Nat.reduceSub, Nat.zero_add, blt_min, ea, e1n, eb, rev_strA, blt_len_str, ec, slop_str, cut_tail, cut_head, add_str _ _ hrot, mk_f, ed, ew, cmp_ne_str, decide_eq_true q1, Bool.not_true]
      · by_cases q2 : (o, nw) ∈ rs
        · refine ⟨[some (.ref r), some (.str s), some (.int long), some (.ref h.length), some (.int i), some (.str o), some (.str nw)], gd, ?_, rs, _, _, _, rfl, Bd.mono (by omega), nd, by omega, ok⟩
          simp only [Lib.law_rules_b1, evSs, es_asg, es_par, es_aug, es_expr, es_ret, es_ifs, es_for, es_while, es_pass, es_brk, es_cont, ee_lit, ee_var, ee_glob, ee_bty, ee_bin, ee_neg, ee_cmp, ee_chain, ee_not, ee_and, ee_or, ee_ife, ee_tup, ee_lst, ee_idx, ee_slice, ee_rev, ee_call, ee_blt, ee_mth, ee_lc, ee_lc2, evA, evO, evC, evI, evG, evGs, R.bind_ok, seqOf_tup, seqOf_lst, bin_add, bin_sub, bin_pow7, bin_pow18, cmp_gt, cmp_lt, cmp_ge, cmp_le, blt_abs, getV, List.getElem?_cons_zero, List.getElem?_cons_succ, List.set_cons_zero, List.set_cons_succ, List.map_cons, List.map_nil, List.length_cons, List.length_nil, List.replicate, List.cons_append, List.nil_append, Nat.reduceAdd, Nat.reduceSub, Nat.zero_add, blt_min, ea, e1n, eb, rev_strA, blt_len_str, ec, slop_str, cut_tail, cut_head, add_str _ _ hrot, mk_f, ed, ew, cmp_ne_str, decide_eq_false q1, Bool.not_false, notin_prs el, decide_eq_true q2, Bool.not_true]
        · refine ⟨[some (.ref r), some (.str s), some (.int long), some (.ref h.length), some (.int i), some (.str o), some (.str nw)], gd.set h.length (.lst (rs.map prA ++ [.tup [.str o, .str nw]])), ?_, rs ++ [(o, nw)], _, _, _, rfl, ?_, ?_, ?_, ?_⟩
          · simp only [Lib.law_rules_b1, evSs, es_asg, es_par, es_aug, es_expr, es_ret, es_ifs, es_for, es_while, es_pass, es_brk, es_cont, ee_lit, ee_var, ee_glob, ee_bty, ee_bin, ee_neg, ee_cmp, ee_chain, ee_not, ee_and, ee_or, ee_ife, ee_tup, ee_lst, ee_idx, ee_slice, ee_rev, ee_call, ee_blt, ee_mth, ee_lc, ee_lc2, evA, evO, evC, evI, evG, evGs, R.bind_ok, seqOf_tup, seqOf_lst, bin_add, bin_sub, bin_pow7, bin_pow18, cmp_gt, cmp_lt, cmp_ge, cmp_le, blt_abs, getV, List.getElem?_cons_zero, List.getElem?_cons_succ, List.set_cons_zero, List.set_cons_succ, List.map_cons, List.map_nil, List.length_cons, List.length_nil, List.replicate, List.cons_append, List.nil_append, Nat.reduceAdd, Nat.reduceSub, Nat.zero_add, blt_min, ea, e1n, eb, rev_strA, blt_len_str, ec, slop_str, cut_tail, cut_head, add_str _ _ hrot, mk_f, ed, ew, cmp_ne_str, decide_eq_false q1, Bool.not_false, notin_prs el, decide_eq_false q2, recv_append (h := gd) (n := h.length) (by omega), if_true, mth_append el (by rw [List.length_map]; unfold bigL; omega)]
          · have := (Bd.relast (c' := .lst ((rs ++ [(o, nw)]).map prA)) hr pl (below_prs _)).mono (b' := b + 1 + 10 * (i + 1)) (by omega)
            rw [List.map_append] at this ⊢
            exact this
          · rw [List.nodup_append]
            refine ⟨nd, by simp, fun p hp q hq => ?_⟩
            rw [List.mem_singleton.mp hq]
            rintro rfl
            exact q2 hp
          · rw [List.length_append]; simp; omega
          · intro p hp
            rcases List.mem_append.mp hp with q | q
            · exact ok p q
            · rw [List.mem_singleton.mp q]
              exact ⟨by show 1 ≤ o.length; omega, by show o.length ≤ 3; omega, by show o.length ≤ long; omega, lnw, q1, mo, mnw⟩)
  rw [range_len, Int.toNat_natCast] at B2 ln
  refine ⟨rs, g2.take h.length, ?_, by omega, nd, ok, (B2.drop hr pl).mono (by omega)⟩
  have el := B2.last hr
  have eb : evSs ⟨callN P G l, G⟩ (Lib.law_rules jt jx).body [some (.ref r), some (.str s), some (.int long), none, none, none, none] g = .ok ([some (.ref r), some (.str s), some (.int long), some (.ref h.length), x4, x5, x6], .rt (.tup (sortA (rs.map prA)))) g2 := by
    simp only [Lib.law_rules, evSs, es_asg, es_par, es_aug, es_expr, es_ret, es_ifs, es_for, es_while, es_pass, es_brk, es_cont, ee_lit, ee_var, ee_glob, ee_bty, ee_bin, ee_neg, ee_cmp, ee_chain, ee_not, ee_and, ee_or, ee_ife, ee_tup, ee_lst, ee_idx, ee_slice, ee_rev, ee_call, ee_blt, ee_mth, ee_lc, ee_lc2, evA, evO, evC, evI, evG, evGs, R.bind_ok, seqOf_tup, seqOf_lst, bin_add, bin_sub, bin_pow7, bin_pow18, cmp_gt, cmp_lt, cmp_ge, cmp_le, blt_abs, getV, List.getElem?_cons_zero, List.getElem?_cons_succ, List.set_cons_zero, List.set_cons_succ, List.map_cons, List.map_nil, List.length_cons, List.length_nil, List.replicate, List.cons_append, List.nil_append, Nat.reduceAdd, Nat.reduceSub, Nat.zero_add, mk_t, B.len, e1, range_ok (n := n) (by omega) (by omega), if_true, e2, blt_sorted_ref el (sortable_prs rs), blt_tuple_lst]
  rw [call_rt hd rfl eb, B.len]
  exact B2.ret1 hr pl (belows_sort (below_prs rs))
end SP
end
section
set_option maxRecDepth 10000
set_option maxHeartbeats 1000000
/-! Turned texts, ends, games. -/
namespace SP

def beadsL : List (List Nat) := [[46, 120, 111], [46, 120, 111], [46, 120], [120, 46, 111], [46, 97, 98, 122]]
/-- the last two signs change places -/
def swp (s : List Nat) (x : Nat) : Nat := if x = s.getD (s.length - 1) 0 then s.getD (s.length - 2) 0 else if x = s.getD (s.length - 2) 0 then s.getD (s.length - 1) 0 else x
theorem beads_len {s : List Nat} (h : s ∈ beadsL) : 2 ≤ s.length ∧ s.length ≤ 4 := by
  revert s
  decide
theorem beads_swp {s : List Nat} (h : s ∈ beadsL) : ∀ x ∈ s, swp s x ∈ s := by
  revert s
  decide
theorem beads_inj {s : List Nat} (h : s ∈ beadsL) : ∀ x ∈ s, ∀ y ∈ s, swp s x = swp s y → x = y := by
  revert s
  decide
theorem beads_plain {s : List Nat} (h : s ∈ beadsL) : ∀ x ∈ s, (32 ≤ x && x < 127 && x != 39 && x != 92) = true := by
  revert s
  decide
def turned (s t : List Nat) : List Nat := t.reverse.map (swp s)
def TurnedOk (c : CallSem) (i : Nat) : Prop := ∀ (g : AH) (s t : List Nat), Pl g → s ∈ beadsL → t.length ≤ 1000 → (∀ x ∈ t, x ∈ s) → c i [.str t, .str s] g = .ok (.str (turned s t)) g
theorem gc_same {g : AH} {v : AV} (p : Pl g) (hv : below 0 v = true) : gcOf true g.length v g = .ok v g := by
  rw [gc_ok hv (p.take _) rfl, List.take_length]
theorem dict_of {s : List Nat} (hs : s ∈ beadsL) : ∃ ks vs, (∀ (C : Ctx) (t : AV) (g : AH), evE C [some t, some (.str s), none, none] (.blt .dictzip false (.cons (.var 1) (.cons (.bin .Add false (.bin .Add false (.slice false (.var 1) .no (.yes (.neg (.lit (.int 2))))) (.idx (.var 1) (.neg (.lit (.int 1))))) (.idx (.var 1) (.neg (.lit (.int 2))))) .nil))) g = .ok (.dcs ks vs) g) ∧
    ∀ x ∈ s, lookS [x] ks vs = some (.str [swp s x]) := by
  simp only [beadsL, List.mem_cons, List.not_mem_nil, or_false] at hs
  rcases hs with rfl | rfl | rfl | rfl | rfl
  · exact ⟨_, _, fun C t g => rfl, by intro x hx; simp only [List.mem_cons, List.not_mem_nil, or_false] at hx; rcases hx with rfl | rfl | rfl <;> rfl⟩
  · exact ⟨_, _, fun C t g => rfl, by intro x hx; simp only [List.mem_cons, List.not_mem_nil, or_false] at hx; rcases hx with rfl | rfl | rfl <;> rfl⟩
  · exact ⟨_, _, fun C t g => rfl, by intro x hx; simp only [List.mem_cons, List.not_mem_nil, or_false] at hx; rcases hx with rfl | rfl <;> rfl⟩
  · exact ⟨_, _, fun C t g => rfl, by intro x hx; simp only [List.mem_cons, List.not_mem_nil, or_false] at hx; rcases hx with rfl | rfl | rfl <;> rfl⟩
  · exact ⟨_, _, fun C t g => rfl, by intro x hx; simp only [List.mem_cons, List.not_mem_nil, or_false] at hx; rcases hx with rfl | rfl | rfl | rfl <;> rfl⟩
theorem lits_at {t : List Nat} {i : Nat} {x : AV} (h : (lits t)[i]? = some x) : ∃ c, t[i]? = some c ∧ x = .str [c] := by
  unfold lits at h
  rw [List.getElem?_map] at h
  cases q : t[i]? with
  | none => rw [q] at h; cases h
  | some c => rw [q] at h; exact ⟨c, rfl, (Option.some.inj h).symm⟩
theorem idx_dcs {ks : List (List Nat)} {vs : List AV} {k : List Nat} {v : AV} (h : AH) (e : lookS k ks vs = some v) : idxop (.dcs ks vs) (.str k) h = .ok v h := by
  simp only [idxop, e]
theorem turned_ok {P : List FnD} {G : List AV} {l i : Nat} (hd : P[i]? = some Lib.law_turned_text) : TurnedOk (callN P G (l + 1)) i := by
  intro g s t pl hs ht hm
  obtain ⟨ks, vs, ed, ek⟩ := dict_of hs
  obtain ⟨ys, g', e, rfl, rfl⟩ := lcRun_inv (C := ⟨callN P G l, G⟩) (st := [some (.str t), some (.str s), some (.dcs ks vs), none]) (own := [3]) (t := .name 3) (cd := .no) (el := Lib.law_turned_text_e1) (src := .one (.xs (lits t.reverse))) (items := lits t.reverse)
    (fun i g2 acc => g = g2 ∧ acc = signs ((t.reverse.take i).map (swp s))) (h := g) (by unfold lits; rw [List.length_map, List.length_reverse]; unfold bigL; omega) (fun _ _ _ _ => rfl) ⟨rfl, rfl⟩ (by
      rintro i x g2 acc hx ⟨rfl, rfl⟩
      obtain ⟨c, hc, rfl⟩ := lits_at hx
      have hcs : c ∈ s := hm c (List.mem_reverse.mp (List.mem_of_getElem? hc))
      refine ⟨[some (.str t), some (.str s), some (.dcs ks vs), some (.str [c])], g, by simp only [evSs, es_asg, es_par, es_aug, es_expr, es_ret, es_ifs, es_for, es_while, es_pass, es_brk, es_cont, ee_lit, ee_var, ee_glob, ee_bty, ee_bin, ee_neg, ee_cmp, ee_chain, ee_not, ee_and, ee_or, ee_ife, ee_tup, ee_lst, ee_idx, ee_slice, ee_rev, ee_call, ee_blt, ee_mth, ee_lc, ee_lc2, evA, evO, evC, evI, evG, evGs, R.bind_ok, seqOf_tup, seqOf_lst, bin_add, bin_sub, bin_pow7, bin_pow18, cmp_gt, cmp_lt, cmp_ge, cmp_le, blt_abs, getV, List.getElem?_cons_zero, List.getElem?_cons_succ, List.set_cons_zero, List.set_cons_succ, List.map_cons, List.map_nil, List.length_cons, List.length_nil, List.replicate, List.cons_append, List.nil_append, Nat.reduceAdd, Nat.reduceSub, Nat.zero_add, wipeA], true, g, by simp only [evSs, es_asg, es_par, es_aug, es_expr, es_ret, es_ifs, es_for, es_while, es_pass, es_brk, es_cont, ee_lit, ee_var, ee_glob, ee_bty, ee_bin, ee_neg, ee_cmp, ee_chain, ee_not, ee_and, ee_or, ee_ife, ee_tup, ee_lst, ee_idx, ee_slice, ee_rev, ee_call, ee_blt, ee_mth, ee_lc, ee_lc2, evA, evO, evC, evI, evG, evGs, R.bind_ok], .inl ⟨rfl, .str [swp s c], g, ?_, rfl, ?_⟩⟩
      · simp only [Lib.law_turned_text_e1, evSs, es_asg, es_par, es_aug, es_expr, es_ret, es_ifs, es_for, es_while, es_pass, es_brk, es_cont, ee_lit, ee_var, ee_glob, ee_bty, ee_bin, ee_neg, ee_cmp, ee_chain, ee_not, ee_and, ee_or, ee_ife, ee_tup, ee_lst, ee_idx, ee_slice, ee_rev, ee_call, ee_blt, ee_mth, ee_lc, ee_lc2, evA, evO, evC, evI, evG, evGs, R.bind_ok, seqOf_tup, seqOf_lst, bin_add, bin_sub, bin_pow7, bin_pow18, cmp_gt, cmp_lt, cmp_ge, cmp_le, blt_abs, getV, List.getElem?_cons_zero, List.getElem?_cons_succ, List.set_cons_zero, List.set_cons_succ, List.map_cons, List.map_nil, List.length_cons, List.length_nil, List.replicate, List.cons_append, List.nil_append, Nat.reduceAdd, Nat.reduceSub, Nat.zero_add, idx_dcs g (ek c hcs)]
      · rw [List.take_succ, hc]
        simp only [signs, List.map_append, Option.toList_some, List.map_cons, List.map_nil])
  have el : (t.reverse.take (lits t.reverse).length) = t.reverse := by
    apply List.take_of_length_le
    unfold lits
    rw [List.length_map]
    exact Nat.le_refl _
  rw [el] at e
  have eb : evSs ⟨callN P G l, G⟩ Lib.law_turned_text.body [some (.str t), some (.str s), none, none] g = .ok ([some (.str t), some (.str s), some (.dcs ks vs), none], .rt (.str (turned s t))) g := by
    rw [show Lib.law_turned_text.body = .cons (.asg (.name 2) (.blt .dictzip false (.cons (.var 1) (.cons (.bin .Add false (.bin .Add false (.slice false (.var 1) .no (.yes (.neg (.lit (.int 2))))) (.idx (.var 1) (.neg (.lit (.int 1))))) (.idx (.var 1) (.neg (.lit (.int 2))))) .nil)))) (.cons (.ret (.mth .join (.lit (.str [])) (.cons (.lc false [3] (.name 3) (.e (.rev false (.var 0))) .no Lib.law_turned_text_e1) .nil))) .nil) from rfl]
    simp only [evSs, es_asg, ed]
    simp only [evSs, es_asg, es_par, es_aug, es_expr, es_ret, es_ifs, es_for, es_while, es_pass, es_brk, es_cont, ee_lit, ee_var, ee_glob, ee_bty, ee_bin, ee_neg, ee_cmp, ee_chain, ee_not, ee_and, ee_or, ee_ife, ee_tup, ee_lst, ee_idx, ee_slice, ee_rev, ee_call, ee_blt, ee_mth, ee_lc, ee_lc2, evA, evO, evC, evI, evG, evGs, R.bind_ok, seqOf_tup, seqOf_lst, bin_add, bin_sub, bin_pow7, bin_pow18, cmp_gt, cmp_lt, cmp_ge, cmp_le, blt_abs, getV, List.getElem?_cons_zero, List.getElem?_cons_succ, List.set_cons_zero, List.set_cons_succ, List.map_cons, List.map_nil, List.length_cons, List.length_nil, List.replicate, List.cons_append, List.nil_append, Nat.reduceAdd, Nat.reduceSub, Nat.zero_add, recvOk, if_true, rev_strA, viewOf, e, mk_f]
    rw [mth_join (t := t.reverse.map (swp s)) g (by rw [List.length_map, List.length_reverse]; unfold bigL; omega)]
    rfl
  rw [call_rt hd rfl eb]
  exact gc_same pl rfl

/-! ### ends -/
def enA (p : Int × List Nat × Int) : AV := .tup [.int p.1, .str p.2.1, .int p.2.2]
def en2 (p : Int × List Nat × Int) : AV := .tup [.int p.1, .str p.2.1]
theorem below_ens : ∀ es : List (Int × List Nat × Int), belows 0 (es.map enA) = true
  | [] => rfl
  | p :: r => by simp only [List.map_cons, belows, below_ens r, enA, below, Bool.and_true]
theorem flatL_en2 (h : AH) (k : Nat) : ∀ es : List (Int × List Nat × Int), flatL (flat h (k + 2)) (es.map en2) = some (es.map en2)
  | [] => rfl
  | p :: r => by
    have e : flat h (k + 2) (en2 p) = some (en2 p) := by simp only [en2, flat, flatL, Option.map_some]
    simp only [List.map_cons, flatL, e, flatL_en2 h k r]
theorem any_en2 (k : Int) (p : List Nat) : ∀ es : List (Int × List Nat × Int), ((es.map en2).any fun y => eqA y (.tup [.int k, .str p])) = decide ((k, p) ∈ es.map fun e => (e.1, e.2.1))
  | [] => rfl
  | e :: r => by
    rw [List.map_cons, List.any_cons, any_en2 k p r]
    simp only [en2, eqA, eqAs, Bool.and_true, List.map_cons, List.mem_cons]
    by_cases h1 : e.1 = k
    · by_cases h2 : e.2.1 = p
      · simp [h1, h2]
      · have h3 : ¬ (p = e.2.1) := fun q => h2 q.symm
        simp [h1, h2, h3]
    · have h3 : ¬ (k = e.1) := fun q => h1 q.symm
      simp [h1, h3]
theorem notin_en2 {h : AH} {k : Int} {p : List Nat} {es : List (Int × List Nat × Int)} : cmpop .NotIn (.tup [.int k, .str p]) (.lst (es.map en2)) h = .ok (.bl (!decide ((k, p) ∈ es.map fun e => (e.1, e.2.1)))) h := by
  have hl := flatL_en2 h 10 es
  have e : flat h 12 (.tup [.int k, .str p]) = some (.tup [.int k, .str p]) := by simp only [flat, flatL, Option.map_some]
  simp only [cmpop, inop, listOf, depthL, hl, e, any_en2]
theorem sortable_ens (es : List (Int × List Nat × Int)) : sortable (es.map enA) = true := by
  cases es with
  | nil => rfl
  | cons p r =>
    simp only [List.map_cons, sortable, enA, kdOf, kdsOf, Option.map_some]
    simp only [Bool.and_eq_true, List.all_eq_true]
    refine ⟨rfl, fun y hy => ?_⟩
    obtain ⟨q, _, rfl⟩ := List.mem_map.mp hy
    rfl
def worthsL : List Int := [9, -9, 1, -1, 3, -4]
def EndOk (s : List Nat) (long : Nat) (p : Int × List Nat × Int) : Prop := 0 ≤ p.1 ∧ p.1 < 3 ∧ 1 ≤ p.2.1.length ∧ p.2.1.length ≤ long ∧ (∀ x ∈ p.2.1, x ∈ s) ∧ p.2.2 ∈ worthsL
def EndsOk (c : CallSem) (i : Nat) : Prop := ∀ (h : AH) (r b : Nat) (g : AH) (s : List Nat) (long : Nat), Box h r b g → 0 < s.length → s.length ≤ 1000 → 1 ≤ long → long ≤ 1000 → b + 10000 ≤ 1000000000000 →
  ∃ (es : List (Int × List Nat × Int)) (g' : AH), c i [.ref r, .str s, .int long] g = .ok (.tup (sortA (es.map enA))) g' ∧ es.length ≤ 4 ∧ (es.map fun e => (e.1, e.2.1)).Nodup ∧ (∀ p ∈ es, EndOk s long p) ∧ Box h r (b + 10000) g'
theorem slop_tup (m : Bool) (s : List AV) (lo hi : Option Int) (h : AH) : slop m (.tup s) lo hi h = .ok (.tup (cutA s lo hi)) h := rfl
theorem add_tup {s t : List AV} (m : Bool) (h : AH) (q : s.length + t.length ≤ bigL) : binop .Add m (.tup s) (.tup t) h = .ok (.tup (s ++ t)) h := by
  simp only [binop, if_pos q]
theorem ends_ok {P : List FnD} {G : List AV} {l i jt jo jx : Nat} (hd : P[i]? = some (Lib.law_ends jt jo jx)) (ht : TakeOk (callN P G l) jt) (ho : OfL (callN P G l) jo) (hx : TextOk (callN P G l) jx) : EndsOk (callN P G (l + 1)) i := by
  intro h r b g s long B h0 h1 hl0 hl1 hb
  have hr := B.1
  have pl := B.2.1
  have Bp := B.push (c := .lst []) rfl
  obtain ⟨v, g1, e1, v0, v1, B1⟩ := ht _ r b _ 4 Bp (by omega) (by omega) (by omega)
  obtain ⟨n, rfl⟩ := Int.eq_ofNat_of_zero_le v0
  obtain ⟨s2, g2, e2, es, x4, x5, x6, x7, x8, rfl, B2, nd, ln, ok⟩ := forRun_inv (C := ⟨callN P G l, G⟩) (t := .name 4) (body := Lib.law_ends_b1 jt jo jx) (src := .one (.xs (rangeA 0 (1 + n)))) (items := rangeA 0 (1 + n))
    (fun i st g => ∃ (es : List (Int × List Nat × Int)) (x4 x5 x6 x7 x8 : Option AV), st = [some (.ref r), some (.str s), some (.int long), some (.ref h.length), x4, x5, x6, x7, x8] ∧ Box (h ++ [.lst (es.map enA)]) r (b + 1 + 1100 * i) g ∧ (es.map fun e => (e.1, e.2.1)).Nodup ∧ es.length ≤ i ∧ ∀ p ∈ es, EndOk s long p)
    (s := [some (.ref r), some (.str s), some (.int long), some (.ref h.length), none, none, none, none, none]) (h := g1) (by rw [range_len]; unfold bigL; omega) (fun _ _ _ _ => rfl)
    ⟨[], none, none, none, none, none, rfl, B1, List.nodup_nil, Nat.le_refl _, fun p hp => by simp at hp⟩ (by
      rintro i x st g ix ⟨es, x4, x5, x6, x7, x8, rfl, B, nd, ln, ok⟩
      obtain ⟨rfl, lt⟩ := range_at ix
      refine ⟨[some (.ref r), some (.str s), some (.int long), some (.ref h.length), some (.int i), x5, x6, x7, x8], g, by simp only [evSs, es_asg, es_par, es_aug, es_expr, es_ret, es_ifs, es_for, es_while, es_pass, es_brk, es_cont, ee_lit, ee_var, ee_glob, ee_bty, ee_bin, ee_neg, ee_cmp, ee_chain, ee_not, ee_and, ee_or, ee_ife, ee_tup, ee_lst, ee_idx, ee_slice, ee_rev, ee_call, ee_blt, ee_mth, ee_lc, ee_lc2, evA, evO, evC, evI, evG, evGs, R.bind_ok, seqOf_tup, seqOf_lst, bin_add, bin_sub, bin_pow7, bin_pow18, cmp_gt, cmp_lt, cmp_ge, cmp_le, blt_abs, getV, List.getElem?_cons_zero, List.getElem?_cons_succ, List.set_cons_zero, List.set_cons_succ, List.map_cons, List.map_nil, List.length_cons, List.length_nil, List.replicate, List.cons_append, List.nil_append, Nat.reduceAdd, Nat.reduceSub, Nat.zero_add], ?_⟩
      obtain ⟨wv, ga, ea, wm, Ba⟩ := ho _ r _ g [.int 9, .int (-9), .int 1, .int (-1), .int 3, .int (-4)] B (by decide) (by decide) rfl (by omega)
      obtain ⟨wi, rfl, wok⟩ : ∃ wi, wv = .int wi ∧ wi ∈ worthsL := by
        simp only [List.mem_cons, List.not_mem_nil, or_false] at wm
        rcases wm with rfl | rfl | rfl | rfl | rfl | rfl <;> exact ⟨_, rfl, by decide⟩
      obtain ⟨v1, gb, eb, vb0, vb1, Bb⟩ := ht _ r _ ga long Ba (by omega) (by omega) (by omega)
      obtain ⟨n1, rfl⟩ := Int.eq_ofNat_of_zero_le vb0
      obtain ⟨o, gc, ec, lo, mo, Bc⟩ := hx _ r _ gb s (1 + n1) Bb h0 h1 (by omega) (by omega)
      obtain ⟨k, gd, ed, k0, k1, Bd⟩ := ht _ r _ gc 3 Bc (by omega) (by omega) (by omega)
      have el := Bd.last hr
      have hlen : gd.length = h.length + 1 := by rw [Bd.len, List.length_append]; rfl
      have e1n : ((1 : Int) + (n1 : Int)) = ((1 + n1 : Nat) : Int) := by omega
      obtain ⟨ys, g5, e5, rfl, rfl⟩ := lcRun_inv (C := ⟨callN P G l, G⟩) (st := [some (.ref r), some (.str s), some (.int long), some (.ref h.length), some (.int i), some (.int wi), some (.str o), some (.tup [.int k, .str o]), x8]) (own := [8]) (t := .name 8) (cd := .no) (el := Lib.law_ends_e1) (src := .one (.cell h.length)) (items := es.map enA)
        (fun i g2 acc => gd = g2 ∧ acc = (es.take i).map en2) (h := gd) (by rw [List.length_map]; unfold bigL; omega) (fun j g2 acc q => by rw [← q.1]; simp only [Src.at, View.at, el]) ⟨rfl, rfl⟩ (by
          rintro j x g2 acc hx ⟨rfl, rfl⟩
          rw [List.getElem?_map] at hx
          cases hq : es[j]? with
          | none => rw [hq] at hx; cases hx
          | some e =>
            rw [hq] at hx
            cases hx
            refine ⟨[some (.ref r), some (.str s), some (.int long), some (.ref h.length), some (.int i), some (.int wi), some (.str o), some (.tup [.int k, .str o]), some (enA e)], gd, by simp only [evSs, es_asg, es_par, es_aug, es_expr, es_ret, es_ifs, es_for, es_while, es_pass, es_brk, es_cont, ee_lit, ee_var, ee_glob, ee_bty, ee_bin, ee_neg, ee_cmp, ee_chain, ee_not, ee_and, ee_or, ee_ife, ee_tup, ee_lst, ee_idx, ee_slice, ee_rev, ee_call, ee_blt, ee_mth, ee_lc, ee_lc2, evA, evO, evC, evI, evG, evGs, R.bind_ok, seqOf_tup, seqOf_lst, bin_add, bin_sub, bin_pow7, bin_pow18, cmp_gt, cmp_lt, cmp_ge, cmp_le, blt_abs, getV, List.getElem?_cons_zero, List.getElem?_cons_succ, List.set_cons_zero, List.set_cons_succ, List.map_cons, List.map_nil, List.length_cons, List.length_nil, List.replicate, List.cons_append, List.nil_append, Nat.reduceAdd, Nat.reduceSub, Nat.zero_add, wipeA], true, gd, by simp only [evSs, es_asg, es_par, es_aug, es_expr, es_ret, es_ifs, es_for, es_while, es_pass, es_brk, es_cont, ee_lit, ee_var, ee_glob, ee_bty, ee_bin, ee_neg, ee_cmp, ee_chain, ee_not, ee_and, ee_or, ee_ife, ee_tup, ee_lst, ee_idx, ee_slice, ee_rev, ee_call, ee_blt, ee_mth, ee_lc, ee_lc2, evA, evO, evC, evI, evG, evGs, R.bind_ok], .inl ⟨rfl, en2 e, gd, ?_, rfl, ?_⟩⟩
            · simp only [Lib.law_ends_e1, evSs, es_asg, es_par, es_aug, es_expr, es_ret, es_ifs, es_for, es_while, es_pass, es_brk, es_cont, ee_lit, ee_var, ee_glob, ee_bty, ee_bin, ee_neg, ee_cmp, ee_chain, ee_not, ee_and, ee_or, ee_ife, ee_tup, ee_lst, ee_idx, ee_slice, ee_rev, ee_call, ee_blt, ee_mth, ee_lc, ee_lc2, evA, evO, evC, evI, evG, evGs, R.bind_ok, seqOf_tup, seqOf_lst, bin_add, bin_sub, bin_pow7, bin_pow18, cmp_gt, cmp_lt, cmp_ge, cmp_le, blt_abs, getV, List.getElem?_cons_zero, List.getElem?_cons_succ, List.set_cons_zero, List.set_cons_succ, List.map_cons, List.map_nil, List.length_cons, List.length_nil, List.replicate, List.cons_append, List.nil_append, Nat.reduceAdd, Nat.reduceSub, Nat.zero_add, enA, slop_tup]
              rfl
            · rw [List.take_succ, hq]
              simp only [List.map_append, Option.toList_some, List.map_cons, List.map_nil])
      rw [List.length_map, List.take_length] at e5
      have hview : viewOf (.ref h.length) gd = some (.cell h.length) := by simp only [viewOf, viewL, el]
      by_cases q2 : (k, o) ∈ es.map fun e => (e.1, e.2.1)
      · refine ⟨[some (.ref r), some (.str s), some (.int long), some (.ref h.length), some (.int i), some (.int wi), some (.str o), some (.tup [.int k, .str o]), x8], gd, ?_, es, _, _, _, _, _, rfl, Bd.mono (by omega), nd, by omega, ok⟩
        simp only [Lib.law_ends_b1, evSs, es_asg, es_par, es_aug, es_expr, es_ret, es_ifs, es_for, es_while, es_pass, es_brk, es_cont, ee_lit, ee_var, ee_glob, ee_bty, ee_bin, ee_neg, ee_cmp, ee_chain, ee_not, ee_and, ee_or, ee_ife, ee_tup, ee_lst, ee_idx, ee_slice, ee_rev, ee_call, ee_blt, ee_mth, ee_lc, ee_lc2, evA, evO, evC, evI, evG, evGs, R.bind_ok, seqOf_tup, seqOf_lst, bin_add, bin_sub, bin_pow7, bin_pow18, cmp_gt, cmp_lt, cmp_ge, cmp_le, blt_abs, getV, List.getElem?_cons_zero, List.getElem?_cons_succ, List.set_cons_zero, List.set_cons_succ, List.map_cons, List.map_nil, List.length_cons, List.length_nil, List.replicate, List.cons_append, List.nil_append, Nat.reduceAdd, Nat.reduceSub, Nat.zero_add, mk_f, ea, e1n, eb, ec, ed, hview, e5, notin_en2, decide_eq_true q2, Bool.not_true]
      · refine ⟨[some (.ref r), some (.str s), some (.int long), some (.ref h.length), some (.int i), some (.int wi), some (.str o), some (.tup [.int k, .str o]), x8], gd.set h.length (.lst (es.map enA ++ [.tup [.int k, .str o, .int wi]])), ?_, es ++ [(k, o, wi)], _, _, _, _, _, rfl, ?_, ?_, ?_, ?_⟩
        · simp only [Lib.law_ends_b1, evSs, es_asg, es_par, es_aug, es_expr, es_ret, es_ifs, es_for, es_while, es_pass, es_brk, es_cont, ee_lit, ee_var, ee_glob, ee_bty, ee_bin, ee_neg, ee_cmp, ee_chain, ee_not, ee_and, ee_or, ee_ife, ee_tup, ee_lst, ee_idx, ee_slice, ee_rev, ee_call, ee_blt, ee_mth, ee_lc, ee_lc2, evA, evO, evC, evI, evG, evGs, R.bind_ok, seqOf_tup, seqOf_lst, bin_add, bin_sub, bin_pow7, bin_pow18, cmp_gt, cmp_lt, cmp_ge, cmp_le, blt_abs, getV, List.getElem?_cons_zero, List.getElem?_cons_succ, List.set_cons_zero, List.set_cons_succ, List.map_cons, List.map_nil, List.length_cons, List.length_nil, List.replicate, List.cons_append, List.nil_append, Nat.reduceAdd, Nat.reduceSub, Nat.zero_add, mk_f, ea, e1n, eb, ec, ed, hview, e5, notin_en2, decide_eq_false q2, Bool.not_false, recv_append (h := gd) (n := h.length) (by omega), if_true, add_tup (s := [.int k, .str o]) (t := [.int wi]) false gd (show 3 ≤ 1000000 by decide), List.append_assoc, mth_append el (by rw [List.length_map]; unfold bigL; omega)]
        · have := (Bd.relast (c' := .lst ((es ++ [(k, o, wi)]).map enA)) hr pl (below_ens _)).mono (b' := b + 1 + 1100 * (i + 1)) (by omega)
          rw [List.map_append] at this ⊢
          exact this
        · rw [List.map_append, List.nodup_append]
          refine ⟨nd, by simp, fun p hp q hq => ?_⟩
          rw [List.map_cons, List.map_nil] at hq
          rw [List.mem_singleton.mp hq]
          rintro rfl
          exact q2 hp
        · rw [List.length_append]; simp; omega
        · intro p hp
          rcases List.mem_append.mp hp with q | q
          · exact ok p q
          · rw [List.mem_singleton.mp q]
            exact ⟨k0, k1, by show 1 ≤ o.length; omega, by show o.length ≤ long; omega, mo, wok⟩)
  have hl2 : (rangeA 0 (1 + (n : Int))).length = 1 + n := by rw [range_len]; omega
  rw [hl2] at B2 ln
  refine ⟨es, g2.take h.length, ?_, by omega, nd, ok, (B2.drop hr pl).mono (by omega)⟩
  have el := B2.last hr
  have eb : evSs ⟨callN P G l, G⟩ (Lib.law_ends jt jo jx).body [some (.ref r), some (.str s), some (.int long), none, none, none, none, none, none] g = .ok ([some (.ref r), some (.str s), some (.int long), some (.ref h.length), x4, x5, x6, x7, x8], .rt (.tup (sortA (es.map enA)))) g2 := by
    simp only [Lib.law_ends, evSs, es_asg, es_par, es_aug, es_expr, es_ret, es_ifs, es_for, es_while, es_pass, es_brk, es_cont, ee_lit, ee_var, ee_glob, ee_bty, ee_bin, ee_neg, ee_cmp, ee_chain, ee_not, ee_and, ee_or, ee_ife, ee_tup, ee_lst, ee_idx, ee_slice, ee_rev, ee_call, ee_blt, ee_mth, ee_lc, ee_lc2, evA, evO, evC, evI, evG, evGs, R.bind_ok, seqOf_tup, seqOf_lst, bin_add, bin_sub, bin_pow7, bin_pow18, cmp_gt, cmp_lt, cmp_ge, cmp_le, blt_abs, getV, List.getElem?_cons_zero, List.getElem?_cons_succ, List.set_cons_zero, List.set_cons_succ, List.map_cons, List.map_nil, List.length_cons, List.length_nil, List.replicate, List.cons_append, List.nil_append, Nat.reduceAdd, Nat.reduceSub, Nat.zero_add, mk_t, B.len, e1, range_ok (n := 1 + n) (by omega) (by omega), if_true, e2, blt_sorted_ref el (sortable_ens es), blt_tuple_lst]
  rw [call_rt hd rfl eb, B.len]
  exact B2.ret1 hr pl (belows_sort (below_ens es))
end SP
end
section
set_option maxRecDepth 10000
set_option maxHeartbeats 1000000
/-! Any game. -/
namespace SP

def unP : AV → List Nat × List Nat
  | .tup [.str a, .str b] => (a, b)
  | _ => ([], [])
theorem unP_prA (p : List Nat × List Nat) : unP (prA p) = p := rfl
theorem sort_prs (rs : List (List Nat × List Nat)) : ∃ rs' : List (List Nat × List Nat), sortA (rs.map prA) = rs'.map prA ∧ rs'.Perm rs := by
  have pm : (sortA (rs.map prA)).Perm (rs.map prA) := List.mergeSort_perm _ _
  refine ⟨(sortA (rs.map prA)).map unP, ?_, ?_⟩
  · rw [List.map_map]
    symm
    have : ∀ x ∈ sortA (rs.map prA), (prA ∘ unP) x = x := fun x hx => by
      obtain ⟨p, _, rfl⟩ := List.mem_map.mp (pm.mem_iff.mp hx)
      rfl
    rw [List.map_congr_left this]
    exact List.map_id' _
  · have := pm.map unP
    rw [List.map_map] at this
    have e : (unP ∘ prA) = id := by funext p; rfl
    rw [e, List.map_id] at this
    exact this
theorem map_injOn {f : Nat → Nat} {s : List Nat} (hf : ∀ x ∈ s, ∀ y ∈ s, f x = f y → x = y) : ∀ {a b : List Nat}, (∀ x ∈ a, x ∈ s) → (∀ x ∈ b, x ∈ s) → a.map f = b.map f → a = b
  | [], [], _, _, _ => rfl
  | [], _ :: _, _, _, h => by simp at h
  | _ :: _, [], _, _, h => by simp at h
  | x :: a, y :: b, ha, hb, h => by
    simp only [List.map_cons, List.cons.injEq] at h
    rw [hf x (ha x List.mem_cons_self) y (hb y List.mem_cons_self) h.1, map_injOn hf (fun z hz => ha z (List.mem_cons_of_mem _ hz)) (fun z hz => hb z (List.mem_cons_of_mem _ hz)) h.2]
theorem turned_inj {s a b : List Nat} (hs : s ∈ beadsL) (ha : ∀ x ∈ a, x ∈ s) (hb : ∀ x ∈ b, x ∈ s) (h : turned s a = turned s b) : a = b := by
  have := map_injOn (beads_inj hs) (fun x hx => ha x (List.mem_reverse.mp hx)) (fun x hx => hb x (List.mem_reverse.mp hx)) h
  exact List.reverse_inj.mp this
theorem turned_len (s t : List Nat) : (turned s t).length = t.length := by
  unfold turned
  rw [List.length_map, List.length_reverse]
theorem turned_mem {s t : List Nat} (hs : s ∈ beadsL) (ht : ∀ x ∈ t, x ∈ s) : ∀ x ∈ turned s t, x ∈ s := fun x hx => by
  obtain ⟨y, hy, rfl⟩ := List.mem_map.mp hx
  exact beads_swp hs y (ht y (List.mem_reverse.mp hy))
def turnP (s : List Nat) (p : List Nat × List Nat) : List Nat × List Nat := (turned s p.1, turned s p.2)
theorem turnP_ok {s : List Nat} {long : Nat} {p : List Nat × List Nat} (hs : s ∈ beadsL) (h : RuleOk s long p) : RuleOk s long (turnP s p) := by
  obtain ⟨h1, h2, h3, h4, h5, h6, h7⟩ := h
  refine ⟨by show 1 ≤ (turned s p.1).length; rw [turned_len]; exact h1, by show (turned s p.1).length ≤ 3; rw [turned_len]; exact h2, by show (turned s p.1).length ≤ long; rw [turned_len]; exact h3, by show (turned s p.2).length = (turned s p.1).length; rw [turned_len, turned_len]; exact h4, fun e => h5 (turned_inj hs h6 h7 e), turned_mem hs h6, turned_mem hs h7⟩

theorem nodup_mapOn {α β : Type} {f : α → β} : ∀ {l : List α}, (∀ p ∈ l, ∀ q ∈ l, f p = f q → p = q) → l.Nodup → (l.map f).Nodup
  | [], _, _ => List.nodup_nil
  | x :: r, h, n => by
    obtain ⟨n1, n2⟩ := List.nodup_cons.mp n
    rw [List.map_cons, List.nodup_cons]
    refine ⟨fun hm => ?_, nodup_mapOn (fun p hp q hq => h p (List.mem_cons_of_mem _ hp) q (List.mem_cons_of_mem _ hq)) n2⟩
    obtain ⟨y, hy, e⟩ := List.mem_map.mp hm
    exact n1 (h x List.mem_cons_self y (List.mem_cons_of_mem _ hy) e.symm ▸ hy)
structure Game where
  shape : List Nat
  beads : List Nat
  long : Nat
  r1 : List (List Nat × List Nat)
  r2 : List (List Nat × List Nat)
  en : List (Int × List Nat × Int)
  s1 : Int
  s2 : Int
def lineT : List Nat := [108, 105, 110, 101]
def ringT : List Nat := [114, 105, 110, 103]
def Game.av (nm : List Nat) (G : Game) : AV := .tup [.str nm, .str G.shape, .str G.beads, .int G.long, .tup [.tup (sortA (G.r1.map prA)), .tup (sortA (G.r2.map prA))], .tup (sortA (G.en.map enA)), .tup [.int G.s1, .int G.s2]]
def RsOk (s : List Nat) (long : Nat) (rs : List (List Nat × List Nat)) : Prop := rs.length ≤ 4 ∧ rs.Nodup ∧ ∀ p ∈ rs, RuleOk s long p
structure GameOk (longest : Nat) (G : Game) : Prop where
  shape : G.shape = lineT ∨ G.shape = ringT
  beads : G.beads ∈ beadsL
  long1 : 2 ≤ G.long
  long2 : G.long ≤ longest
  r1 : RsOk G.beads G.long G.r1
  r2 : RsOk G.beads G.long G.r2
  en1 : G.en.length ≤ 4
  en2 : (G.en.map fun e => (e.1, e.2.1)).Nodup
  en3 : ∀ p ∈ G.en, EndOk G.beads G.long p
  s1 : G.s1 ∈ [0, 9, -9, -2]
  s2 : G.s2 ∈ [0, -9, 9, 2]
def AnyGame (c : CallSem) (i : Nat) : Prop := ∀ (h : AH) (r b : Nat) (g : AH) (nm : List Nat) (longest : Nat), Box h r b g → 2 ≤ longest → longest ≤ 1000 → b + 11000 ≤ 1000000000000 →
  ∃ (K : Game) (g' : AH), c i [.ref r, .str nm, .int longest] g = .ok (K.av nm) g' ∧ GameOk longest K ∧ Box h r (b + 11000) g'
theorem game_below (nm : List Nat) (K : Game) : below 0 (K.av nm) = true := by
  simp only [Game.av, below, belows, belows_sort (below_prs _), belows_sort (below_ens _), Bool.and_true]

theorem any_game_ok {P : List FnD} {G : List AV} {l i jt jo jr ju je : Nat} (hd : P[i]? = some (Lib.law_any_game jt jo jr ju je)) (ht : TakeOk (callN P G l) jt) (ho : OfL (callN P G l) jo) (hr : RulesOk (callN P G l) jr) (hu : TurnedOk (callN P G l) ju) (he : EndsOk (callN P G l) je) : AnyGame (callN P G (l + 1)) i := by
  intro h r b g nm longest B hl0 hl1 hb
  obtain ⟨bv, g1, e1, bm, B1⟩ := ho _ r _ g [.str [46, 120, 111], .str [46, 120, 111], .str [46, 120], .str [120, 46, 111], .str [46, 97, 98, 122]] B (by decide) (by decide) rfl (by omega)
  obtain ⟨s, rfl, hs⟩ : ∃ s, bv = .str s ∧ s ∈ beadsL := by
    simp only [List.mem_cons, List.not_mem_nil, or_false] at bm
    rcases bm with rfl | rfl | rfl | rfl | rfl <;> exact ⟨_, rfl, by decide⟩
  obtain ⟨sl1, sl2⟩ := beads_len hs
  obtain ⟨v, g2, e2, v0, v1, B2⟩ := ht _ r _ g1 (longest - 1) B1 (by omega) (by omega) (by omega)
  obtain ⟨n, rfl⟩ := Int.eq_ofNat_of_zero_le v0
  have e2n : ((2 : Int) + (n : Int)) = ((2 + n : Nat) : Int) := by omega
  obtain ⟨sv, g3, e3, sm, B3⟩ := ho _ r _ g2 [.str [108, 105, 110, 101], .str [114, 105, 110, 103]] B2 (by decide) (by decide) rfl (by omega)
  obtain ⟨sh, rfl, hsh⟩ : ∃ sh, sv = .str sh ∧ (sh = lineT ∨ sh = ringT) := by
    simp only [List.mem_cons, List.not_mem_nil, or_false] at sm
    rcases sm with rfl | rfl
    · exact ⟨_, rfl, .inl rfl⟩
    · exact ⟨_, rfl, .inr rfl⟩
  obtain ⟨r1, g4, e4, c1, c2, c3, B4⟩ := hr _ r _ g3 s (2 + n) B3 (by omega) (by omega) (by omega) (by omega) (by omega)
  obtain ⟨r2, g5, e5, d1, d2, d3, B5⟩ := hr _ r _ g4 s (2 + n) B4 (by omega) (by omega) (by omega) (by omega) (by omega)
  obtain ⟨t, g6, e6, t0, t1, B6⟩ := ht _ r _ g5 3 B5 (by omega) (by omega) (by omega)
  obtain ⟨w1, g7, e7, m7, B7⟩ := ho _ r _ g6 [.int 0, .int 9, .int (-9), .int (-2)] B6 (by decide) (by decide) rfl (by omega)
  obtain ⟨s1, rfl, hs1⟩ : ∃ s1, w1 = .int s1 ∧ s1 ∈ [0, 9, -9, -2] := by
    simp only [List.mem_cons, List.not_mem_nil, or_false] at m7
    rcases m7 with rfl | rfl | rfl | rfl <;> exact ⟨_, rfl, by decide⟩
  obtain ⟨w2, g8, e8, m8, B8⟩ := ho _ r _ g7 [.int 0, .int (-9), .int 9, .int 2] B7 (by decide) (by decide) rfl (by omega)
  obtain ⟨s2, rfl, hs2⟩ : ∃ s2, w2 = .int s2 ∧ s2 ∈ [0, -9, 9, 2] := by
    simp only [List.mem_cons, List.not_mem_nil, or_false] at m8
    rcases m8 with rfl | rfl | rfl | rfl <;> exact ⟨_, rfl, by decide⟩
  obtain ⟨en, g9, e9, f1, f2, f3, B9⟩ := he _ r _ g8 s (2 + n) B8 (by omega) (by omega) (by omega) (by omega) (by omega)
  have ret : ∀ (K : Game), gcOf true g.length (K.av nm) g9 = .ok (K.av nm) g9 := fun K => B9.ret B.len (game_below nm K)
  by_cases q : t = 0
  · subst q
    obtain ⟨r1', p1, p2⟩ := sort_prs r1
    obtain ⟨ys, g', el, hg, rfl⟩ := lcRun_inv (C := ⟨callN P G l, G⟩) (st := [some (.ref r), some (.str nm), some (.int longest), some (.tup (sortA (r2.map prA))), none, some (.str s), some (.int ((2 + n : Nat) : Int)), some (.str sh), some (.tup (sortA (r1.map prA))), none, none]) (own := [9, 10]) (t := .tup (.cons (.name 9) (.cons (.name 10) .nil))) (cd := .no) (el := Lib.law_any_game_e1 ju) (src := .one (.xs (sortA (r1.map prA)))) (items := r1'.map prA)
      (fun i g2 acc => g6 = g2 ∧ acc = ((r1'.take i).map (turnP s)).map prA) (h := g6) (by rw [List.length_map, p2.length_eq]; unfold bigL; omega) (fun _ _ _ _ => by rw [p1]; rfl) ⟨rfl, rfl⟩ (by
        rintro j x g2 acc hx ⟨rfl, rfl⟩
        rw [List.getElem?_map] at hx
        cases hq : r1'[j]? with
        | none => rw [hq] at hx; cases hx
        | some p =>
          rw [hq] at hx
          cases hx
          have pk := c3 p (p2.mem_iff.mp (List.mem_of_getElem? hq))
          obtain ⟨k1, k2, k3, k4, k5, k6, k7⟩ := pk
          have u1 := hu g6 s p.1 B6.pl hs (by omega) k6
          have u2 := hu g6 s p.2 B6.pl hs (by omega) k7
          refine ⟨[some (.ref r), some (.str nm), some (.int longest), some (.tup (sortA (r2.map prA))), none, some (.str s), some (.int ((2 + n : Nat) : Int)), some (.str sh), some (.tup (sortA (r1.map prA))), some (.str p.1), some (.str p.2)], g6, by simp only [evSs, es_asg, es_par, es_aug, es_expr, es_ret, es_ifs, es_for, es_while, es_pass, es_brk, es_cont, ee_lit, ee_var, ee_glob, ee_bty, ee_bin, ee_neg, ee_cmp, ee_chain, ee_not, ee_and, ee_or, ee_ife, ee_tup, ee_lst, ee_idx, ee_slice, ee_rev, ee_call, ee_blt, ee_mth, ee_lc, ee_lc2, evA, evO, evC, evI, evG, evGs, R.bind_ok, seqOf_tup, seqOf_lst, bin_add, bin_sub, bin_pow7, bin_pow18, cmp_gt, cmp_lt, cmp_ge, cmp_le, blt_abs, getV, List.getElem?_cons_zero, List.getElem?_cons_succ, List.set_cons_zero, List.set_cons_succ, List.map_cons, List.map_nil, List.length_cons, List.length_nil, List.replicate, List.cons_append, List.nil_append, Nat.reduceAdd, Nat.reduceSub, Nat.zero_add, wipeA, prA, tgsLen, if_true], true, g6, by simp only [evSs, es_asg, es_par, es_aug, es_expr, es_ret, es_ifs, es_for, es_while, es_pass, es_brk, es_cont, ee_lit, ee_var, ee_glob, ee_bty, ee_bin, ee_neg, ee_cmp, ee_chain, ee_not, ee_and, ee_or, ee_ife, ee_tup, ee_lst, ee_idx, ee_slice, ee_rev, ee_call, ee_blt, ee_mth, ee_lc, ee_lc2, evA, evO, evC, evI, evG, evGs, R.bind_ok], .inl ⟨rfl, prA (turnP s p), g6, ?_, rfl, ?_⟩⟩
          · simp only [Lib.law_any_game_e1, evSs, es_asg, es_par, es_aug, es_expr, es_ret, es_ifs, es_for, es_while, es_pass, es_brk, es_cont, ee_lit, ee_var, ee_glob, ee_bty, ee_bin, ee_neg, ee_cmp, ee_chain, ee_not, ee_and, ee_or, ee_ife, ee_tup, ee_lst, ee_idx, ee_slice, ee_rev, ee_call, ee_blt, ee_mth, ee_lc, ee_lc2, evA, evO, evC, evI, evG, evGs, R.bind_ok, seqOf_tup, seqOf_lst, bin_add, bin_sub, bin_pow7, bin_pow18, cmp_gt, cmp_lt, cmp_ge, cmp_le, blt_abs, getV, List.getElem?_cons_zero, List.getElem?_cons_succ, List.set_cons_zero, List.set_cons_succ, List.map_cons, List.map_nil, List.length_cons, List.length_nil, List.replicate, List.cons_append, List.nil_append, Nat.reduceAdd, Nat.reduceSub, Nat.zero_add, u1, u2, prA, turnP]
          · rw [List.take_succ, hq]
            simp only [List.map_append, Option.toList_some, List.map_cons, List.map_nil])
    subst hg
    rw [List.length_map, List.take_length] at el
    refine ⟨⟨sh, s, 2 + n, r1, r1'.map (turnP s), en, s1, s2⟩, g9, ?_, ⟨hsh, hs, by show 2 ≤ 2 + n; omega, by show 2 + n ≤ longest; omega, ⟨c1, c2, c3⟩, ⟨by rw [List.length_map, p2.length_eq]; exact c1, ?_, ?_⟩, f1, f2, f3, hs1, hs2⟩, B9.mono (by omega)⟩
    · have eb : evSs ⟨callN P G l, G⟩ (Lib.law_any_game jt jo jr ju je).body [some (.ref r), some (.str nm), some (.int longest), none, none, none, none, none, none, none, none] g = .ok ([some (.ref r), some (.str nm), some (.int longest), some (.tup (sortA ((r1'.map (turnP s)).map prA))), some (.tup [.int s1, .int s2]), some (.str s), some (.int ((2 + n : Nat) : Int)), some (.str sh), some (.tup (sortA (r1.map prA))), none, none], .rt (Game.av nm ⟨sh, s, 2 + n, r1, r1'.map (turnP s), en, s1, s2⟩)) g9 := by
        simp only [Lib.law_any_game, evSs, es_asg, es_par, es_aug, es_expr, es_ret, es_ifs, es_for, es_while, es_pass, es_brk, es_cont, ee_lit, ee_var, ee_glob, ee_bty, ee_bin, ee_neg, ee_cmp, ee_chain, ee_not, ee_and, ee_or, ee_ife, ee_tup, ee_lst, ee_idx, ee_slice, ee_rev, ee_call, ee_blt, ee_mth, ee_lc, ee_lc2, evA, evO, evC, evI, evG, evGs, R.bind_ok, seqOf_tup, seqOf_lst, bin_add, bin_sub, bin_pow7, bin_pow18, cmp_gt, cmp_lt, cmp_ge, cmp_le, blt_abs, getV, List.getElem?_cons_zero, List.getElem?_cons_succ, List.set_cons_zero, List.set_cons_succ, List.map_cons, List.map_nil, List.length_cons, List.length_nil, List.replicate, List.cons_append, List.nil_append, Nat.reduceAdd, Nat.reduceSub, Nat.zero_add, mk_f, e1, e2, e2n, tgsLen, if_true, e3, e4, setAll, e5, e6, cmp_eq_int, decide_true, viewOf, el, blt_sorted_lst (sortable_prs (r1'.map (turnP s))), blt_tuple_lst, e7, e8, e9, Game.av]
      rw [call_rt hd rfl eb]
      exact ret _
    · refine nodup_mapOn ?_ (p2.nodup_iff.mpr c2)
      intro p hp q hq e
      obtain ⟨_, _, _, _, _, k6, k7⟩ := c3 p (p2.mem_iff.mp hp)
      obtain ⟨_, _, _, _, _, j6, j7⟩ := c3 q (p2.mem_iff.mp hq)
      have ea := congrArg Prod.fst e
      have ebb := congrArg Prod.snd e
      exact Prod.ext (turned_inj hs k6 j6 ea) (turned_inj hs k7 j7 ebb)
    · intro p hp
      obtain ⟨q, hq, rfl⟩ := List.mem_map.mp hp
      exact turnP_ok hs (c3 q (p2.mem_iff.mp hq))
  · refine ⟨⟨sh, s, 2 + n, r1, r2, en, s1, s2⟩, g9, ?_, ⟨hsh, hs, by show 2 ≤ 2 + n; omega, by show 2 + n ≤ longest; omega, ⟨c1, c2, c3⟩, ⟨d1, d2, d3⟩, f1, f2, f3, hs1, hs2⟩, B9.mono (by omega)⟩
    have eb : evSs ⟨callN P G l, G⟩ (Lib.law_any_game jt jo jr ju je).body [some (.ref r), some (.str nm), some (.int longest), none, none, none, none, none, none, none, none] g = .ok ([some (.ref r), some (.str nm), some (.int longest), some (.tup (sortA (r2.map prA))), some (.tup [.int s1, .int s2]), some (.str s), some (.int ((2 + n : Nat) : Int)), some (.str sh), some (.tup (sortA (r1.map prA))), none, none], .rt (Game.av nm ⟨sh, s, 2 + n, r1, r2, en, s1, s2⟩)) g9 := by
      simp only [Lib.law_any_game, evSs, es_asg, es_par, es_aug, es_expr, es_ret, es_ifs, es_for, es_while, es_pass, es_brk, es_cont, ee_lit, ee_var, ee_glob, ee_bty, ee_bin, ee_neg, ee_cmp, ee_chain, ee_not, ee_and, ee_or, ee_ife, ee_tup, ee_lst, ee_idx, ee_slice, ee_rev, ee_call, ee_blt, ee_mth, ee_lc, ee_lc2, evA, evO, evC, evI, evG, evGs, R.bind_ok, seqOf_tup, seqOf_lst, bin_add, bin_sub, bin_pow7, bin_pow18, cmp_gt, cmp_lt, cmp_ge, cmp_le, blt_abs, getV, List.getElem?_cons_zero, List.getElem?_cons_succ, List.set_cons_zero, List.set_cons_succ, List.map_cons, List.map_nil, List.length_cons, List.length_nil, List.replicate, List.cons_append, List.nil_append, Nat.reduceAdd, Nat.reduceSub, Nat.zero_add, mk_f, e1, e2, e2n, tgsLen, if_true, e3, e4, setAll, e5, e6, cmp_eq_int, decide_eq_false q, e7, e8, e9, Game.av]
    rw [call_rt hd rfl eb]
    exact ret _
end SP
end
section
set_option maxRecDepth 10000
set_option maxHeartbeats 1000000
/-! Same data; lists; the box, the folded script. -/
namespace SP

/-- no cell beyond the last one -/
def Cl (h : AH) : Prop := ∀ c ∈ h, Cell.below h.length c = true
theorem Pl.cl {h : AH} (p : Pl h) : Cl h := fun c hc => cell_up _ (p c hc)
theorem gc_cl {h : AH} {v : AV} (p : Cl h) (hv : below h.length v = true) : gcOf true h.length v h = .ok v h := by
  unfold gcOf
  rw [if_pos rfl, List.take_length, if_pos]
  simp only [Bool.and_eq_true, List.all_eq_true]
  exact ⟨hv, p⟩
theorem isi_ty {v : AV} {t n : String} {h : AH} (m : Bool) (e : typeOf h v = some t) (hn : typeNames.contains n = true) : bltop .isi m [v, .ty n] h = .ok (.bl (isaT t n)) h := by
  simp only [bltop, e, hn, if_true]
theorem isi_lt {v : AV} {t : String} {h : AH} (m : Bool) (e : typeOf h v = some t) : bltop .isi m [v, .tup [.ty "list", .ty "tuple"]] h = .ok (.bl (isaT t "list" || isaT t "tuple")) h := by
  have ht : tys [.ty "list", .ty "tuple"] = some ["list", "tuple"] := rfl
  have ha : (["list", "tuple"].all typeNames.contains) = true := by decide
  simp only [bltop, e, ht, ha, if_true, List.any_cons, List.any_nil, Bool.or_false]
theorem cmp_ne_bl (a b : Bool) (h : AH) : cmpop .NotEq (.bl a) (.bl b) h = .ok (.bl (!(a == b))) h := by
  simp only [cmpop, eqD, depthL, flat, eqA]
theorem cmp_eq_bl (a b : Bool) (h : AH) : cmpop .Eq (.bl a) (.bl b) h = .ok (.bl (a == b)) h := by
  simp only [cmpop, eqD, depthL, flat, eqA]
theorem cmp_is_non (v : AV) (h : AH) : cmpop .Is v .non h = .ok (.bl (isNon v)) h := rfl
theorem blt_len_seq {v : AV} {xs : List AV} {h : AH} (m : Bool) (e : seqOf h v = some xs) : bltop .len m [v] h = .ok (.int xs.length) h := by
  cases v <;> (try (simp [seqOf] at e; done)) <;> simp only [bltop, e]

theorem flatL_len {f : AV → Option AV} : ∀ {xs ds : List AV}, flatL f xs = some ds → xs.length = ds.length
  | [], ds, h => by
    simp only [flatL, Option.some.injEq] at h
    rw [← h]
  | x :: r, ds, h => by
    simp only [flatL] at h
    split at h
    · rename_i a b ha hb
      cases h
      rw [List.length_cons, List.length_cons, flatL_len hb]
    · cases h
theorem flatL_get {f : AV → Option AV} : ∀ {xs ds : List AV} {i : Nat} {x : AV}, flatL f xs = some ds → xs[i]? = some x → ∃ d, ds[i]? = some d ∧ f x = some d
  | [], ds, i, x, h, g => by simp at g
  | y :: r, ds, 0, x, h, g => by
    simp only [flatL] at h
    split at h
    · rename_i a b ha hb
      cases h
      have : y = x := by simpa using g
      subst this
      exact ⟨a, rfl, ha⟩
    · cases h
  | y :: r, ds, i + 1, x, h, g => by
    simp only [flatL] at h
    split at h
    · rename_i a b ha hb
      cases h
      obtain ⟨d, h1, h2⟩ := flatL_get (i := i) (x := x) hb (by simpa using g)
      exact ⟨d, by simpa using h1, h2⟩
    · cases h
/-- what reads as a list -/
theorem flat_lst {h : AH} {k : Nat} {x : AV} {ds : List AV} (e : flat h (k + 1) x = some (.lst ds)) : ∃ xs w, seqOf h x = some xs ∧ typeOf h x = some "list" ∧ viewL x h = some w ∧ (∀ i, w.at i h = some xs[i]?) ∧ flatL (flat h k) xs = some ds := by
  cases x <;> simp only [flat, Option.map_eq_some_iff, reduceCtorEq, Option.some.injEq] at e
  case ref n =>
    cases hn : h[n]? with
    | none => rw [hn] at e; cases e
    | some c =>
      cases c with
      | lst xs =>
        rw [hn] at e
        simp only [Option.map_eq_some_iff] at e
        obtain ⟨ys, e1, e2⟩ := e
        cases e2
        exact ⟨xs, .cell n, by simp only [seqOf, hn], by simp only [typeOf, hn], by simp only [viewL, hn], fun i => by simp only [View.at, hn], e1⟩
  case tup xs =>
    obtain ⟨ys, e1, e2⟩ := e
    cases e2
  case lst xs =>
    obtain ⟨ys, e1, e2⟩ := e
    cases e2
    exact ⟨xs, .xs xs, rfl, rfl, rfl, fun i => rfl, e1⟩
theorem flat_tup {h : AH} {k : Nat} {x : AV} {ds : List AV} (e : flat h (k + 1) x = some (.tup ds)) : ∃ xs, x = .tup xs ∧ flatL (flat h k) xs = some ds := by
  cases x <;> simp only [flat, Option.map_eq_some_iff, reduceCtorEq, Option.some.injEq] at e
  case ref n =>
    split at e
    · obtain ⟨ys, e1, e2⟩ := Option.map_eq_some_iff.mp e
      cases e2
    · cases e
  case tup xs =>
    obtain ⟨ys, e1, e2⟩ := e
    cases e2
    exact ⟨xs, rfl, e1⟩
  case lst xs =>
    obtain ⟨ys, e1, e2⟩ := e
    cases e2
theorem flat_atom {h : AH} {k : Nat} {x d : AV} (e : flat h (k + 1) x = some d) (hd : (∀ ds, d ≠ .lst ds) ∧ ∀ ds, d ≠ .tup ds) : x = d ∧ (d = .non ∨ (∃ b, d = .bl b) ∨ (∃ i, d = .int i) ∨ ∃ s, d = .str s) := by
  cases x <;> simp only [flat, Option.map_eq_some_iff, reduceCtorEq, Option.some.injEq] at e
  case ref n =>
    split at e
    · obtain ⟨ys, e1, e2⟩ := Option.map_eq_some_iff.mp e
      exact absurd e2.symm (hd.1 _)
    · cases e
  case tup xs =>
    obtain ⟨ys, e1, e2⟩ := e
    exact absurd e2.symm (hd.2 _)
  case lst xs =>
    obtain ⟨ys, e1, e2⟩ := e
    exact absurd e2.symm (hd.1 _)
  case non => subst e; exact ⟨rfl, .inl rfl⟩
  case bl b => subst e; exact ⟨rfl, .inr (.inl ⟨_, rfl⟩)⟩
  case int i => subst e; exact ⟨rfl, .inr (.inr (.inl ⟨_, rfl⟩))⟩
  case str s => subst e; exact ⟨rfl, .inr (.inr (.inr ⟨_, rfl⟩))⟩

theorem bools_true : ∀ n : Nat, bools (List.replicate n (.bl true)) = some (List.replicate n true)
  | 0 => rfl
  | n + 1 => by
    rw [List.replicate_succ, bools, bools_true n]
    rfl
theorem all_true (n : Nat) (m : Bool) (h : AH) : bltop .all m [.lst (List.replicate n (.bl true))] h = .ok (.bl true) h := by
  have : (List.replicate n true).all id = true := by
    rw [List.all_eq_true]
    intro x hx
    rw [(List.mem_replicate.mp hx).2]
    rfl
  simp only [bltop, listOf, bools_true, this]

def zipP (x y : AV) : AV := .tup [x, y]
theorem zip_get {xs ys : List AV} {i : Nat} : (List.zipWith zipP xs ys)[i]? = match xs[i]?, ys[i]? with
    | some x, some y => some (zipP x y)
    | _, _ => none := by
  rw [List.getElem?_zipWith]
  cases xs[i]? <;> cases ys[i]? <;> rfl

mutual
/-- no list within is too long -/
def smallA : AV → Bool
  | .lst xs => decide (xs.length ≤ bigL) && smallAs xs
  | .tup xs => decide (xs.length ≤ bigL) && smallAs xs
  | _ => true
def smallAs : List AV → Bool
  | [] => true
  | x :: r => smallA x && smallAs r
end
theorem small_get : ∀ {ds : List AV} {j : Nat} {d : AV}, smallAs ds = true → ds[j]? = some d → smallA d = true
  | [], j, d, _, g => by simp at g
  | y :: r, 0, d, h, g => by
    simp only [smallAs, Bool.and_eq_true] at h
    have : y = d := by simpa using g
    rw [← this]
    exact h.1
  | y :: r, j + 1, d, h, g => by
    simp only [smallAs, Bool.and_eq_true] at h
    exact small_get (j := j) h.2 (by simpa using g)

/-- two things that read alike are the same -/
theorem same_ok {P : List FnD} {G : List AV} {i : Nat} (hd : P[i]? = some (Lib.law_same i)) : ∀ (k l : Nat) (x y d : AV) (h : AH), Cl h → smallA d = true → flat h k x = some d → flat h k y = some d → callN P G (l + k) i [x, y] h = .ok (.bl true) h
  | 0, l, x, y, d, h, cl, sm, e1, e2 => by simp [flat] at e1
  | k + 1, l, x, y, d, h, cl, sm, e1, e2 => by
    have loop : ∀ (xs ys ds : List AV) (src : Src) (st : St), st = [some x, some y, none, none] → smallAs ds = true → flatL (flat h k) xs = some ds → flatL (flat h k) ys = some ds → (∀ j, src.at j h = some (List.zipWith zipP xs ys)[j]?) → xs.length ≤ bigL →
        lcRun ⟨callN P G (l + k), G⟩ st [2, 3] (.tup (.cons (.name 2) (.cons (.name 3) .nil))) .no (Lib.law_same_e1 i) src h = .ok (List.replicate xs.length (.bl true)) h := by
      intro xs ys ds src st hst sms f1 f2 ha hl
      subst hst
      have hlen : ys.length = xs.length := by rw [flatL_len f1, flatL_len f2]
      obtain ⟨zs, g', e, hg, hz⟩ := lcRun_inv (C := ⟨callN P G (l + k), G⟩) (st := [some x, some y, none, none]) (own := [2, 3]) (t := .tup (.cons (.name 2) (.cons (.name 3) .nil))) (cd := .no) (el := Lib.law_same_e1 i) (src := src) (items := List.zipWith zipP xs ys)
        (fun j g acc => h = g ∧ acc = List.replicate j (.bl true)) (h := h) (by rw [List.length_zipWith]; omega) (fun j g acc q => by rw [← q.1]; exact ha j) ⟨rfl, rfl⟩ (by
          rintro j z g acc hz ⟨rfl, rfl⟩
          rw [zip_get] at hz
          cases hx : xs[j]? with
          | none => rw [hx] at hz; cases hz
          | some a =>
            cases hy : ys[j]? with
            | none => rw [hx, hy] at hz; cases hz
            | some b =>
              rw [hx, hy] at hz
              cases hz
              obtain ⟨da, p1, p2⟩ := flatL_get f1 hx
              obtain ⟨db, p3, p4⟩ := flatL_get f2 hy
              have : da = db := Option.some.inj (p1.symm.trans p3)
              subst this
              have ih := same_ok (G := G) hd k l a b da h cl (small_get sms p1) p2 p4
              refine ⟨[some x, some y, some a, some b], h, by simp only [evSs, es_asg, es_par, es_aug, es_expr, es_ret, es_ifs, es_for, es_while, es_pass, es_brk, es_cont, ee_lit, ee_var, ee_glob, ee_bty, ee_bin, ee_neg, ee_cmp, ee_chain, ee_not, ee_and, ee_or, ee_ife, ee_tup, ee_lst, ee_idx, ee_slice, ee_rev, ee_call, ee_blt, ee_mth, ee_lc, ee_lc2, evA, evO, evC, evI, evG, evGs, R.bind_ok, seqOf_tup, seqOf_lst, bin_add, bin_sub, bin_pow7, bin_pow18, cmp_gt, cmp_lt, cmp_ge, cmp_le, blt_abs, getV, List.getElem?_cons_zero, List.getElem?_cons_succ, List.set_cons_zero, List.set_cons_succ, List.map_cons, List.map_nil, List.length_cons, List.length_nil, List.replicate, List.cons_append, List.nil_append, Nat.reduceAdd, Nat.reduceSub, Nat.zero_add, wipeA, zipP, tgsLen, if_true], true, h, by simp only [evSs, es_asg, es_par, es_aug, es_expr, es_ret, es_ifs, es_for, es_while, es_pass, es_brk, es_cont, ee_lit, ee_var, ee_glob, ee_bty, ee_bin, ee_neg, ee_cmp, ee_chain, ee_not, ee_and, ee_or, ee_ife, ee_tup, ee_lst, ee_idx, ee_slice, ee_rev, ee_call, ee_blt, ee_mth, ee_lc, ee_lc2, evA, evO, evC, evI, evG, evGs, R.bind_ok], .inl ⟨rfl, .bl true, h, ?_, rfl, ?_⟩⟩
              · simp only [Lib.law_same_e1, evSs, es_asg, es_par, es_aug, es_expr, es_ret, es_ifs, es_for, es_while, es_pass, es_brk, es_cont, ee_lit, ee_var, ee_glob, ee_bty, ee_bin, ee_neg, ee_cmp, ee_chain, ee_not, ee_and, ee_or, ee_ife, ee_tup, ee_lst, ee_idx, ee_slice, ee_rev, ee_call, ee_blt, ee_mth, ee_lc, ee_lc2, evA, evO, evC, evI, evG, evGs, R.bind_ok, seqOf_tup, seqOf_lst, bin_add, bin_sub, bin_pow7, bin_pow18, cmp_gt, cmp_lt, cmp_ge, cmp_le, blt_abs, getV, List.getElem?_cons_zero, List.getElem?_cons_succ, List.set_cons_zero, List.set_cons_succ, List.map_cons, List.map_nil, List.length_cons, List.length_nil, List.replicate, List.cons_append, List.nil_append, Nat.reduceAdd, Nat.reduceSub, Nat.zero_add, ih]
              · rw [List.replicate_succ'])
      rw [e, ← hg, hz, List.length_zipWith, hlen, Nat.min_self]
    have fin : evSs ⟨callN P G (l + k), G⟩ (Lib.law_same i).body [some x, some y, none, none] h = .ok ([some x, some y, none, none], .rt (.bl true)) h → callN P G (l + (k + 1)) i [x, y] h = .ok (.bl true) h := fun eb => by
      rw [show l + (k + 1) = (l + k) + 1 from rfl, call_rt hd rfl eb]
      exact gc_cl cl rfl
    by_cases hl : ∃ ds, d = .lst ds
    · obtain ⟨ds, rfl⟩ := hl
      simp only [smallA, Bool.and_eq_true, decide_eq_true_eq] at sm
      obtain ⟨xs, w1, a1, a2, a3, a4, a5⟩ := flat_lst e1
      obtain ⟨ys, w2, b1, b2, b3, b4, b5⟩ := flat_lst e2
      have hlen : ys.length = xs.length := by rw [flatL_len a5, flatL_len b5]
      have lp := loop xs ys ds (.zip w1 w2) _ rfl sm.2 a5 b5 (fun j => by
          simp only [Src.at, a4, b4, zip_get]
          cases xs[j]? <;> cases ys[j]? <;> rfl) (by rw [flatL_len a5]; exact sm.1)
      refine fin ?_
      simp only [Lib.law_same, evSs, es_asg, es_par, es_aug, es_expr, es_ret, es_ifs, es_for, es_while, es_pass, es_brk, es_cont, ee_lit, ee_var, ee_glob, ee_bty, ee_bin, ee_neg, ee_cmp, ee_chain, ee_not, ee_and, ee_or, ee_ife, ee_tup, ee_lst, ee_idx, ee_slice, ee_rev, ee_call, ee_blt, ee_mth, ee_lc, ee_lc2, evA, evO, evC, evI, evG, evGs, R.bind_ok, seqOf_tup, seqOf_lst, bin_add, bin_sub, bin_pow7, bin_pow18, cmp_gt, cmp_lt, cmp_ge, cmp_le, blt_abs, getV, List.getElem?_cons_zero, List.getElem?_cons_succ, List.set_cons_zero, List.set_cons_succ, List.map_cons, List.map_nil, List.length_cons, List.length_nil, List.replicate, List.cons_append, List.nil_append, Nat.reduceAdd, Nat.reduceSub, Nat.zero_add, isi_lt _ b2, isi_ty _ a2 (n := "list") (by decide), isi_ty _ b2 (n := "list") (by decide), isi_ty _ a2 (n := "tuple") (by decide), isi_ty _ b2 (n := "tuple") (by decide), show isaT "list" "list" = true from by decide, show isaT "list" "tuple" = false from by decide, Bool.true_or, cmp_ne_bl, beq_self_eq_true, Bool.not_true, blt_len_seq _ a1, blt_len_seq _ b1, cmp_eq_int, hlen, decide_true, a3, b3, lp, mk_f, all_true]
    · by_cases htu : ∃ ds, d = .tup ds
      · obtain ⟨ds, rfl⟩ := htu
        simp only [smallA, Bool.and_eq_true, decide_eq_true_eq] at sm
        obtain ⟨xs, rfl, a5⟩ := flat_tup e1
        obtain ⟨ys, rfl, b5⟩ := flat_tup e2
        have hlen : ys.length = xs.length := by rw [flatL_len a5, flatL_len b5]
        have ta : typeOf h (.tup xs) = some "tuple" := rfl
        have tb : typeOf h (.tup ys) = some "tuple" := rfl
        have lp := loop xs ys ds (.zip (.xs xs) (.xs ys)) _ rfl sm.2 a5 b5 (fun j => by
          simp only [Src.at, View.at, zip_get]
          cases xs[j]? <;> cases ys[j]? <;> rfl) (by rw [flatL_len a5]; exact sm.1)
        refine fin ?_
        simp only [Lib.law_same, evSs, es_asg, es_par, es_aug, es_expr, es_ret, es_ifs, es_for, es_while, es_pass, es_brk, es_cont, ee_lit, ee_var, ee_glob, ee_bty, ee_bin, ee_neg, ee_cmp, ee_chain, ee_not, ee_and, ee_or, ee_ife, ee_tup, ee_lst, ee_idx, ee_slice, ee_rev, ee_call, ee_blt, ee_mth, ee_lc, ee_lc2, evA, evO, evC, evI, evG, evGs, R.bind_ok, seqOf_tup, seqOf_lst, bin_add, bin_sub, bin_pow7, bin_pow18, cmp_gt, cmp_lt, cmp_ge, cmp_le, blt_abs, getV, List.getElem?_cons_zero, List.getElem?_cons_succ, List.set_cons_zero, List.set_cons_succ, List.map_cons, List.map_nil, List.length_cons, List.length_nil, List.replicate, List.cons_append, List.nil_append, Nat.reduceAdd, Nat.reduceSub, Nat.zero_add, isi_lt _ tb, isi_ty _ ta (n := "list") (by decide), isi_ty _ tb (n := "list") (by decide), isi_ty _ ta (n := "tuple") (by decide), isi_ty _ tb (n := "tuple") (by decide), show isaT "tuple" "list" = false from by decide, show isaT "tuple" "tuple" = true from by decide, Bool.or_true, cmp_ne_bl, beq_self_eq_true, Bool.not_true, blt_len_tup, cmp_eq_int, hlen, decide_true, viewL, viewT, lp, mk_f, all_true]
      · have hx := flat_atom e1 ⟨fun ds e => hl ⟨ds, e⟩, fun ds e => htu ⟨ds, e⟩⟩
        have hy := flat_atom e2 ⟨fun ds e => hl ⟨ds, e⟩, fun ds e => htu ⟨ds, e⟩⟩
        obtain ⟨rfl, kd⟩ := hx
        obtain ⟨rfl, _⟩ := hy
        refine fin ?_
        rcases kd with rfl | ⟨b, rfl⟩ | ⟨n, rfl⟩ | ⟨t, rfl⟩
        · rfl
        · cases b <;> rfl
        · have ty : typeOf h (.int n) = some "int" := rfl
          simp only [Lib.law_same, evSs, es_asg, es_par, es_aug, es_expr, es_ret, es_ifs, es_for, es_while, es_pass, es_brk, es_cont, ee_lit, ee_var, ee_glob, ee_bty, ee_bin, ee_neg, ee_cmp, ee_chain, ee_not, ee_and, ee_or, ee_ife, ee_tup, ee_lst, ee_idx, ee_slice, ee_rev, ee_call, ee_blt, ee_mth, ee_lc, ee_lc2, evA, evO, evC, evI, evG, evGs, R.bind_ok, seqOf_tup, seqOf_lst, bin_add, bin_sub, bin_pow7, bin_pow18, cmp_gt, cmp_lt, cmp_ge, cmp_le, blt_abs, getV, List.getElem?_cons_zero, List.getElem?_cons_succ, List.set_cons_zero, List.set_cons_succ, List.map_cons, List.map_nil, List.length_cons, List.length_nil, List.replicate, List.cons_append, List.nil_append, Nat.reduceAdd, Nat.reduceSub, Nat.zero_add, isi_lt _ ty, show (isaT "int" "list" || isaT "int" "tuple") = false from by decide, cmp_is_non, isNon, isi_ty _ ty (n := "str") (by decide), show isaT "int" "str" = false from by decide, isi_ty _ ty (n := "int") (by decide), show isaT "int" "int" = true from by decide, isi_ty _ ty (n := "bool") (by decide), cmp_eq_bl, beq_self_eq_true, cmp_eq_int, decide_true]
        · have ty : typeOf h (.str t) = some "str" := rfl
          simp only [Lib.law_same, evSs, es_asg, es_par, es_aug, es_expr, es_ret, es_ifs, es_for, es_while, es_pass, es_brk, es_cont, ee_lit, ee_var, ee_glob, ee_bty, ee_bin, ee_neg, ee_cmp, ee_chain, ee_not, ee_and, ee_or, ee_ife, ee_tup, ee_lst, ee_idx, ee_slice, ee_rev, ee_call, ee_blt, ee_mth, ee_lc, ee_lc2, evA, evO, evC, evI, evG, evGs, R.bind_ok, seqOf_tup, seqOf_lst, bin_add, bin_sub, bin_pow7, bin_pow18, cmp_gt, cmp_lt, cmp_ge, cmp_le, blt_abs, getV, List.getElem?_cons_zero, List.getElem?_cons_succ, List.set_cons_zero, List.set_cons_succ, List.map_cons, List.map_nil, List.length_cons, List.length_nil, List.replicate, List.cons_append, List.nil_append, Nat.reduceAdd, Nat.reduceSub, Nat.zero_add, isi_lt _ ty, show (isaT "str" "list" || isaT "str" "tuple") = false from by decide, cmp_is_non, isNon, isi_ty _ ty (n := "str") (by decide), show isaT "str" "str" = true from by decide, cmp_eq_bl, beq_self_eq_true, cmp_eq_str, decide_true]

mutual
/-- all tuples as lists -/
def toL : AV → AV
  | .tup xs => .lst (toLs xs)
  | .lst xs => .lst (toLs xs)
  | v => v
def toLs : List AV → List AV
  | [] => []
  | x :: r => toL x :: toLs r
end
mutual
/-- how deep tuples and lists lie within; frozen, not too long -/
def deepA : AV → Option Nat
  | .tup xs => if xs.length ≤ bigL then (deepAs xs).map (· + 1) else none
  | .lst xs => if xs.length ≤ bigL then (deepAs xs).map (· + 1) else none
  | .non => some 0
  | .bl _ => some 0
  | .int _ => some 0
  | .str _ => some 0
  | _ => none
def deepAs : List AV → Option Nat
  | [] => some 0
  | x :: r => match deepA x, deepAs r with
    | some a, some b => some (max a b)
    | _, _ => none
end
theorem deep_get : ∀ {xs : List AV} {n j : Nat} {x : AV}, deepAs xs = some n → xs[j]? = some x → ∃ m, deepA x = some m ∧ m ≤ n
  | [], n, j, x, _, g => by simp at g
  | y :: r, n, j, x, h, g => by
    simp only [deepAs] at h
    split at h
    · rename_i a b ha hb
      cases h
      cases j with
      | zero =>
        have : y = x := by simpa using g
        subst this
        exact ⟨a, ha, Nat.le_max_left _ _⟩
      | succ j =>
        obtain ⟨m, h1, h2⟩ := deep_get (j := j) (x := x) hb (by simpa using g)
        exact ⟨m, h1, Nat.le_trans h2 (Nat.le_max_right _ _)⟩
    · cases h
theorem toLs_get : ∀ {xs : List AV} {j : Nat}, (toLs xs)[j]? = xs[j]?.map toL
  | [], j => by simp [toLs]
  | y :: r, 0 => by simp [toLs]
  | y :: r, j + 1 => by
    simp only [toLs, List.getElem?_cons_succ]
    exact toLs_get
theorem toLs_map : ∀ xs : List AV, toLs xs = xs.map toL
  | [] => rfl
  | y :: r => by rw [toLs, List.map_cons, toLs_map r]
mutual
theorem deep_below : ∀ (v : AV) (n : Nat), deepA v = some n → below 0 (toL v) = true
  | .non, _, _ => rfl
  | .bl _, _, _ => rfl
  | .int _, _, _ => rfl
  | .str _, _, _ => rfl
  | .ty _, _, h => by simp [deepA] at h
  | .ref _, _, h => by simp [deepA] at h
  | .dcs _ _, _, h => by simp [deepA] at h
  | .tup xs, n, h => by
    simp only [deepA] at h
    split at h
    · obtain ⟨m, h1, h2⟩ := Option.map_eq_some_iff.mp h
      simp only [toL, below]
      exact deeps_below xs m h1
    · cases h
  | .lst xs, n, h => by
    simp only [deepA] at h
    split at h
    · obtain ⟨m, h1, h2⟩ := Option.map_eq_some_iff.mp h
      simp only [toL, below]
      exact deeps_below xs m h1
    · cases h
theorem deeps_below : ∀ (xs : List AV) (n : Nat), deepAs xs = some n → belows 0 (toLs xs) = true
  | [], _, _ => rfl
  | x :: r, n, h => by
    simp only [deepAs] at h
    split at h
    · rename_i a b ha hb
      simp only [toLs, belows, Bool.and_eq_true]
      exact ⟨deep_below x a ha, deeps_below r b hb⟩
    · cases h
end
theorem lists_ok {P : List FnD} {G : List AV} {i : Nat} (hd : P[i]? = some (Lib.law_lists i)) : ∀ (k l : Nat) (v : AV) (n : Nat) (h : AH), Pl h → deepA v = some n → n < k → callN P G (l + k) i [v] h = .ok (toL v) h
  | 0, l, v, n, h, pl, e, hn => by omega
  | k + 1, l, v, n, h, pl, e, hn => by
    have fin : evSs ⟨callN P G (l + k), G⟩ (Lib.law_lists i).body [some v, none] h = .ok ([some v, none], .rt (toL v)) h → callN P G (l + (k + 1)) i [v] h = .ok (toL v) h := fun eb => by
      rw [show l + (k + 1) = (l + k) + 1 from rfl, call_rt hd rfl eb]
      exact gc_cl pl.cl (below_up _ _ (deep_below v n e))
    have loop : ∀ (xs : List AV) (m : Nat), deepAs xs = some m → m < k → xs.length ≤ bigL → lcRun ⟨callN P G (l + k), G⟩ [some v, none] [1] (.name 1) .no (Lib.law_lists_e1 i) (.one (.xs xs)) h = .ok (toLs xs) h := by
      intro xs m hm hk hl
      obtain ⟨zs, g', e, hg, hz⟩ := lcRun_inv (C := ⟨callN P G (l + k), G⟩) (st := [some v, none]) (own := [1]) (t := .name 1) (cd := .no) (el := Lib.law_lists_e1 i) (src := .one (.xs xs)) (items := xs)
        (fun j g acc => h = g ∧ acc = (xs.take j).map toL) (h := h) hl (fun j g acc q => rfl) ⟨rfl, rfl⟩ (by
          rintro j z g acc hz ⟨rfl, rfl⟩
          obtain ⟨mz, d1, d2⟩ := deep_get hm hz
          have ih := lists_ok (G := G) hd k l z mz h pl d1 (by omega)
          refine ⟨[some v, some z], h, by simp only [evSs, es_asg, es_par, es_aug, es_expr, es_ret, es_ifs, es_for, es_while, es_pass, es_brk, es_cont, ee_lit, ee_var, ee_glob, ee_bty, ee_bin, ee_neg, ee_cmp, ee_chain, ee_not, ee_and, ee_or, ee_ife, ee_tup, ee_lst, ee_idx, ee_slice, ee_rev, ee_call, ee_blt, ee_mth, ee_lc, ee_lc2, evA, evO, evC, evI, evG, evGs, R.bind_ok, seqOf_tup, seqOf_lst, bin_add, bin_sub, bin_pow7, bin_pow18, cmp_gt, cmp_lt, cmp_ge, cmp_le, blt_abs, getV, List.getElem?_cons_zero, List.getElem?_cons_succ, List.set_cons_zero, List.set_cons_succ, List.map_cons, List.map_nil, List.length_cons, List.length_nil, List.replicate, List.cons_append, List.nil_append, Nat.reduceAdd, Nat.reduceSub, Nat.zero_add, wipeA], true, h, by simp only [evSs, es_asg, es_par, es_aug, es_expr, es_ret, es_ifs, es_for, es_while, es_pass, es_brk, es_cont, ee_lit, ee_var, ee_glob, ee_bty, ee_bin, ee_neg, ee_cmp, ee_chain, ee_not, ee_and, ee_or, ee_ife, ee_tup, ee_lst, ee_idx, ee_slice, ee_rev, ee_call, ee_blt, ee_mth, ee_lc, ee_lc2, evA, evO, evC, evI, evG, evGs, R.bind_ok], .inl ⟨rfl, toL z, h, ?_, rfl, ?_⟩⟩
          · simp only [Lib.law_lists_e1, evSs, es_asg, es_par, es_aug, es_expr, es_ret, es_ifs, es_for, es_while, es_pass, es_brk, es_cont, ee_lit, ee_var, ee_glob, ee_bty, ee_bin, ee_neg, ee_cmp, ee_chain, ee_not, ee_and, ee_or, ee_ife, ee_tup, ee_lst, ee_idx, ee_slice, ee_rev, ee_call, ee_blt, ee_mth, ee_lc, ee_lc2, evA, evO, evC, evI, evG, evGs, R.bind_ok, seqOf_tup, seqOf_lst, bin_add, bin_sub, bin_pow7, bin_pow18, cmp_gt, cmp_lt, cmp_ge, cmp_le, blt_abs, getV, List.getElem?_cons_zero, List.getElem?_cons_succ, List.set_cons_zero, List.set_cons_succ, List.map_cons, List.map_nil, List.length_cons, List.length_nil, List.replicate, List.cons_append, List.nil_append, Nat.reduceAdd, Nat.reduceSub, Nat.zero_add, ih]
          · rw [List.take_succ, hz]
            simp only [List.map_append, Option.toList_some, List.map_cons, List.map_nil])
      rw [e, ← hg, hz, List.take_length, toLs_map]
    refine fin ?_
    cases v <;> simp only [deepA, reduceCtorEq] at e
    case non => rfl
    case bl b => rfl
    case int b => rfl
    case str b => rfl
    case tup xs =>
      split at e
      · rename_i hl
        obtain ⟨m, h1, h2⟩ := Option.map_eq_some_iff.mp e
        have ty : typeOf h (.tup xs) = some "tuple" := rfl
        simp only [Lib.law_lists, evSs, es_asg, es_par, es_aug, es_expr, es_ret, es_ifs, es_for, es_while, es_pass, es_brk, es_cont, ee_lit, ee_var, ee_glob, ee_bty, ee_bin, ee_neg, ee_cmp, ee_chain, ee_not, ee_and, ee_or, ee_ife, ee_tup, ee_lst, ee_idx, ee_slice, ee_rev, ee_call, ee_blt, ee_mth, ee_lc, ee_lc2, evA, evO, evC, evI, evG, evGs, R.bind_ok, seqOf_tup, seqOf_lst, bin_add, bin_sub, bin_pow7, bin_pow18, cmp_gt, cmp_lt, cmp_ge, cmp_le, blt_abs, getV, List.getElem?_cons_zero, List.getElem?_cons_succ, List.set_cons_zero, List.set_cons_succ, List.map_cons, List.map_nil, List.length_cons, List.length_nil, List.replicate, List.cons_append, List.nil_append, Nat.reduceAdd, Nat.reduceSub, Nat.zero_add, isi_lt _ ty, show (isaT "tuple" "list" || isaT "tuple" "tuple") = true from by decide, viewOf, loop xs m h1 (by omega) hl, mk_f, toL]
      · cases e
    case lst xs =>
      split at e
      · rename_i hl
        obtain ⟨m, h1, h2⟩ := Option.map_eq_some_iff.mp e
        have ty : typeOf h (.lst xs) = some "list" := rfl
        simp only [Lib.law_lists, evSs, es_asg, es_par, es_aug, es_expr, es_ret, es_ifs, es_for, es_while, es_pass, es_brk, es_cont, ee_lit, ee_var, ee_glob, ee_bty, ee_bin, ee_neg, ee_cmp, ee_chain, ee_not, ee_and, ee_or, ee_ife, ee_tup, ee_lst, ee_idx, ee_slice, ee_rev, ee_call, ee_blt, ee_mth, ee_lc, ee_lc2, evA, evO, evC, evI, evG, evGs, R.bind_ok, seqOf_tup, seqOf_lst, bin_add, bin_sub, bin_pow7, bin_pow18, cmp_gt, cmp_lt, cmp_ge, cmp_le, blt_abs, getV, List.getElem?_cons_zero, List.getElem?_cons_succ, List.set_cons_zero, List.set_cons_succ, List.map_cons, List.map_nil, List.length_cons, List.length_nil, List.replicate, List.cons_append, List.nil_append, Nat.reduceAdd, Nat.reduceSub, Nat.zero_add, isi_lt _ ty, show (isaT "list" "list" || isaT "list" "tuple") = true from by decide, viewOf, viewL, loop xs m h1 (by omega) hl, mk_f, toL]
      · cases e
end SP
end
section
set_option maxRecDepth 10000
set_option maxHeartbeats 1000000
/-! The box, the folded script. -/
namespace SP

def intsA (cs : List Int) : List AV := cs.map .int
theorem below_ints : ∀ cs : List Int, belows 0 (intsA cs) = true
  | [] => rfl
  | c :: r => by
    have ih := below_ints r
    simp only [intsA, List.map_cons, belows, below, Bool.true_and] at ih ⊢
    exact ih
theorem ints_get {cs : List Int} {k : Nat} (h : k < cs.length) : (intsA cs)[k]? = some (.int cs[k]) := by
  unfold intsA
  rw [List.getElem?_map, List.getElem?_eq_getElem h]
  rfl
theorem ints_len (cs : List Int) : (intsA cs).length = cs.length := List.length_map _
theorem idx_seq {v : AV} {xs : List AV} {k : Nat} {x : AV} {h : AH} (e : seqOf h v = some xs) (g : xs[k]? = some x) : idxop v (.int k) h = .ok x h := by
  have hk := (List.getElem?_eq_some_iff.mp g).1
  cases v <;> (try (simp [seqOf] at e; done)) <;> simp only [idxop, e, ix_nat hk, Option.bind_some, g]
theorem blt_int1_bl (b m : Bool) (h : AH) : bltop .int1 m [.bl b] h = .ok (.int (b2i b)) h := rfl

def BoxMk (c : CallSem) (i : Nat) : Prop := ∀ (h : AH) (v : AV) (cs : List Int) (k : Nat), seqOf h v = some (intsA cs) → k < cs.length → ∃ a m : Int, c i [v, .int k] h = .ok (.ref h.length) (h ++ [boxC a m 0]) ∧ 0 ≤ a ∧ 0 ≤ m ∧ m < 2147483647
theorem box_ok {P : List FnD} {G : List AV} {l i : Nat} (hd : P[i]? = some Lib.law_box) : BoxMk (callN P G (l + 1)) i := by
  intro h v cs k e hk
  have hk' : decide ((k : Int) < ((intsA cs).length : Nat)) = true := decide_eq_true (by rw [ints_len]; omega)
  generalize hx : cs[k] = x
  have gx : (intsA cs)[k]? = some (.int x) := by rw [ints_get hk, hx]
  have q1 : ∀ H, binop .Mod false (.int x) (.int 2147483629) H = .ok (.int (x % 2147483629)) H := fun H => bin_mod _ _ (by decide)
  have q2 : ∀ H, binop .Mult false (.int 15485863) (.int k) H = .ok (.int (15485863 * k)) H := fun H => bin_mul _ _ (.inl (by decide))
  have q3 : ∀ y H, binop .Mult false (.int y) (.int 48271) H = .ok (.int (y * 48271)) H := fun y H => bin_mul _ _ (.inr (by decide))
  have q4 : ∀ y H, binop .Mod false (.int y) (.int 2147483647) H = .ok (.int (y % 2147483647)) H := fun y H => bin_mod _ _ (by decide)
  have q5 : ∀ y (b : Bool) H, binop .Mult false (.int y) (.int (b2i b)) H = .ok (.int (y * b2i b)) H := fun y b H => bin_mul _ _ (.inr (by cases b <;> decide))
  refine ⟨(if x < 0 then -x else x) * b2i (decide (1000000000000000000 ≤ (if x < 0 then -x else x))), (x % 2147483629 + 15485863 * k + 43) * 48271 % 2147483647, ?_, ?_, Int.emod_nonneg _ (by decide), Int.emod_lt_of_pos _ (by decide)⟩
  · have eb : evSs ⟨callN P G l, G⟩ Lib.law_box.body [some v, some (.int k), none] h = .ok ([some v, some (.int k), some (.int x)], .rt (.ref h.length)) (h ++ [boxC ((if x < 0 then -x else x) * b2i (decide (1000000000000000000 ≤ (if x < 0 then -x else x)))) ((x % 2147483629 + 15485863 * k + 43) * 48271 % 2147483647) 0]) := by
      simp only [Lib.law_box, evSs, es_asg, es_par, es_aug, es_expr, es_ret, es_ifs, es_for, es_while, es_pass, es_brk, es_cont, ee_lit, ee_var, ee_glob, ee_bty, ee_bin, ee_neg, ee_cmp, ee_chain, ee_not, ee_and, ee_or, ee_ife, ee_tup, ee_lst, ee_idx, ee_slice, ee_rev, ee_call, ee_blt, ee_mth, ee_lc, ee_lc2, evA, evO, evC, evI, evG, evGs, R.bind_ok, seqOf_tup, seqOf_lst, bin_add, bin_sub, bin_pow7, bin_pow18, cmp_gt, cmp_lt, cmp_ge, cmp_le, blt_abs, getV, List.getElem?_cons_zero, List.getElem?_cons_succ, List.set_cons_zero, List.set_cons_succ, List.map_cons, List.map_nil, List.length_cons, List.length_nil, List.replicate, List.cons_append, List.nil_append, Nat.reduceAdd, Nat.reduceSub, Nat.zero_add, blt_len_seq _ e, hk', idx_seq e gx, q1, q2, q3, q4, blt_int1_bl, q5, mk_t, boxC]
    rw [call_rt hd rfl eb]
    rfl
  · apply Int.mul_nonneg
    · split <;> omega
    · unfold b2i
      split <;> omega

theorem sIx_nat (n d k : Nat) : sIxA n d (some (k : Int)) = min k n := by
  show (if (k : Int) < 0 then ((k : Int) + n).toNat else min (k : Int).toNat n) = _
  rw [if_neg (by omega), Int.toNat_natCast]
theorem cut_take {α : Type} (xs : List α) (n : Nat) : cutA xs none (some (n : Int)) = xs.take n := by
  unfold cutA
  rw [sIx_nat]
  show (xs.drop 0).take (min n xs.length - 0) = _
  rw [List.drop_zero, Nat.sub_zero]
  by_cases h : n ≤ xs.length
  · rw [Nat.min_eq_left h]
  · rw [Nat.min_eq_right (by omega), List.take_length, List.take_of_length_le (by omega)]
theorem cut_mid {α : Type} (xs : List α) (n m : Nat) (h : xs.length ≤ m) : cutA xs (some (n : Int)) (some (m : Int)) = xs.drop n := by
  unfold cutA
  rw [sIx_nat, sIx_nat, Nat.min_eq_right h]
  by_cases q : n ≤ xs.length
  · rw [Nat.min_eq_left q]
    apply List.take_of_length_le
    rw [List.length_drop]
    exact Nat.le_refl _
  · rw [Nat.min_eq_right (by omega), List.drop_length, List.drop_of_length_le (by omega), List.take_nil]
theorem slop_lst (s : List AV) (lo hi : Option Int) (h : AH) : slop false (.lst s) lo hi h = .ok (.lst (cutA s lo hi)) h := rfl
theorem blt_list_lst (xs : List AV) (h : AH) : bltop .list true [.lst xs] h = .ok (.ref h.length) (h ++ [.lst xs]) := rfl
theorem flatL_ints (h : AH) (k : Nat) : ∀ cs : List Int, flatL (flat h (k + 1)) (intsA cs) = some (intsA cs)
  | [] => rfl
  | c :: r => by
    have ih := flatL_ints h k r
    simp only [intsA, List.map_cons, flatL, flat] at ih ⊢
    have e : flat h (k + 1) (.int c) = some (.int c) := by simp only [flat]
    simp only [ih]
theorem cmp_ne_nil {h : AH} {n : Nat} {cs : List Int} (e : h[n]? = some (.lst (intsA cs))) : cmpop .NotEq (.ref n) (.lst []) h = .ok (.bl (!cs.isEmpty)) h := by
  have f1 : flat h 12 (.ref n) = some (.lst (intsA cs)) := by
    rw [show (12 : Nat) = 11 + 1 from rfl, flat]
    simp only [e, flatL_ints h 10 cs, Option.map_some]
  have f2 : flat h 12 (.lst []) = some (.lst []) := rfl
  have f3 : eqA (.lst (intsA cs)) (.lst []) = cs.isEmpty := by
    cases cs with
    | nil => rfl
    | cons c r => rfl
  simp only [cmpop, eqD, depthL, f1, f2, f3]
theorem at_last {h : AH} {c : Cell} : (h ++ [c])[h.length]? = some c := by
  rw [List.getElem?_append_right (Nat.le_refl _), Nat.sub_self]
  rfl
theorem set_last {h : AH} {c d : Cell} : (h ++ [c]).set h.length d = h ++ [d] := by
  rw [List.set_append_right _ _ (Nat.le_refl _), Nat.sub_self]
  rfl
theorem setAt_ref {h : AH} {n j : Nat} {xs : List AV} {v : AV} (e : h[n]? = some (.lst xs)) (hj : j < xs.length) : setAt (.ref n) (.int j) v h = .ok () (h.set n (.lst (xs.set j v))) := by
  simp only [setAt, e, ix_nat hj]

def FoldOk (c : CallSem) (i : Nat) : Prop := ∀ (h : AH) (ns : List Int) (rm : Nat), ns.length ≤ 63 → 1 ≤ rm → rm ≤ 63 →
  ∃ (cs : List Int) (v : AV), c i [.lst (intsA ns), .int rm] h = .ok v (h ++ [.lst (intsA cs)]) ∧ cs.length ≤ rm ∧ ((cs ≠ [] ∧ v = .ref h.length) ∨ (cs = [] ∧ v = .lst [.int 0]))
theorem fold_ok {P : List FnD} {G : List AV} {l i : Nat} (hd : P[i]? = some Lib.law_folded) : FoldOk (callN P G (l + 1)) i := by
  intro h ns rm hn h1 h2
  have ez : (63 : Int) = ((63 : Nat) : Int) := rfl
  have t1 : (intsA ns).take rm = intsA (ns.take rm) := by unfold intsA; rw [List.map_take]
  have t2 : (intsA ns).drop rm = intsA (ns.drop rm) := by unfold intsA; rw [List.map_drop]
  obtain ⟨s2, g2, e2, cs, x3, x4, rfl, rfl, lc⟩ := forRun_inv (C := ⟨callN P G l, G⟩) (t := .tup (.cons (.name 3) (.cons (.name 4) .nil))) (body := Lib.law_folded_b1) (src := .enum (.xs (intsA (ns.drop rm)))) (items := (intsA (ns.drop rm)).mapIdx fun i y => .tup [.int i, y])
    (fun i st g => ∃ (cs : List Int) (x3 x4 : Option AV), st = [some (.lst (intsA ns)), some (.int rm), some (.ref h.length), x3, x4] ∧ g = h ++ [.lst (intsA cs)] ∧ cs.length = min rm ns.length)
    (s := [some (.lst (intsA ns)), some (.int rm), some (.ref h.length), none, none]) (h := h ++ [.lst (intsA (ns.take rm))]) (by rw [List.length_mapIdx, ints_len, List.length_drop]; unfold bigL; omega)
    (fun j st g _ => by
      simp only [Src.at, View.at, List.getElem?_mapIdx]
      cases (intsA (ns.drop rm))[j]? <;> rfl)
    ⟨ns.take rm, none, none, rfl, rfl, by rw [List.length_take]⟩ (by
      rintro j x st g hx ⟨cs, x3, x4, rfl, rfl, lc⟩
      rw [List.getElem?_mapIdx] at hx
      by_cases hj : j < (ns.drop rm).length
      · rw [ints_get hj] at hx
        cases hx
        generalize (ns.drop rm)[j] = y
        rw [List.length_drop] at hj
        have lrm : cs.length = rm := by omega
        have hm : j % rm < cs.length := by rw [lrm]; exact Nat.mod_lt _ (by omega)
        have em : ∀ H, binop .Mod false (.int j) (.int rm) H = .ok (.int ((j % rm : Nat) : Int)) H := fun H => by
          rw [bin_mod _ _ (by omega), Int.natCast_emod]
        have ey : ∀ H, binop .Mult false (.int y) (.int (j + 2)) H = .ok (.int (y * (j + 2))) H := fun H => bin_mul _ _ (.inr (by omega))
        have sq : seqOf (h ++ [.lst (intsA cs)]) (.ref h.length) = some (intsA cs) := by simp only [seqOf, at_last]
        refine ⟨[some (.lst (intsA ns)), some (.int rm), some (.ref h.length), some (.int j), some (.int y)], _, by simp only [evSs, es_asg, es_par, es_aug, es_expr, es_ret, es_ifs, es_for, es_while, es_pass, es_brk, es_cont, ee_lit, ee_var, ee_glob, ee_bty, ee_bin, ee_neg, ee_cmp, ee_chain, ee_not, ee_and, ee_or, ee_ife, ee_tup, ee_lst, ee_idx, ee_slice, ee_rev, ee_call, ee_blt, ee_mth, ee_lc, ee_lc2, evA, evO, evC, evI, evG, evGs, R.bind_ok, seqOf_tup, seqOf_lst, bin_add, bin_sub, bin_pow7, bin_pow18, cmp_gt, cmp_lt, cmp_ge, cmp_le, blt_abs, getV, List.getElem?_cons_zero, List.getElem?_cons_succ, List.set_cons_zero, List.set_cons_succ, List.map_cons, List.map_nil, List.length_cons, List.length_nil, List.replicate, List.cons_append, List.nil_append, Nat.reduceAdd, Nat.reduceSub, Nat.zero_add, tgsLen, if_true]; rfl, [some (.lst (intsA ns)), some (.int rm), some (.ref h.length), some (.int j), some (.int y)], h ++ [.lst (intsA (cs.set (j % rm) (cs[j % rm] + y * (j + 2))))], ?_, _, _, _, rfl, rfl, by rw [List.length_set]; exact lc⟩
        have es : (intsA cs).set (j % rm) (.int (cs[j % rm] + y * (j + 2))) = intsA (cs.set (j % rm) (cs[j % rm] + y * (j + 2))) := by
          unfold intsA
          rw [List.map_set]
        simp only [Lib.law_folded_b1, evSs, es_asg, es_par, es_aug, es_expr, es_ret, es_ifs, es_for, es_while, es_pass, es_brk, es_cont, ee_lit, ee_var, ee_glob, ee_bty, ee_bin, ee_neg, ee_cmp, ee_chain, ee_not, ee_and, ee_or, ee_ife, ee_tup, ee_lst, ee_idx, ee_slice, ee_rev, ee_call, ee_blt, ee_mth, ee_lc, ee_lc2, evA, evO, evC, evI, evG, evGs, R.bind_ok, seqOf_tup, seqOf_lst, bin_add, bin_sub, bin_pow7, bin_pow18, cmp_gt, cmp_lt, cmp_ge, cmp_le, blt_abs, getV, List.getElem?_cons_zero, List.getElem?_cons_succ, List.set_cons_zero, List.set_cons_succ, List.map_cons, List.map_nil, List.length_cons, List.length_nil, List.replicate, List.cons_append, List.nil_append, Nat.reduceAdd, Nat.reduceSub, Nat.zero_add, em, idx_seq sq (ints_get hm), ey, setAt_ref at_last (show j % rm < (intsA cs).length by rw [ints_len]; exact hm), set_last, es]
      · rw [List.getElem?_eq_none (by rw [ints_len]; omega)] at hx
        cases hx)
  have lc' : cs.length ≤ rm := by omega
  by_cases q : cs = []
  · subst q
    refine ⟨[], .lst [.int 0], ?_, Nat.zero_le _, .inr ⟨rfl, rfl⟩⟩
    have eb : evSs ⟨callN P G l, G⟩ Lib.law_folded.body [some (.lst (intsA ns)), some (.int rm), none, none, none] h = .ok ([some (.lst (intsA ns)), some (.int rm), some (.ref h.length), x3, x4], .rt (.lst [.int 0])) (h ++ [.lst (intsA [])]) := by
      simp only [Lib.law_folded, evSs, es_asg, es_par, es_aug, es_expr, es_ret, es_ifs, es_for, es_while, es_pass, es_brk, es_cont, ee_lit, ee_var, ee_glob, ee_bty, ee_bin, ee_neg, ee_cmp, ee_chain, ee_not, ee_and, ee_or, ee_ife, ee_tup, ee_lst, ee_idx, ee_slice, ee_rev, ee_call, ee_blt, ee_mth, ee_lc, ee_lc2, evA, evO, evC, evI, evG, evGs, R.bind_ok, seqOf_tup, seqOf_lst, bin_add, bin_sub, bin_pow7, bin_pow18, cmp_gt, cmp_lt, cmp_ge, cmp_le, blt_abs, getV, List.getElem?_cons_zero, List.getElem?_cons_succ, List.set_cons_zero, List.set_cons_succ, List.map_cons, List.map_nil, List.length_cons, List.length_nil, List.replicate, List.cons_append, List.nil_append, Nat.reduceAdd, Nat.reduceSub, Nat.zero_add, slop_lst, cut_take, ez, cut_mid (intsA ns) rm 63 (by rw [ints_len]; exact hn), t1, t2, blt_list_lst, viewL, e2, mk_f, cmp_ne_nil at_last, List.isEmpty_nil, Bool.not_true]
    rw [call_rt hd rfl eb]
    rfl
  · have qe : cs.isEmpty = false := by
      cases cs with
      | nil => exact absurd rfl q
      | cons c r => rfl
    refine ⟨cs, .ref h.length, ?_, lc', .inl ⟨q, rfl⟩⟩
    have eb : evSs ⟨callN P G l, G⟩ Lib.law_folded.body [some (.lst (intsA ns)), some (.int rm), none, none, none] h = .ok ([some (.lst (intsA ns)), some (.int rm), some (.ref h.length), x3, x4], .rt (.ref h.length)) (h ++ [.lst (intsA cs)]) := by
      simp only [Lib.law_folded, evSs, es_asg, es_par, es_aug, es_expr, es_ret, es_ifs, es_for, es_while, es_pass, es_brk, es_cont, ee_lit, ee_var, ee_glob, ee_bty, ee_bin, ee_neg, ee_cmp, ee_chain, ee_not, ee_and, ee_or, ee_ife, ee_tup, ee_lst, ee_idx, ee_slice, ee_rev, ee_call, ee_blt, ee_mth, ee_lc, ee_lc2, evA, evO, evC, evI, evG, evGs, R.bind_ok, seqOf_tup, seqOf_lst, bin_add, bin_sub, bin_pow7, bin_pow18, cmp_gt, cmp_lt, cmp_ge, cmp_le, blt_abs, getV, List.getElem?_cons_zero, List.getElem?_cons_succ, List.set_cons_zero, List.set_cons_succ, List.map_cons, List.map_nil, List.length_cons, List.length_nil, List.replicate, List.cons_append, List.nil_append, Nat.reduceAdd, Nat.reduceSub, Nat.zero_add, slop_lst, cut_take, ez, cut_mid (intsA ns) rm 63 (by rw [ints_len]; exact hn), t1, t2, blt_list_lst, viewL, e2, mk_f, cmp_ne_nil at_last, qe, Bool.not_false]
    rw [call_rt hd rfl eb]
    rfl
end SP
end
section
set_option maxRecDepth 10000
set_option maxHeartbeats 1000000
/-! The texts of things. -/
namespace SP

mutual
/-- can be shown: plain signs, small numbers, nothing that changes -/
def okR : AV → Bool
  | .non => true
  | .bl _ => true
  | .int i => decide (i.natAbs < 1000)
  | .str s => plainT s
  | .tup xs => okRs xs
  | .lst xs => okRs xs
  | _ => false
def okRs : List AV → Bool
  | [] => true
  | x :: r => okR x && okRs r
end
mutual
/-- a bound for the length of what is shown -/
def szA : AV → Nat
  | .str s => s.length + 2
  | .tup xs => szAs xs + 4
  | .lst xs => szAs xs + 4
  | _ => 5
def szAs : List AV → Nat
  | [] => 0
  | x :: r => szA x + 2 + szAs r
end
theorem digs_len : ∀ n : Nat, n < 1000 → (digs n).length ≤ 3 := by decide +kernel
theorem show_len {i : Int} (h : i.natAbs < 1000) : (showI i).length ≤ 5 := by
  have := digs_len i.natAbs h
  unfold showI
  split
  · rw [List.length_cons]; omega
  · omega
theorem join_lenR (sep : List Nat) (hs : sep.length = 2) : ∀ {ys : List (List Nat)} {n : Nat}, (ys.map (·.length)).sum + 2 * ys.length ≤ n → (joinT sep ys).length ≤ n
  | [], n, h => by simp [joinT]
  | [x], n, h => by
    simp only [joinT, List.map_cons, List.map_nil, List.sum_cons, List.sum_nil] at h ⊢
    omega
  | x :: y :: r, n, h => by
    simp only [joinT, List.length_append, hs]
    have ih := join_lenR sep hs (ys := y :: r) (n := n - x.length - 2) (by
      simp only [List.map_cons, List.sum_cons, List.length_cons] at h ⊢
      omega)
    simp only [List.map_cons, List.sum_cons, List.length_cons] at h
    omega
mutual
theorem repr_ok : ∀ v : AV, okR v = true → ∃ t, reprA v = some t ∧ t.length ≤ szA v
  | .non, _ => ⟨_, rfl, by simp [szA]⟩
  | .bl true, _ => ⟨_, rfl, by simp [szA]⟩
  | .bl false, _ => ⟨_, rfl, by simp [szA]⟩
  | .int i, h => by
    simp only [okR, decide_eq_true_eq] at h
    refine ⟨showI i, ?_, show_len h⟩
    have : i.natAbs < 10 ^ 100 := Nat.lt_of_lt_of_le h (by decide)
    simp only [reprA, if_pos this]
  | .str s, h => by
    simp only [okR] at h
    refine ⟨39 :: s ++ [39], by simp only [reprA, h, if_true], ?_⟩
    simp [szA]
  | .ty _, h => by simp [okR] at h
  | .ref _, h => by simp [okR] at h
  | .dcs _ _, h => by simp [okR] at h
  | .tup xs, h => by
    simp only [okR] at h
    obtain ⟨ys, e, l⟩ := reprs_ok xs h
    have j := join_lenR [44, 32] rfl (ys := ys) (n := szAs xs) l
    match ys, e, l, j with
    | [], e, l, j => exact ⟨[40, 41], by simp only [reprA, e], by simp [szA]⟩
    | [x], e, l, j =>
      refine ⟨40 :: x ++ [44, 41], by simp only [reprA, e], ?_⟩
      simp only [joinT] at j
      simp only [szA, List.length_append, List.length_cons, List.length_nil]
      omega
    | x :: y :: r, e, l, j =>
      refine ⟨40 :: joinT [44, 32] (x :: y :: r) ++ [41], by simp only [reprA, e], ?_⟩
      simp only [szA, List.length_append, List.length_cons, List.length_nil]
      omega
  | .lst xs, h => by
    simp only [okR] at h
    obtain ⟨ys, e, l⟩ := reprs_ok xs h
    have j := join_lenR [44, 32] rfl (ys := ys) (n := szAs xs) l
    refine ⟨91 :: joinT [44, 32] ys ++ [93], by simp only [reprA, e], ?_⟩
    simp only [szA, List.length_append, List.length_cons, List.length_nil]
    omega
theorem reprs_ok : ∀ xs : List AV, okRs xs = true → ∃ ys, reprAs xs = some ys ∧ (ys.map (·.length)).sum + 2 * ys.length ≤ szAs xs
  | [], _ => ⟨[], rfl, by simp [szAs]⟩
  | x :: r, h => by
    simp only [okRs, Bool.and_eq_true] at h
    obtain ⟨t, e1, l1⟩ := repr_ok x h.1
    obtain ⟨ys, e2, l2⟩ := reprs_ok r h.2
    refine ⟨t :: ys, by simp only [reprAs, e1, e2], ?_⟩
    simp only [szAs, List.map_cons, List.sum_cons, List.length_cons]
    omega
end
mutual
theorem flat_self (h : AH) : ∀ (k : Nat) (v : AV) (n : Nat), deepA v = some n → n < k → flat h k v = some v
  | 0, v, n, _, hn => by omega
  | k + 1, .non, n, _, _ => by simp only [flat]
  | k + 1, .bl _, n, _, _ => by simp only [flat]
  | k + 1, .int _, n, _, _ => by simp only [flat]
  | k + 1, .str _, n, _, _ => by simp only [flat]
  | k + 1, .ty _, n, h, _ => by simp [deepA] at h
  | k + 1, .ref _, n, h, _ => by simp [deepA] at h
  | k + 1, .dcs _ _, n, h, _ => by simp [deepA] at h
  | k + 1, .tup xs, n, e, hn => by
    simp only [deepA] at e
    split at e
    · obtain ⟨m, h1, h2⟩ := Option.map_eq_some_iff.mp e
      simp only [flat, flatL_self h k xs m h1 (by omega), Option.map_some]
    · cases e
  | k + 1, .lst xs, n, e, hn => by
    simp only [deepA] at e
    split at e
    · obtain ⟨m, h1, h2⟩ := Option.map_eq_some_iff.mp e
      simp only [flat, flatL_self h k xs m h1 (by omega), Option.map_some]
    · cases e
theorem flatL_self (h : AH) : ∀ (k : Nat) (xs : List AV) (n : Nat), deepAs xs = some n → n < k → flatL (flat h k) xs = some xs
  | k, [], n, _, _ => rfl
  | k, x :: r, n, e, hn => by
    simp only [deepAs] at e
    split at e
    · rename_i a b ha hb
      cases e
      simp only [flatL, flat_self h k x a ha (by omega), flatL_self h k r b hb (by omega)]
    · cases e
end
theorem blt_repr {v : AV} {n : Nat} (hd : deepA v = some n) (hn : n < 12) (ho : okR v = true) (hz : szA v ≤ 1000000) : ∃ t, ∀ H : AH, bltop .repr false [v] H = .ok (.str t) H := by
  obtain ⟨t, e, l⟩ := repr_ok v ho
  have hl : t.length ≤ bigL := Nat.le_trans l hz
  refine ⟨t, fun H => ?_⟩
  simp only [bltop, depthL, flat_self H 12 v n hd hn, e, if_pos hl]

theorem okRs_of : ∀ {xs : List AV}, (∀ x ∈ xs, okR x = true) → okRs xs = true
  | [], _ => rfl
  | x :: r, h => by
    simp only [okRs, Bool.and_eq_true]
    exact ⟨h x List.mem_cons_self, okRs_of fun y hy => h y (List.mem_cons_of_mem _ hy)⟩
theorem szAs_of {B : Nat} : ∀ {xs : List AV}, (∀ x ∈ xs, szA x ≤ B) → szAs xs ≤ xs.length * (B + 2)
  | [], _ => by simp [szAs]
  | x :: r, h => by
    have h1 := h x List.mem_cons_self
    have h2 := szAs_of fun y hy => h y (List.mem_cons_of_mem _ hy)
    simp only [szAs, List.length_cons, Nat.add_mul, Nat.one_mul]
    omega
theorem deepAs_of {n : Nat} : ∀ {xs : List AV}, (∀ x ∈ xs, ∃ m, deepA x = some m ∧ m ≤ n) → ∃ m, deepAs xs = some m ∧ m ≤ n
  | [], _ => ⟨0, rfl, Nat.zero_le _⟩
  | x :: r, h => by
    obtain ⟨a, h1, h2⟩ := h x List.mem_cons_self
    obtain ⟨b, h3, h4⟩ := deepAs_of fun y hy => h y (List.mem_cons_of_mem _ hy)
    exact ⟨max a b, by simp only [deepAs, h1, h3], by omega⟩
theorem sort_mem {xs : List AV} {x : AV} : x ∈ sortA xs ↔ x ∈ xs := (List.mergeSort_perm _ _).mem_iff
theorem sort_len (xs : List AV) : (sortA xs).length = xs.length := (List.mergeSort_perm _ _).length_eq
theorem plain_of {s t : List Nat} (hs : s ∈ beadsL) (h : ∀ x ∈ t, x ∈ s) : plainT t = true := by
  unfold plainT
  rw [List.all_eq_true]
  exact fun x hx => beads_plain hs x (h x hx)

section
variable {s : List Nat} {long : Nat}
theorem rule_av {rs : List (List Nat × List Nat)} (hs : s ∈ beadsL) (h : RsOk s long rs) : okR (.tup (sortA (rs.map prA))) = true ∧ szA (.tup (sortA (rs.map prA))) ≤ 200 ∧ ∃ m, deepA (.tup (sortA (rs.map prA))) = some m ∧ m ≤ 2 := by
  obtain ⟨h1, h2, h3⟩ := h
  have each : ∀ x ∈ sortA (rs.map prA), okR x = true ∧ szA x ≤ 30 ∧ deepA x = some 1 := fun x hx => by
    obtain ⟨p, hp, rfl⟩ := List.mem_map.mp (sort_mem.mp hx)
    obtain ⟨k1, k2, k3, k4, k5, k6, k7⟩ := h3 p hp
    refine ⟨by simp only [prA, okR, okRs, plain_of hs k6, plain_of hs k7, Bool.and_true], by simp only [prA, szA, szAs]; omega, rfl⟩
  have hl : (sortA (rs.map prA)).length ≤ 4 := by rw [sort_len, List.length_map]; exact h1
  refine ⟨by simp only [okR]; exact okRs_of fun x hx => (each x hx).1, ?_, ?_⟩
  · have := szAs_of (B := 30) fun x hx => (each x hx).2.1
    simp only [szA]
    have : (sortA (rs.map prA)).length * 32 ≤ 4 * 32 := Nat.mul_le_mul_right _ hl
    omega
  · obtain ⟨m, d1, d2⟩ := deepAs_of (n := 1) fun x hx => ⟨1, (each x hx).2.2, Nat.le_refl _⟩
    refine ⟨m + 1, ?_, by omega⟩
    simp only [deepA, d1, Option.map_some]
    rw [if_pos (by unfold bigL; omega)]
theorem end_av {es : List (Int × List Nat × Int)} (hs : s ∈ beadsL) (hl0 : long ≤ 100) (h1 : es.length ≤ 4) (h3 : ∀ p ∈ es, EndOk s long p) : okR (.tup (sortA (es.map enA))) = true ∧ szA (.tup (sortA (es.map enA))) ≤ 1000 ∧ ∃ m, deepA (.tup (sortA (es.map enA))) = some m ∧ m ≤ 2 := by
  have each : ∀ x ∈ sortA (es.map enA), okR x = true ∧ szA x ≤ 130 ∧ deepA x = some 1 := fun x hx => by
    obtain ⟨p, hp, rfl⟩ := List.mem_map.mp (sort_mem.mp hx)
    obtain ⟨k1, k2, k3, k4, k5, k6⟩ := h3 p hp
    have w : p.2.2.natAbs < 1000 := by
      simp only [worthsL, List.mem_cons, List.not_mem_nil, or_false] at k6
      rcases k6 with e | e | e | e | e | e <;> rw [e] <;> decide
    refine ⟨?_, by simp only [enA, szA, szAs]; omega, rfl⟩
    simp only [enA, okR, okRs, plain_of hs k5, Bool.and_true, Bool.and_eq_true, decide_eq_true_eq, true_and]
    exact ⟨by omega, w⟩
  have hl : (sortA (es.map enA)).length ≤ 4 := by rw [sort_len, List.length_map]; exact h1
  refine ⟨by simp only [okR]; exact okRs_of fun x hx => (each x hx).1, ?_, ?_⟩
  · have := szAs_of (B := 130) fun x hx => (each x hx).2.1
    simp only [szA]
    have : (sortA (es.map enA)).length * 132 ≤ 4 * 132 := Nat.mul_le_mul_right _ hl
    omega
  · obtain ⟨m, d1, d2⟩ := deepAs_of (n := 1) fun x hx => ⟨1, (each x hx).2.2, Nat.le_refl _⟩
    refine ⟨m + 1, ?_, by omega⟩
    simp only [deepA, d1, Option.map_some]
    rw [if_pos (by unfold bigL; omega)]
end
theorem deep_str (s : List Nat) : deepA (.str s) = some 0 := rfl
theorem deep_int (i : Int) : deepA (.int i) = some 0 := rfl
/-- a game can be shown -/
theorem game_av {nm : List Nat} {K : Game} {longest : Nat} (h : GameOk longest K) (hl : longest ≤ 100) (hn : plainT nm = true) (hn2 : nm.length ≤ 1000) : okR (K.av nm) = true ∧ szA (K.av nm) ≤ 3000 ∧ ∃ m, deepA (K.av nm) = some m ∧ m ≤ 4 := by
  obtain ⟨a1, a2, m1, a3, a4⟩ := rule_av h.beads h.r1
  obtain ⟨b1, b2, m2, b3, b4⟩ := rule_av h.beads h.r2
  obtain ⟨c1, c2, m3, c3, c4⟩ := end_av h.beads (Nat.le_trans h.long2 hl) h.en1 h.en3
  have bl := beads_len h.beads
  have l1 := h.long1
  have l2 := h.long2
  have sh : plainT K.shape = true ∧ K.shape.length = 4 := by
    rcases h.shape with e | e <;> rw [e] <;> exact ⟨by decide, by decide⟩
  have w1 : K.s1.natAbs < 1000 := by
    have := h.s1
    simp only [List.mem_cons, List.not_mem_nil, or_false] at this
    rcases this with e | e | e | e <;> rw [e] <;> decide
  have w2 : K.s2.natAbs < 1000 := by
    have := h.s2
    simp only [List.mem_cons, List.not_mem_nil, or_false] at this
    rcases this with e | e | e | e <;> rw [e] <;> decide
  refine ⟨?_, ?_, ?_⟩
  · simp only [Game.av, okR, okRs, hn, sh.1, plain_of h.beads (fun x hx => hx), Bool.and_true, Bool.true_and, Bool.and_eq_true, decide_eq_true_eq] at a1 b1 c1 ⊢
    exact ⟨by omega, ⟨a1, b1⟩, c1, w1, w2⟩
  · simp only [Game.av, szA, szAs] at a2 b2 c2 ⊢
    omega
  · refine ⟨max 0 (max 0 (max 0 (max 0 (max (max m1 (max m2 0) + 1) (max m3 (max (max 0 (max 0 0) + 1) 0)))))) + 1, ?_, by omega⟩
    have e1 : deepA (.tup [.tup (sortA (K.r1.map prA)), .tup (sortA (K.r2.map prA))]) = some (max m1 (max m2 0) + 1) := by
      rw [deepA]
      simp only [deepAs, a3, b3, Option.map_some]
      rw [if_pos (by show 2 ≤ 1000000; decide)]
    have e2 : deepA (.tup [.int K.s1, .int K.s2]) = some (max 0 (max 0 0) + 1) := rfl
    rw [Game.av, deepA]
    simp only [deepAs, deep_str, deep_int, e1, e2, c3, Option.map_some]
    rw [if_pos (by show 7 ≤ 1000000; decide)]
end SP
end
section
set_option maxRecDepth 10000
set_option maxHeartbeats 1000000
/-! Rows turned: plain facts. -/
namespace SP

def tr : List Nat → List Nat → Nat → Nat
  | c :: cs, d :: ds, x => if c = x then d else tr cs ds x
  | _, _, _ => 0
def trT (a b t : List Nat) : List Nat := t.map (tr a b)
theorem tr_mem : ∀ {a b : List Nat} {x : Nat}, a.length = b.length → x ∈ a → tr a b x ∈ b
  | [], _, _, _, h => by simp at h
  | _ :: _, [], _, h, _ => by simp at h
  | c :: cs, d :: ds, x, hl, h => by
    unfold tr
    split
    · exact List.mem_cons_self
    · rename_i hc
      rcases List.mem_cons.mp h with e | e
      · exact absurd e.symm hc
      · exact List.mem_cons_of_mem _ (tr_mem (by simpa using hl) e)
theorem lookS_tr : ∀ {a b : List Nat} {x : Nat}, a.length = b.length → x ∈ a → lookS [x] (a.map fun c => [c]) (b.map fun c => .str [c]) = some (.str [tr a b x])
  | [], _, _, _, h => by simp at h
  | _ :: _, [], _, h, _ => by simp at h
  | c :: cs, d :: ds, x, hl, h => by
    simp only [List.map_cons, lookS, tr]
    by_cases hc : c = x
    · simp [hc]
    · have hm : x ∈ cs := by
        rcases List.mem_cons.mp h with e | e
        · exact absurd e.symm hc
        · exact e
      rw [if_neg (by simpa using hc), if_neg hc]
      exact lookS_tr (by simpa using hl) hm

def fw (back : Bool) (r : List Nat) : List Nat := if back then r.reverse else r
def rotT (s : Nat) (r : List Nat) : List Nat := r.drop s ++ r.take s
def tRow (a b : List Nat) (back : Bool) (s : Nat) (row : List Nat) : List Nat := trT a b (rotT s (fw back row))
def invI (L s : Nat) (back : Bool) (j : Nat) : Nat := if back then L - 1 - (j + s) % L else (j + s) % L
def lpI (L s : Nat) (back : Bool) (p : Nat) : Int := ((if back then (L : Int) - 1 - p else p) - s) % L
def plI (L s : Nat) (back : Bool) (p n : Nat) : Int := ((if back then (L : Int) - p - n else p) - s) % L
theorem fw_len (back : Bool) (r : List Nat) : (fw back r).length = r.length := by
  unfold fw
  split
  · rw [List.length_reverse]
  · rfl
theorem fw_mem {back : Bool} {r : List Nat} {x : Nat} : x ∈ fw back r ↔ x ∈ r := by
  unfold fw
  split
  · exact List.mem_reverse
  · exact Iff.rfl

section
variable {L s : Nat} {back : Bool}
theorem L_of (h1 : 2 ≤ L) (h2 : L ≤ 7) : L = 2 ∨ L = 3 ∨ L = 4 ∨ L = 5 ∨ L = 6 ∨ L = 7 := by omega
theorem inv_lt (h1 : 2 ≤ L) (j : Nat) : invI L s back j < L := by
  unfold invI
  have : (j + s) % L < L := Nat.mod_lt _ (by omega)
  split <;> omega
theorem lp_range (h1 : 2 ≤ L) (p : Nat) : 0 ≤ lpI L s back p ∧ lpI L s back p < L := ⟨Int.emod_nonneg _ (by omega), Int.emod_lt_of_pos _ (by omega)⟩
theorem pl_range (h1 : 2 ≤ L) (p n : Nat) : 0 ≤ plI L s back p n ∧ plI L s back p n < L := ⟨Int.emod_nonneg _ (by omega), Int.emod_lt_of_pos _ (by omega)⟩
theorem inv_lp (h1 : 2 ≤ L) (h2 : L ≤ 7) (hs : s < L) {j p : Nat} (hj : j < L) (hp : p < L) : invI L s back j = p ↔ (j : Int) = lpI L s back p := by
  unfold invI lpI
  rcases L_of h1 h2 with rfl | rfl | rfl | rfl | rfl | rfl <;> cases back <;> simp only [Bool.false_eq_true, if_false, if_true] <;> omega
/-- the place of a turned move, as the law has it -/
theorem lp_first (h1 : 2 ≤ L) (h2 : L ≤ 7) (hs : s < L) {p n : Nat} (hp : p < L) (hn : 1 ≤ n) (hn2 : n ≤ L) : (back = true → lpI L s back ((p + (n - 1)) % L) = plI L s back p n) ∧ (back = false → lpI L s back ((p + 0) % L) = plI L s back p n) := by
  unfold plI lpI
  rcases L_of h1 h2 with rfl | rfl | rfl | rfl | rfl | rfl <;> cases back <;> simp only [Bool.false_eq_true, if_false, if_true, true_imp_iff, false_imp_iff, and_true, true_and, reduceCtorEq] <;> omega
theorem pl_line (h1 : 2 ≤ L) (h2 : L ≤ 7) {p n : Nat} (hn : 1 ≤ n) (hl : p + n ≤ L) : plI L 0 back p n + n ≤ L := by
  unfold plI
  rcases L_of h1 h2 with rfl | rfl | rfl | rfl | rfl | rfl <;> cases back <;> simp only [Bool.false_eq_true, if_false, if_true] <;> omega
theorem inv_pl (h1 : 2 ≤ L) (h2 : L ≤ 7) (hs : s < L) {p n k q : Nat} (hp : p < L) (hn2 : n ≤ L) (hk : k < n) (hq : (q : Int) = plI L s back p n) : invI L s back ((q + k) % L) = (p + (if back then n - 1 - k else k)) % L := by
  unfold plI at hq
  unfold invI
  rcases L_of h1 h2 with rfl | rfl | rfl | rfl | rfl | rfl <;> cases back <;> simp only [Bool.false_eq_true, if_false, if_true] at hq ⊢ <;> omega
theorem inv_put (h1 : 2 ≤ L) (h2 : L ≤ 7) (hs : s < L) {p n j q : Nat} (hp : p < L) (hn2 : n ≤ L) (hj : j < L) (hq : (q : Int) = plI L s back p n) :
    ((j + L - q) % L < n ↔ (invI L s back j + L - p) % L < n) ∧ ((j + L - q) % L < n → (if back then n - 1 - (j + L - q) % L else (j + L - q) % L) = (invI L s back j + L - p) % L) := by
  unfold plI at hq
  unfold invI
  rcases L_of h1 h2 with rfl | rfl | rfl | rfl | rfl | rfl <;> cases back <;> simp only [Bool.false_eq_true, if_false, if_true] at hq ⊢ <;> omega
end

def rmap (n : Nat) (f : Nat → Nat) : List Nat := (List.range n).map f
theorem rmap_len (n : Nat) (f : Nat → Nat) : (rmap n f).length = n := by unfold rmap; rw [List.length_map, List.length_range]
theorem rmap_get {n i : Nat} (f : Nat → Nat) (h : i < n) : (rmap n f)[i]? = some (f i) := by
  unfold rmap
  rw [List.getElem?_map, List.getElem?_range h]
  rfl
theorem rmap_getD {n i : Nat} (f : Nat → Nat) (h : i < n) : (rmap n f).getD i 0 = f i := by
  rw [List.getD_eq_getElem?_getD, rmap_get f h]
  rfl
theorem rmap_congr {n : Nat} {f g : Nat → Nat} (h : ∀ i, i < n → f i = g i) : rmap n f = rmap n g := by
  unfold rmap
  exact List.map_congr_left fun i hi => h i (List.mem_range.mp hi)
theorem eq_rmap {r : List Nat} {n : Nat} {f : Nat → Nat} (hl : r.length = n) (h : ∀ i, i < n → r[i]? = some (f i)) : r = rmap n f := by
  apply List.ext_getElem?
  intro i
  by_cases hi : i < n
  · rw [h i hi, rmap_get f hi]
  · rw [List.getElem?_eq_none (by omega), List.getElem?_eq_none (by rw [rmap_len]; omega)]
theorem self_rmap (r : List Nat) : r = rmap r.length fun i => r.getD i 0 := eq_rmap rfl fun i hi => by
  rw [List.getD_eq_getElem?_getD, List.getElem?_eq_getElem hi]
  rfl
theorem rev_rmap (n : Nat) (f : Nat → Nat) : (rmap n f).reverse = rmap n fun k => f (n - 1 - k) := by
  refine eq_rmap (by rw [List.length_reverse, rmap_len]) fun i hi => ?_
  rw [List.getElem?_reverse (by rw [rmap_len]; exact hi), rmap_len, rmap_get f (by omega)]
theorem fw_rmap (back : Bool) (n : Nat) (f : Nat → Nat) : fw back (rmap n f) = rmap n fun k => f (if back then n - 1 - k else k) := by
  unfold fw
  cases back
  · simp
  · simp only [if_true]
    rw [rev_rmap]
theorem tr_rmap (a b : List Nat) (n : Nat) (f : Nat → Nat) : trT a b (rmap n f) = rmap n fun k => tr a b (f k) := by
  unfold trT rmap
  rw [List.map_map]
  rfl
theorem rot_rmap {L s : Nat} (hs : s < L) (f : Nat → Nat) : rotT s (rmap L f) = rmap L fun j => f ((j + s) % L) := by
  refine eq_rmap (by unfold rotT; rw [List.length_append, List.length_drop, List.length_take, rmap_len]; omega) fun i hi => ?_
  unfold rotT
  by_cases h : i + s < L
  · rw [List.getElem?_append_left (by rw [List.length_drop, rmap_len]; omega), List.getElem?_drop, rmap_get f (by omega), Nat.mod_eq_of_lt h, Nat.add_comm]
  · rw [List.getElem?_append_right (by rw [List.length_drop, rmap_len]; omega), List.getElem?_take_of_lt (by rw [List.length_drop, rmap_len]; omega), List.length_drop, rmap_len, rmap_get f (by omega)]
    rw [Nat.mod_eq_sub_mod (by omega), Nat.mod_eq_of_lt (by omega)]
    congr 2
    omega
theorem tRow_eq {a b row : List Nat} {back : Bool} {L s : Nat} (h1 : 2 ≤ L) (hs : s < L) (hr : row.length = L) : tRow a b back s row = rmap L fun j => tr a b (row.getD (invI L s back j) 0) := by
  unfold tRow
  conv => lhs; rw [self_rmap row, hr]
  rw [fw_rmap, rot_rmap hs, tr_rmap]
  refine rmap_congr fun j hj => ?_
  unfold invI
  cases back <;> simp
theorem tRow_len {a b row : List Nat} {back : Bool} {s : Nat} (hs : s < row.length) : (tRow a b back s row).length = row.length := by
  unfold tRow trT rotT
  rw [List.length_map, List.length_append, List.length_drop, List.length_take, fw_len]
  omega

/-- the beads round from a place on -/
def cyc (row : List Nat) (p n : Nat) : List Nat := rmap n fun k => row.getD ((p + k) % row.length) 0
def putR (row : List Nat) (p : Nat) (new : List Nat) : List Nat := rmap row.length fun i => if (i + row.length - p) % row.length < new.length then new.getD ((i + row.length - p) % row.length) 0 else row.getD i 0
theorem put_len (row : List Nat) (p : Nat) (new : List Nat) : (putR row p new).length = row.length := rmap_len _ _
theorem tr_getD {a b : List Nat} {back : Bool} {new : List Nat} {e : Nat} (he : e < new.length) : (trT a b (fw back new)).getD e 0 = tr a b (new.getD (if back then new.length - 1 - e else e) 0) := by
  conv => lhs; rw [self_rmap new]
  rw [fw_rmap, tr_rmap, rmap_getD _ he]
theorem cyc_turned {a b row : List Nat} {back : Bool} {L s p n q : Nat} (h1 : 2 ≤ L) (h2 : L ≤ 7) (hs : s < L) (hr : row.length = L) (hp : p < L) (hn2 : n ≤ L) (hq : (q : Int) = plI L s back p n) :
    cyc (tRow a b back s row) q n = trT a b (fw back (cyc row p n)) := by
  have hl : (tRow a b back s row).length = L := by rw [tRow_len (by omega), hr]
  unfold cyc
  rw [hl, hr, tRow_eq h1 hs hr, fw_rmap, tr_rmap]
  refine rmap_congr fun k hk => ?_
  rw [rmap_getD _ (Nat.mod_lt _ (by omega)), inv_pl h1 h2 hs hp hn2 hk hq]
theorem put_turned {a b row new : List Nat} {back : Bool} {L s p q : Nat} (h1 : 2 ≤ L) (h2 : L ≤ 7) (hs : s < L) (hr : row.length = L) (hp : p < L) (hn2 : new.length ≤ L) (hq : (q : Int) = plI L s back p new.length) :
    putR (tRow a b back s row) q (trT a b (fw back new)) = tRow a b back s (putR row p new) := by
  have hl : (tRow a b back s row).length = L := by rw [tRow_len (by omega), hr]
  have hl2 : (trT a b (fw back new)).length = new.length := by unfold trT; rw [List.length_map, fw_len]
  rw [tRow_eq (row := putR row p new) h1 hs (by rw [put_len, hr])]
  unfold putR
  rw [hl, hl2, hr]
  refine rmap_congr fun j hj => ?_
  obtain ⟨i1, i2⟩ := inv_put (back := back) (s := s) h1 h2 hs hp hn2 hj hq
  rw [rmap_getD _ (inv_lt h1 j)]
  by_cases he : (j + L - q) % L < new.length
  · rw [if_pos he, if_pos (i1.mp he), tr_getD he, i2 he]
  · rw [if_neg he, if_neg (fun z => he (i1.mpr z)), tRow_eq h1 hs hr, rmap_getD _ hj]

/-! ### a text at a place -/
theorem cut_nat {α : Type} (xs : List α) (p n : Nat) : cutA xs (some (p : Int)) (some ((p : Int) + (n : Int))) = (xs.drop p).take n := by
  have e : (p : Int) + (n : Int) = ((p + n : Nat) : Int) := by omega
  rw [e]
  unfold cutA
  rw [sIx_nat, sIx_nat]
  by_cases h : p ≤ xs.length
  · rw [Nat.min_eq_left h]
    by_cases h2 : p + n ≤ xs.length
    · rw [Nat.min_eq_left h2]
      congr 1
      omega
    · rw [Nat.min_eq_right (by omega), List.take_of_length_le (by rw [List.length_drop]; omega), List.take_of_length_le (by rw [List.length_drop]; omega)]
  · have e1 : min p xs.length = xs.length := Nat.min_eq_right (by omega)
    rw [e1, List.drop_of_length_le (Nat.le_refl _), List.drop_of_length_le (by omega)]
    simp
def bd (shape row : List Nat) (p m : Int) : List Nat := cutA (if shape = ringT then row ++ row else row) (some p) (some (p + m))
theorem bd_ring {shape row : List Nat} {p n : Nat} (h : shape = ringT) (hp : p < row.length) (hn : n ≤ row.length) : bd shape row p n = cyc row p n := by
  unfold bd cyc
  rw [if_pos h, cut_nat]
  refine eq_rmap (by rw [List.length_take, List.length_drop, List.length_append]; omega) fun i hi => ?_
  rw [List.getElem?_take_of_lt hi, List.getElem?_drop, List.getD_eq_getElem?_getD]
  have lt : (p + i) % row.length < row.length := Nat.mod_lt _ (by omega)
  rw [List.getElem?_eq_getElem lt]
  by_cases h2 : p + i < row.length
  · rw [List.getElem?_append_left h2, List.getElem?_eq_getElem h2]
    simp only [Nat.mod_eq_of_lt h2, Option.getD_some]
  · have e : (p + i) % row.length = p + i - row.length := by rw [Nat.mod_eq_sub_mod (by omega), Nat.mod_eq_of_lt (by omega)]
    rw [List.getElem?_append_right (by omega), List.getElem?_eq_getElem (by omega)]
    simp only [e, Option.getD_some]
theorem bd_line {shape row : List Nat} {p n : Nat} (h : shape ≠ ringT) (hl : p + n ≤ row.length) : bd shape row p n = cyc row p n := by
  unfold bd cyc
  rw [if_neg h, cut_nat]
  refine eq_rmap (by rw [List.length_take, List.length_drop]; omega) fun i hi => ?_
  rw [List.getElem?_take_of_lt hi, List.getElem?_drop, List.getD_eq_getElem?_getD]
  have h2 : p + i < row.length := by omega
  rw [Nat.mod_eq_of_lt h2, List.getElem?_eq_getElem h2]
  rfl
theorem bd_line_len {shape row : List Nat} {p n : Nat} (h : shape ≠ ringT) (hn : 1 ≤ n) (e : (bd shape row p n).length = n) : p + n ≤ row.length := by
  unfold bd at e
  rw [if_neg h, cut_nat, List.length_take, List.length_drop] at e
  omega
end SP
end
section
set_option maxRecDepth 10000
set_option maxHeartbeats 1000000
/-! Facts of the helpers that look at rows: where texts stand, moves by the rules, what stands behind. -/
namespace SP
namespace Lib
def law_any_standing (c_law_take : Nat) (c_law_text : Nat) : FnD := { name := "_law_any_standing", ps := ["_law_box_here", "_law_game"], N := ["_law_box_here", "_law_game"], gc := true, body :=
    (.cons (.ret (.tup (.cons (.call c_law_take (.cons (.var 0) (.cons (.lit (.int 2)) .nil))) (.cons (.call c_law_text (.cons (.var 0) (.cons (.idx (.var 1) (.lit (.int 2))) (.cons (.idx (.var 1) (.lit (.int 3))) .nil)))) .nil)))) .nil) }
def law_beads_at : FnD := { name := "_law_beads_at", ps := ["_law_game", "_law_row", "_law_place", "_law_size"], N := ["_law_game", "_law_row", "_law_place", "_law_size"], gc := true, body :=
    (.cons (.ret (.ife (.cmp .Eq (.idx (.var 0) (.lit (.int 1))) (.lit (.str [114, 105, 110, 103]))) (.slice false (.bin .Add false (.var 1) (.var 1)) (.yes (.var 2)) (.yes (.bin .Add false (.var 2) (.var 3)))) (.slice false (.var 1) (.yes (.var 2)) (.yes (.bin .Add false (.var 2) (.var 3)))))) .nil) }
def law_spots_c1 (c_law_beads_at : Nat) : Eo := (.yes (.cmp .Eq (.call c_law_beads_at (.cons (.var 0) (.cons (.var 1) (.cons (.var 3) (.cons (.blt .len false (.cons (.var 2) .nil)) .nil))))) (.var 2)))
def law_spots_e1 : E := (.var 3)
def law_spots (c_law_beads_at : Nat) : FnD := { name := "_law_spots", ps := ["_law_game", "_law_row", "_law_text_here"], N := ["_law_game", "_law_row", "_law_text_here", "_law_place"], gc := true, body :=
    (.cons (.ret (.lc false [3] (.name 3) (.range1 (.idx (.var 0) (.lit (.int 3)))) (law_spots_c1 c_law_beads_at) law_spots_e1)) .nil) }
def law_steps_of_e1 : E := (.tup (.cons (.var 7) (.cons (.var 5) (.cons (.var 6) .nil))))
def law_steps_of_b1 (c_law_spots : Nat) : Ss := (.cons (.asg (.name 2) (.bin .Add false (.var 2) (.lc false [7] (.name 7) (.e (.call c_law_spots (.cons (.var 0) (.cons (.var 4) (.cons (.var 5) .nil))))) .no law_steps_of_e1))) .nil)
def law_steps_of (c_law_spots : Nat) : FnD := { name := "_law_steps_of", ps := ["_law_game", "_law_standing"], N := ["_law_game", "_law_standing", "_law_found", "_law_side", "_law_row", "_law_old", "_law_new", "_law_place"], gc := true, body :=
    (.cons (.asg (.tup (.cons (.name 3) (.cons (.name 4) .nil))) (.var 1)) (.cons (.asg (.name 2) (.lst false .nil)) (.cons (.for_ (.tup (.cons (.name 5) (.cons (.name 6) .nil))) (.e (.idx (.idx (.var 0) (.lit (.int 4))) (.var 3))) (law_steps_of_b1 c_law_spots)) (.cons (.ret (.blt .sorted false (.cons (.var 2) .nil))) .nil)))) }
def law_behind_b1 : Ss := (.cons (.asg (.sub (.var 3) (.bin .Mod false (.bin .Add false (.var 6) (.var 9)) (.idx (.var 0) (.lit (.int 3))))) (.var 10)) .nil)
def law_behind : FnD := { name := "_law_behind", ps := ["_law_game", "_law_standing", "_law_step"], N := ["_law_game", "_law_standing", "_law_step", "_law_beads", "_law_side", "_law_row", "_law_place", "_law_old", "_law_new", "_law_at", "_law_sign"], gc := true, body :=
    (.cons (.asg (.tup (.cons (.name 4) (.cons (.name 5) .nil))) (.var 1)) (.cons (.asg (.tup (.cons (.name 6) (.cons (.name 7) (.cons (.name 8) .nil)))) (.var 2)) (.cons (.asg (.name 3) (.blt .list true (.cons (.var 5) .nil))) (.cons (.for_ (.tup (.cons (.name 9) (.cons (.name 10) .nil))) (.enum (.var 8)) law_behind_b1) (.cons (.ret (.tup (.cons (.bin .Sub false (.lit (.int 1)) (.var 4)) (.cons (.mth .join (.lit (.str [])) (.cons (.var 3) .nil)) .nil)))) .nil))))) }
end Lib

theorem lcRun_map {C : Ctx} {st : St} {own : List Nat} {t : Tg} {el : E} {src : Src} {items : List AV} {g : AH} (f : AV → AV) (hl : items.length ≤ bigL) (hat : ∀ i : Nat, src.at i g = some items[i]?)
    (step : ∀ (i : Nat) (x : AV), items[i]? = some x → ∃ s, evG C t x (wipeA st own) g = .ok s g ∧ evE C s el g = .ok (f x) g) : lcRun C st own t .no el src g = .ok (items.map f) g := by
  obtain ⟨ys, g', e, h1, h2⟩ := lcRun_inv (C := C) (st := st) (own := own) (t := t) (cd := .no) (el := el) (src := src) (items := items) (fun i h acc => h = g ∧ acc = (items.take i).map f) (h := g) hl
    (fun i h acc q => by rw [q.1]; exact hat i) ⟨rfl, rfl⟩ (fun i x h acc hx q => by
      obtain ⟨rfl, rfl⟩ := q
      obtain ⟨s, e1, e2⟩ := step i x hx
      refine ⟨s, h, e1, true, h, by simp only [evSs, es_asg, es_par, es_aug, es_expr, es_ret, es_ifs, es_for, es_while, es_pass, es_brk, es_cont, ee_lit, ee_var, ee_glob, ee_bty, ee_bin, ee_neg, ee_cmp, ee_chain, ee_not, ee_and, ee_or, ee_ife, ee_tup, ee_lst, ee_idx, ee_slice, ee_rev, ee_call, ee_blt, ee_mth, ee_lc, ee_lc2, evA, evO, evC, evI, evG, evGs, R.bind_ok], .inl ⟨rfl, f x, h, e2, rfl, ?_⟩⟩
      rw [List.take_succ, hx, List.map_append]
      rfl)
  rw [e, h1, h2, List.take_length]
theorem lcRun_filter {C : Ctx} {st : St} {own : List Nat} {t : Tg} {cd : Eo} {el : E} {src : Src} {items : List AV} {g : AH} (p : AV → Bool) (f : AV → AV) (hl : items.length ≤ bigL) (hat : ∀ i : Nat, src.at i g = some items[i]?)
    (step : ∀ (i : Nat) (x : AV), items[i]? = some x → ∃ s, evG C t x (wipeA st own) g = .ok s g ∧ evC C s cd g = .ok (.bl (p x)) g ∧ (p x = true → evE C s el g = .ok (f x) g)) : lcRun C st own t cd el src g = .ok ((items.filter p).map f) g := by
  obtain ⟨ys, g', e, h1, h2⟩ := lcRun_inv (C := C) (st := st) (own := own) (t := t) (cd := cd) (el := el) (src := src) (items := items) (fun i h acc => h = g ∧ acc = ((items.take i).filter p).map f) (h := g) hl
    (fun i h acc q => by rw [q.1]; exact hat i) ⟨rfl, rfl⟩ (fun i x h acc hx q => by
      obtain ⟨rfl, rfl⟩ := q
      obtain ⟨s, e1, e2, e3⟩ := step i x hx
      refine ⟨s, h, e1, p x, h, e2, ?_⟩
      cases hp : p x with
      | true =>
        refine .inl ⟨rfl, f x, h, e3 hp, rfl, ?_⟩
        rw [List.take_succ, hx, List.filter_append, List.map_append]
        simp [hp]
      | false =>
        refine .inr ⟨rfl, rfl, ?_⟩
        rw [List.take_succ, hx, List.filter_append, List.map_append]
        simp [hp])
  rw [e, h1, h2, List.take_length]
theorem gc_drop {g ex : AH} {v : AV} (p : Pl g) (hv : below 0 v = true) : gcOf true g.length v (g ++ ex) = .ok v g := by
  rw [gc_ok hv (by rw [List.take_left]; exact p) rfl, List.take_left]

theorem beads_at_ok {P : List FnD} {G : List AV} {l i : Nat} (hd : P[i]? = some Lib.law_beads_at) (g : AH) (gm : AV) (shape row : List Nat) (p m : Int) (pl : Pl g) (hg : ∀ H, idxop gm (.int 1) H = .ok (.str shape) H) (hr : row.length ≤ 1000) :
    callN P G (l + 1) i [gm, .str row, .int p, .int m] g = .ok (.str (bd shape row p m)) g := by
  have ha : ∀ H, binop .Add false (.str row) (.str row) H = .ok (.str (row ++ row)) H := fun H => add_str _ _ (by unfold bigL; omega)
  have hc : ∀ H, cmpop .Eq (.str shape) (.str [114, 105, 110, 103]) H = .ok (.bl (decide (shape = ringT))) H := fun H => cmp_eq_str _ _ _
  have eb : ∃ st, evSs ⟨callN P G l, G⟩ Lib.law_beads_at.body [some gm, some (.str row), some (.int p), some (.int m)] g = .ok (st, .rt (.str (bd shape row p m))) g := by
    by_cases q : shape = ringT
    · simp only [Lib.law_beads_at, evSs, es_asg, es_par, es_aug, es_expr, es_ret, es_ifs, es_for, es_while, es_pass, es_brk, es_cont, ee_lit, ee_var, ee_glob, ee_bty, ee_bin, ee_neg, ee_cmp, ee_chain, ee_not, ee_and, ee_or, ee_ife, ee_tup, ee_lst, ee_idx, ee_slice, ee_rev, ee_call, ee_blt, ee_mth, ee_lc, ee_lc2, evA, evO, evC, evI, evG, evGs, R.bind_ok, seqOf_tup, seqOf_lst, bin_add, bin_sub, bin_pow7, bin_pow18, cmp_gt, cmp_lt, cmp_ge, cmp_le, blt_abs, getV, List.getElem?_cons_zero, List.getElem?_cons_succ, List.set_cons_zero, List.set_cons_succ, List.map_cons, List.map_nil, List.length_cons, List.length_nil, List.replicate, List.cons_append, List.nil_append, Nat.reduceAdd, Nat.reduceSub, Nat.zero_add, hg, hc, decide_eq_true q, ha, slop_str, bd, if_pos q]
      exact ⟨_, rfl⟩
    · simp only [Lib.law_beads_at, evSs, es_asg, es_par, es_aug, es_expr, es_ret, es_ifs, es_for, es_while, es_pass, es_brk, es_cont, ee_lit, ee_var, ee_glob, ee_bty, ee_bin, ee_neg, ee_cmp, ee_chain, ee_not, ee_and, ee_or, ee_ife, ee_tup, ee_lst, ee_idx, ee_slice, ee_rev, ee_call, ee_blt, ee_mth, ee_lc, ee_lc2, evA, evO, evC, evI, evG, evGs, R.bind_ok, seqOf_tup, seqOf_lst, bin_add, bin_sub, bin_pow7, bin_pow18, cmp_gt, cmp_lt, cmp_ge, cmp_le, blt_abs, getV, List.getElem?_cons_zero, List.getElem?_cons_succ, List.set_cons_zero, List.set_cons_succ, List.map_cons, List.map_nil, List.length_cons, List.length_nil, List.replicate, List.cons_append, List.nil_append, Nat.reduceAdd, Nat.reduceSub, Nat.zero_add, hg, hc, decide_eq_false q, slop_str, bd, if_neg q]
      exact ⟨_, rfl⟩
  obtain ⟨st, eb⟩ := eb
  rw [call_rt hd rfl eb]
  exact gc_same pl rfl
/-- the places at which a text stands -/
def spotsN (shape row t : List Nat) (n : Nat) : List Nat := (List.range n).filter fun p => decide (bd shape row p t.length = t)
def natsA (ps : List Nat) : List AV := ps.map fun (p : Nat) => .int (p : Int)
theorem below_nats : ∀ ps : List Nat, belows 0 (natsA ps) = true
  | [] => rfl
  | p :: r => by
    have ih := below_nats r
    simp only [natsA, List.map_cons, belows, below, Bool.true_and] at ih ⊢
    exact ih
theorem range_nats (n : Nat) : rangeA 0 n = natsA (List.range n) := by
  unfold rangeA natsA
  rw [Int.sub_zero, Int.toNat_natCast]
  refine List.map_congr_left fun i _ => ?_
  rw [Int.zero_add]
theorem nats_get {ps : List Nat} {i : Nat} {x : AV} (h : (natsA ps)[i]? = some x) : ∃ p : Nat, ps[i]? = some p ∧ x = .int p := by
  unfold natsA at h
  rw [List.getElem?_map] at h
  obtain ⟨p, e1, e2⟩ := Option.map_eq_some_iff.mp h
  exact ⟨p, e1, e2.symm⟩
theorem spots_lenN (shape row t : List Nat) (n : Nat) : (spotsN shape row t n).length ≤ n := by
  unfold spotsN
  have := List.length_filter_le (fun (p : Nat) => decide (bd shape row p t.length = t)) (List.range n)
  rw [List.length_range] at this
  exact this
theorem spots_mem {shape row t : List Nat} {n p : Nat} : p ∈ spotsN shape row t n ↔ p < n ∧ bd shape row p t.length = t := by
  unfold spotsN
  rw [List.mem_filter, List.mem_range, decide_eq_true_eq]
theorem spots_ok {P : List FnD} {G : List AV} {l i j : Nat} (hd : P[i]? = some (Lib.law_spots j)) (hj : P[j]? = some Lib.law_beads_at) (g : AH) (gm : AV) (shape row t : List Nat) (n : Nat) (pl : Pl g) (hg : ∀ H, idxop gm (.int 1) H = .ok (.str shape) H) (hg3 : ∀ H, idxop gm (.int 3) H = .ok (.int n) H) (hn : n ≤ 1000) (hr : row.length ≤ 1000) :
    callN P G (l + 2) i [gm, .str row, .str t] g = .ok (.lst (natsA (spotsN shape row t n))) g := by
  have e := lcRun_filter (C := ⟨callN P G (l + 1), G⟩) (st := [some gm, some (.str row), some (.str t), none]) (own := [3]) (t := .name 3) (cd := Lib.law_spots_c1 j) (el := Lib.law_spots_e1) (src := .one (.xs (rangeA 0 n))) (items := natsA (List.range n)) (g := g)
    (fun x => match x with
      | .int p => decide (bd shape row p t.length = t)
      | _ => false) id (by unfold natsA; rw [List.length_map, List.length_range]; unfold bigL; omega) (fun i => by rw [range_nats]; rfl) (fun k x hx => by
      obtain ⟨p, _, rfl⟩ := nats_get hx
      have eb := beads_at_ok (G := G) (l := l) hj g gm shape row p t.length pl hg hr
      exact ⟨[some gm, some (.str row), some (.str t), some (.int p)], by simp only [evSs, es_asg, es_par, es_aug, es_expr, es_ret, es_ifs, es_for, es_while, es_pass, es_brk, es_cont, ee_lit, ee_var, ee_glob, ee_bty, ee_bin, ee_neg, ee_cmp, ee_chain, ee_not, ee_and, ee_or, ee_ife, ee_tup, ee_lst, ee_idx, ee_slice, ee_rev, ee_call, ee_blt, ee_mth, ee_lc, ee_lc2, evA, evO, evC, evI, evG, evGs, R.bind_ok, seqOf_tup, seqOf_lst, bin_add, bin_sub, bin_pow7, bin_pow18, cmp_gt, cmp_lt, cmp_ge, cmp_le, blt_abs, getV, List.getElem?_cons_zero, List.getElem?_cons_succ, List.set_cons_zero, List.set_cons_succ, List.map_cons, List.map_nil, List.length_cons, List.length_nil, List.replicate, List.cons_append, List.nil_append, Nat.reduceAdd, Nat.reduceSub, Nat.zero_add, wipeA], by simp only [Lib.law_spots_c1, evSs, es_asg, es_par, es_aug, es_expr, es_ret, es_ifs, es_for, es_while, es_pass, es_brk, es_cont, ee_lit, ee_var, ee_glob, ee_bty, ee_bin, ee_neg, ee_cmp, ee_chain, ee_not, ee_and, ee_or, ee_ife, ee_tup, ee_lst, ee_idx, ee_slice, ee_rev, ee_call, ee_blt, ee_mth, ee_lc, ee_lc2, evA, evO, evC, evI, evG, evGs, R.bind_ok, seqOf_tup, seqOf_lst, bin_add, bin_sub, bin_pow7, bin_pow18, cmp_gt, cmp_lt, cmp_ge, cmp_le, blt_abs, getV, List.getElem?_cons_zero, List.getElem?_cons_succ, List.set_cons_zero, List.set_cons_succ, List.map_cons, List.map_nil, List.length_cons, List.length_nil, List.replicate, List.cons_append, List.nil_append, Nat.reduceAdd, Nat.reduceSub, Nat.zero_add, blt_len_str, eb, cmp_eq_str], fun _ => by simp only [Lib.law_spots_e1, evSs, es_asg, es_par, es_aug, es_expr, es_ret, es_ifs, es_for, es_while, es_pass, es_brk, es_cont, ee_lit, ee_var, ee_glob, ee_bty, ee_bin, ee_neg, ee_cmp, ee_chain, ee_not, ee_and, ee_or, ee_ife, ee_tup, ee_lst, ee_idx, ee_slice, ee_rev, ee_call, ee_blt, ee_mth, ee_lc, ee_lc2, evA, evO, evC, evI, evG, evGs, R.bind_ok, seqOf_tup, seqOf_lst, bin_add, bin_sub, bin_pow7, bin_pow18, cmp_gt, cmp_lt, cmp_ge, cmp_le, blt_abs, getV, List.getElem?_cons_zero, List.getElem?_cons_succ, List.set_cons_zero, List.set_cons_succ, List.map_cons, List.map_nil, List.length_cons, List.length_nil, List.replicate, List.cons_append, List.nil_append, Nat.reduceAdd, Nat.reduceSub, Nat.zero_add, id]⟩)
  have ef : (List.map id (List.filter (fun x : AV => match x with
      | .int p => decide (bd shape row p t.length = t)
      | _ => false) (natsA (List.range n)))) = natsA (spotsN shape row t n) := by
    rw [List.map_id]
    unfold natsA spotsN
    rw [List.filter_map]
    rfl
  rw [ef] at e
  have eb : evSs ⟨callN P G (l + 1), G⟩ (Lib.law_spots j).body [some gm, some (.str row), some (.str t), none] g = .ok ([some gm, some (.str row), some (.str t), none], .rt (.lst (natsA (spotsN shape row t n)))) g := by
    simp only [Lib.law_spots, evSs, es_asg, es_par, es_aug, es_expr, es_ret, es_ifs, es_for, es_while, es_pass, es_brk, es_cont, ee_lit, ee_var, ee_glob, ee_bty, ee_bin, ee_neg, ee_cmp, ee_chain, ee_not, ee_and, ee_or, ee_ife, ee_tup, ee_lst, ee_idx, ee_slice, ee_rev, ee_call, ee_blt, ee_mth, ee_lc, ee_lc2, evA, evO, evC, evI, evG, evGs, R.bind_ok, seqOf_tup, seqOf_lst, bin_add, bin_sub, bin_pow7, bin_pow18, cmp_gt, cmp_lt, cmp_ge, cmp_le, blt_abs, getV, List.getElem?_cons_zero, List.getElem?_cons_succ, List.set_cons_zero, List.set_cons_succ, List.map_cons, List.map_nil, List.length_cons, List.length_nil, List.replicate, List.cons_append, List.nil_append, Nat.reduceAdd, Nat.reduceSub, Nat.zero_add, hg3, range_ok (n := n) (by omega) (by omega), if_true, e, mk_f]
  rw [call_rt hd rfl eb]
  exact gc_same pl (below_nats _)

/-! ### moves by the rules -/
def stA (p : Nat × List Nat × List Nat) : AV := .tup [.int p.1, .str p.2.1, .str p.2.2]
def stepsL (shape row : List Nat) (n : Nat) (rs : List (List Nat × List Nat)) : List (Nat × List Nat × List Nat) := rs.flatMap fun r => (spotsN shape row r.1 n).map fun p => (p, r.1, r.2)
theorem stepsL_len {shape row : List Nat} {n : Nat} : ∀ rs : List (List Nat × List Nat), (stepsL shape row n rs).length ≤ rs.length * n
  | [] => Nat.zero_le _
  | r :: rs => by
    have ih := stepsL_len (shape := shape) (row := row) (n := n) rs
    unfold stepsL at ih ⊢
    rw [List.flatMap_cons, List.length_append, List.length_map, List.length_cons, Nat.succ_mul]
    have := spots_lenN shape row r.1 n
    omega
theorem stepsL_mem {shape row : List Nat} {n : Nat} {rs : List (List Nat × List Nat)} {x : Nat × List Nat × List Nat} : x ∈ stepsL shape row n rs ↔ (x.2.1, x.2.2) ∈ rs ∧ x.1 < n ∧ bd shape row x.1 x.2.1.length = x.2.1 := by
  unfold stepsL
  rw [List.mem_flatMap]
  constructor
  · rintro ⟨r, hr, hx⟩
    obtain ⟨p, hp, rfl⟩ := List.mem_map.mp hx
    exact ⟨hr, spots_mem.mp hp⟩
  · rintro ⟨h1, h2⟩
    exact ⟨_, h1, List.mem_map.mpr ⟨x.1, spots_mem.mpr h2, rfl⟩⟩
theorem sortable_sts (xs : List (Nat × List Nat × List Nat)) : sortable (xs.map stA) = true := by
  cases xs with
  | nil => rfl
  | cons p r =>
    simp only [List.map_cons, sortable, stA, kdOf, kdsOf, Option.map_some]
    simp only [Bool.and_eq_true, List.all_eq_true]
    refine ⟨rfl, fun y hy => ?_⟩
    obtain ⟨q, _, rfl⟩ := List.mem_map.mp hy
    rfl
theorem below_sts : ∀ xs : List (Nat × List Nat × List Nat), belows 0 (xs.map stA) = true
  | [] => rfl
  | p :: r => by simp only [List.map_cons, belows, below_sts r, stA, below, Bool.and_true]
theorem steps_of_ok {P : List FnD} {G : List AV} {l i js jb : Nat} (hd : P[i]? = some (Lib.law_steps_of js)) (hs : P[js]? = some (Lib.law_spots jb)) (hb : P[jb]? = some Lib.law_beads_at) (g : AH) (gm : AV) (shape row : List Nat) (n : Nat) (side : Int) (r4 : AV) (rs : List (List Nat × List Nat)) (pl : Pl g)
    (hg : ∀ H, idxop gm (.int 1) H = .ok (.str shape) H) (hg3 : ∀ H, idxop gm (.int 3) H = .ok (.int n) H) (hg4 : ∀ H, idxop gm (.int 4) H = .ok r4 H) (hr4 : ∀ H, idxop r4 (.int side) H = .ok (.tup (rs.map prA)) H) (hn : n ≤ 1000) (hr : row.length ≤ 1000) (hrs : rs.length ≤ 100) :
    callN P G (l + 3) i [gm, .tup [.int side, .str row]] g = .ok (.lst (sortA ((stepsL shape row n rs).map stA))) g := by
  obtain ⟨s2, g2, e2, x5, x6, rfl, rfl⟩ := forRun_inv (C := ⟨callN P G (l + 2), G⟩) (t := .tup (.cons (.name 5) (.cons (.name 6) .nil))) (body := Lib.law_steps_of_b1 js) (src := .one (.xs (rs.map prA))) (items := rs.map prA)
    (fun k st h => ∃ (x5 x6 : Option AV), st = [some gm, some (.tup [.int side, .str row]), some (.lst ((stepsL shape row n (rs.take k)).map stA)), some (.int side), some (.str row), x5, x6, none] ∧ g = h)
    (s := [some gm, some (.tup [.int side, .str row]), some (.lst []), some (.int side), some (.str row), none, none, none]) (h := g) (by rw [List.length_map]; unfold bigL; omega) (fun _ _ _ _ => rfl) ⟨none, none, rfl, rfl⟩ (by
      rintro k x st h kx ⟨x5, x6, rfl, rfl⟩
      rw [List.getElem?_map] at kx
      obtain ⟨p, ep, rfl⟩ := Option.map_eq_some_iff.mp kx
      have es := spots_ok (G := G) (l := l) hs hb g gm shape row p.1 n pl hg hg3 hn hr
      refine ⟨[some gm, some (.tup [.int side, .str row]), some (.lst ((stepsL shape row n (rs.take k)).map stA)), some (.int side), some (.str row), some (.str p.1), some (.str p.2), none], g, by simp only [prA, evSs, es_asg, es_par, es_aug, es_expr, es_ret, es_ifs, es_for, es_while, es_pass, es_brk, es_cont, ee_lit, ee_var, ee_glob, ee_bty, ee_bin, ee_neg, ee_cmp, ee_chain, ee_not, ee_and, ee_or, ee_ife, ee_tup, ee_lst, ee_idx, ee_slice, ee_rev, ee_call, ee_blt, ee_mth, ee_lc, ee_lc2, evA, evO, evC, evI, evG, evGs, R.bind_ok, seqOf_tup, seqOf_lst, bin_add, bin_sub, bin_pow7, bin_pow18, cmp_gt, cmp_lt, cmp_ge, cmp_le, blt_abs, getV, List.getElem?_cons_zero, List.getElem?_cons_succ, List.set_cons_zero, List.set_cons_succ, List.map_cons, List.map_nil, List.length_cons, List.length_nil, List.replicate, List.cons_append, List.nil_append, Nat.reduceAdd, Nat.reduceSub, Nat.zero_add, tgsLen, if_true], ?_⟩
      have em := lcRun_map (C := ⟨callN P G (l + 2), G⟩) (st := [some gm, some (.tup [.int side, .str row]), some (.lst ((stepsL shape row n (rs.take k)).map stA)), some (.int side), some (.str row), some (.str p.1), some (.str p.2), none]) (own := [7]) (t := .name 7) (el := Lib.law_steps_of_e1)
        (src := .one (.xs (natsA (spotsN shape row p.1 n)))) (items := natsA (spotsN shape row p.1 n)) (g := g) (fun x => .tup [x, .str p.1, .str p.2]) (by unfold natsA; rw [List.length_map]; have := spots_lenN shape row p.1 n; unfold bigL; omega) (fun i => rfl) (fun j x hx => by
          obtain ⟨q, _, rfl⟩ := nats_get hx
          exact ⟨[some gm, some (.tup [.int side, .str row]), some (.lst ((stepsL shape row n (rs.take k)).map stA)), some (.int side), some (.str row), some (.str p.1), some (.str p.2), some (.int q)], by simp only [evSs, es_asg, es_par, es_aug, es_expr, es_ret, es_ifs, es_for, es_while, es_pass, es_brk, es_cont, ee_lit, ee_var, ee_glob, ee_bty, ee_bin, ee_neg, ee_cmp, ee_chain, ee_not, ee_and, ee_or, ee_ife, ee_tup, ee_lst, ee_idx, ee_slice, ee_rev, ee_call, ee_blt, ee_mth, ee_lc, ee_lc2, evA, evO, evC, evI, evG, evGs, R.bind_ok, seqOf_tup, seqOf_lst, bin_add, bin_sub, bin_pow7, bin_pow18, cmp_gt, cmp_lt, cmp_ge, cmp_le, blt_abs, getV, List.getElem?_cons_zero, List.getElem?_cons_succ, List.set_cons_zero, List.set_cons_succ, List.map_cons, List.map_nil, List.length_cons, List.length_nil, List.replicate, List.cons_append, List.nil_append, Nat.reduceAdd, Nat.reduceSub, Nat.zero_add, wipeA], by simp only [Lib.law_steps_of_e1, evSs, es_asg, es_par, es_aug, es_expr, es_ret, es_ifs, es_for, es_while, es_pass, es_brk, es_cont, ee_lit, ee_var, ee_glob, ee_bty, ee_bin, ee_neg, ee_cmp, ee_chain, ee_not, ee_and, ee_or, ee_ife, ee_tup, ee_lst, ee_idx, ee_slice, ee_rev, ee_call, ee_blt, ee_mth, ee_lc, ee_lc2, evA, evO, evC, evI, evG, evGs, R.bind_ok, seqOf_tup, seqOf_lst, bin_add, bin_sub, bin_pow7, bin_pow18, cmp_gt, cmp_lt, cmp_ge, cmp_le, blt_abs, getV, List.getElem?_cons_zero, List.getElem?_cons_succ, List.set_cons_zero, List.set_cons_succ, List.map_cons, List.map_nil, List.length_cons, List.length_nil, List.replicate, List.cons_append, List.nil_append, Nat.reduceAdd, Nat.reduceSub, Nat.zero_add]⟩)
      have hk : k < rs.length := (List.getElem?_eq_some_iff.mp ep).1
      have l1 : (stepsL shape row n (rs.take k)).length ≤ 100 * 1000 := Nat.le_trans (stepsL_len _) (Nat.mul_le_mul (by rw [List.length_take]; omega) hn)
      have l2 := spots_lenN shape row p.1 n
      have ea : binop .Add false (.lst ((stepsL shape row n (rs.take k)).map stA)) (.lst ((natsA (spotsN shape row p.1 n)).map fun x => .tup [x, .str p.1, .str p.2])) g = .ok (.lst ((stepsL shape row n (rs.take (k + 1))).map stA)) g := by
        have e1 : (stepsL shape row n (rs.take (k + 1))).map stA = (stepsL shape row n (rs.take k)).map stA ++ (natsA (spotsN shape row p.1 n)).map fun x => .tup [x, .str p.1, .str p.2] := by
          rw [List.take_succ, ep]
          unfold stepsL natsA
          rw [List.flatMap_append, List.map_append]
          congr 1
          simp only [Option.toList_some, List.flatMap_cons, List.flatMap_nil, List.append_nil, List.map_map]
          rfl
        rw [e1]
        have q : ((stepsL shape row n (rs.take k)).map stA).length + ((natsA (spotsN shape row p.1 n)).map fun x => AV.tup [x, .str p.1, .str p.2]).length ≤ bigL := by
          unfold natsA
          rw [List.length_map, List.length_map, List.length_map]
          unfold bigL
          omega
        simp only [binop, listOf, if_pos q, mk_f]
      refine ⟨[some gm, some (.tup [.int side, .str row]), some (.lst ((stepsL shape row n (rs.take (k + 1))).map stA)), some (.int side), some (.str row), some (.str p.1), some (.str p.2), none], g, ?_, _, _, rfl, rfl⟩
      simp only [Lib.law_steps_of_b1, evSs, es_asg, es_par, es_aug, es_expr, es_ret, es_ifs, es_for, es_while, es_pass, es_brk, es_cont, ee_lit, ee_var, ee_glob, ee_bty, ee_bin, ee_neg, ee_cmp, ee_chain, ee_not, ee_and, ee_or, ee_ife, ee_tup, ee_lst, ee_idx, ee_slice, ee_rev, ee_call, ee_blt, ee_mth, ee_lc, ee_lc2, evA, evO, evC, evI, evG, evGs, R.bind_ok, seqOf_tup, seqOf_lst, bin_add, bin_sub, bin_pow7, bin_pow18, cmp_gt, cmp_lt, cmp_ge, cmp_le, blt_abs, getV, List.getElem?_cons_zero, List.getElem?_cons_succ, List.set_cons_zero, List.set_cons_succ, List.map_cons, List.map_nil, List.length_cons, List.length_nil, List.replicate, List.cons_append, List.nil_append, Nat.reduceAdd, Nat.reduceSub, Nat.zero_add, es, viewOf, viewL, em, mk_f, ea])
  rw [List.length_map, List.take_length] at e2
  have eb : evSs ⟨callN P G (l + 2), G⟩ (Lib.law_steps_of js).body [some gm, some (.tup [.int side, .str row]), none, none, none, none, none, none] g = .ok ([some gm, some (.tup [.int side, .str row]), some (.lst ((stepsL shape row n rs).map stA)), some (.int side), some (.str row), x5, x6, none], .rt (.lst (sortA ((stepsL shape row n rs).map stA)))) g := by
    simp only [Lib.law_steps_of, evSs, es_asg, es_par, es_aug, es_expr, es_ret, es_ifs, es_for, es_while, es_pass, es_brk, es_cont, ee_lit, ee_var, ee_glob, ee_bty, ee_bin, ee_neg, ee_cmp, ee_chain, ee_not, ee_and, ee_or, ee_ife, ee_tup, ee_lst, ee_idx, ee_slice, ee_rev, ee_call, ee_blt, ee_mth, ee_lc, ee_lc2, evA, evO, evC, evI, evG, evGs, R.bind_ok, seqOf_tup, seqOf_lst, bin_add, bin_sub, bin_pow7, bin_pow18, cmp_gt, cmp_lt, cmp_ge, cmp_le, blt_abs, getV, List.getElem?_cons_zero, List.getElem?_cons_succ, List.set_cons_zero, List.set_cons_succ, List.map_cons, List.map_nil, List.length_cons, List.length_nil, List.replicate, List.cons_append, List.nil_append, Nat.reduceAdd, Nat.reduceSub, Nat.zero_add, tgsLen, if_true, mk_f, hg4, hr4, viewOf, viewL, e2, blt_sorted_lst (sortable_sts _)]
  rw [call_rt hd rfl eb]
  exact gc_same pl (belows_sort (below_sts _))

/-! ### what stands behind a move -/
theorem lits_signs (t : List Nat) : lits t = signs t := rfl
theorem textsA_ref {h : AH} {n : Nat} {t : List Nat} (e : h[n]? = some (.lst (signs t))) (hl : t.length ≤ bigL) : mthop .join (.str []) [.ref n] h = .ok (.str t) h := by
  simp only [mthop, seqOf, e, textsA_signs, sum_signs, join_signs, List.length_nil, Nat.mul_zero, Nat.add_zero, if_pos hl]
theorem signs_set (t : List Nat) (j c : Nat) : (signs t).set j (.str [c]) = signs (t.set j c) := by
  unfold signs
  rw [List.map_set]
theorem signs_len (t : List Nat) : (signs t).length = t.length := List.length_map _
theorem below_signs : ∀ t : List Nat, belows 0 (signs t) = true
  | [] => rfl
  | c :: r => by
    have ih := below_signs r
    simp only [signs, List.map_cons, belows, below, Bool.true_and] at ih ⊢
    exact ih
theorem enum_at (t : List Nat) (j : Nat) (h : AH) : (Src.enum (.xs (lits t))).at j h = some ((lits t).mapIdx fun (i : Nat) y => AV.tup [.int i, y])[j]? := by
  simp only [Src.at, View.at, List.getElem?_mapIdx]
  cases (lits t)[j]? <;> rfl
theorem enum_get {t : List Nat} {j : Nat} {x : AV} (h : ((lits t).mapIdx fun (i : Nat) y => AV.tup [.int i, y])[j]? = some x) : ∃ c, t[j]? = some c ∧ x = .tup [.int j, .str [c]] := by
  rw [List.getElem?_mapIdx] at h
  obtain ⟨y, e1, e2⟩ := Option.map_eq_some_iff.mp h
  obtain ⟨c, e3, e4⟩ := lits_at e1
  exact ⟨c, e3, by rw [← e2, e4]⟩
theorem enum_len (t : List Nat) : ((lits t).mapIdx fun (i : Nat) y => AV.tup [.int i, y]).length = t.length := by
  rw [List.length_mapIdx]
  exact List.length_map _
theorem put_nil (row : List Nat) (p : Nat) : putR row p [] = row := by
  unfold putR
  conv => rhs; rw [self_rmap row]
  exact rmap_congr fun i _ => by rw [if_neg (by simp)]
theorem mod_place {L : Nat} (h1 : 2 ≤ L) (h2 : L ≤ 7) {p k i : Nat} (hp : p < L) (hk : k < L) (hi : i < L) : (i = (p + k) % L ↔ (i + L - p) % L = k) := by
  rcases L_of h1 h2 with rfl | rfl | rfl | rfl | rfl | rfl <;> omega
theorem put_step {row new : List Nat} {L p k c : Nat} (h1 : 2 ≤ L) (h2 : L ≤ 7) (hr : row.length = L) (hp : p < L) (hn : new.length ≤ L) (hc : new[k]? = some c) : (putR row p (new.take k)).set ((p + k) % L) c = putR row p (new.take (k + 1)) := by
  have hk : k < new.length := (List.getElem?_eq_some_iff.mp hc).1
  have lk : (new.take k).length = k := by rw [List.length_take]; omega
  have lk1 : (new.take (k + 1)).length = k + 1 := by rw [List.length_take]; omega
  unfold putR
  rw [hr, lk, lk1]
  refine eq_rmap (by rw [List.length_set, rmap_len]) fun i hi => ?_
  have mp := mod_place h1 h2 hp (show k < L by omega) hi
  by_cases e : i = (p + k) % L
  · rw [if_pos (by rw [mp.mp e]; omega), mp.mp e, ← e, List.getElem?_set_self (by rw [rmap_len]; exact hi), List.getD_eq_getElem?_getD, List.getElem?_take_of_lt (by omega), hc]
    rfl
  · have ne : ¬ (i + L - p) % L = k := fun z => e (mp.mpr z)
    rw [List.getElem?_set_ne (fun z => e z.symm), rmap_get _ hi]
    by_cases lt : (i + L - p) % L < k
    · rw [if_pos lt, if_pos (by omega), List.getD_eq_getElem?_getD, List.getD_eq_getElem?_getD, List.getElem?_take_of_lt lt, List.getElem?_take_of_lt (by omega)]
    · rw [if_neg lt, if_neg (by omega)]
theorem modCast (p k L : Nat) : ((p : Int) + (k : Int)) % (L : Int) = ((p + k) % L : Nat) := by
  rw [← Int.natCast_add, Int.natCast_emod]
theorem behind_ok {P : List FnD} {G : List AV} {l i : Nat} (hd : P[i]? = some Lib.law_behind) (g : AH) (gm : AV) (side : Int) (row old new : List Nat) (L p : Nat) (pl : Pl g) (hg3 : ∀ H, idxop gm (.int 3) H = .ok (.int L) H) (h1 : 2 ≤ L) (h2 : L ≤ 7) (hr : row.length = L) (hp : p < L) (hn : new.length ≤ L) :
    callN P G (l + 1) i [gm, .tup [.int side, .str row], .tup [.int p, .str old, .str new]] g = .ok (.tup [.int (1 - side), .str (putR row p new)]) g := by
  obtain ⟨s2, g2, e2, x9, x10, rfl, rfl⟩ := forRun_inv (C := ⟨callN P G l, G⟩) (t := .tup (.cons (.name 9) (.cons (.name 10) .nil))) (body := Lib.law_behind_b1) (src := .enum (.xs (lits new))) (items := (lits new).mapIdx fun (i : Nat) y => AV.tup [.int i, y])
    (fun k st h => ∃ (x9 x10 : Option AV), st = [some gm, some (.tup [.int side, .str row]), some (.tup [.int p, .str old, .str new]), some (.ref g.length), some (.int side), some (.str row), some (.int p), some (.str old), some (.str new), x9, x10] ∧ h = g ++ [.lst (signs (putR row p (new.take k)))])
    (s := [some gm, some (.tup [.int side, .str row]), some (.tup [.int p, .str old, .str new]), some (.ref g.length), some (.int side), some (.str row), some (.int p), some (.str old), some (.str new), none, none]) (h := g ++ [.lst (signs row)]) (by rw [enum_len]; unfold bigL; omega) (fun j _ h _ => enum_at new j h)
    ⟨none, none, rfl, by rw [List.take_zero, put_nil]⟩ (by
      rintro k x st h kx ⟨x9, x10, rfl, rfl⟩
      obtain ⟨c, ec, rfl⟩ := enum_get kx
      refine ⟨[some gm, some (.tup [.int side, .str row]), some (.tup [.int p, .str old, .str new]), some (.ref g.length), some (.int side), some (.str row), some (.int p), some (.str old), some (.str new), some (.int k), some (.str [c])], g ++ [.lst (signs (putR row p (new.take k)))], by simp only [evSs, es_asg, es_par, es_aug, es_expr, es_ret, es_ifs, es_for, es_while, es_pass, es_brk, es_cont, ee_lit, ee_var, ee_glob, ee_bty, ee_bin, ee_neg, ee_cmp, ee_chain, ee_not, ee_and, ee_or, ee_ife, ee_tup, ee_lst, ee_idx, ee_slice, ee_rev, ee_call, ee_blt, ee_mth, ee_lc, ee_lc2, evA, evO, evC, evI, evG, evGs, R.bind_ok, seqOf_tup, seqOf_lst, bin_add, bin_sub, bin_pow7, bin_pow18, cmp_gt, cmp_lt, cmp_ge, cmp_le, blt_abs, getV, List.getElem?_cons_zero, List.getElem?_cons_succ, List.set_cons_zero, List.set_cons_succ, List.map_cons, List.map_nil, List.length_cons, List.length_nil, List.replicate, List.cons_append, List.nil_append, Nat.reduceAdd, Nat.reduceSub, Nat.zero_add, tgsLen, if_true], ?_⟩
      have em : ∀ H, binop .Mod false (.int ((p : Int) + (k : Int))) (.int L) H = .ok (.int (((p + k) % L : Nat) : Int)) H := fun H => by rw [bin_mod _ _ (by omega), modCast]
      have lt : (p + k) % L < (signs (putR row p (new.take k))).length := by rw [signs_len, put_len, hr]; exact Nat.mod_lt _ (by omega)
      refine ⟨[some gm, some (.tup [.int side, .str row]), some (.tup [.int p, .str old, .str new]), some (.ref g.length), some (.int side), some (.str row), some (.int p), some (.str old), some (.str new), some (.int k), some (.str [c])], g ++ [.lst (signs (putR row p (new.take (k + 1))))], ?_, _, _, rfl, rfl⟩
      simp only [Lib.law_behind_b1, evSs, es_asg, es_par, es_aug, es_expr, es_ret, es_ifs, es_for, es_while, es_pass, es_brk, es_cont, ee_lit, ee_var, ee_glob, ee_bty, ee_bin, ee_neg, ee_cmp, ee_chain, ee_not, ee_and, ee_or, ee_ife, ee_tup, ee_lst, ee_idx, ee_slice, ee_rev, ee_call, ee_blt, ee_mth, ee_lc, ee_lc2, evA, evO, evC, evI, evG, evGs, R.bind_ok, seqOf_tup, seqOf_lst, bin_add, bin_sub, bin_pow7, bin_pow18, cmp_gt, cmp_lt, cmp_ge, cmp_le, blt_abs, getV, List.getElem?_cons_zero, List.getElem?_cons_succ, List.set_cons_zero, List.set_cons_succ, List.map_cons, List.map_nil, List.length_cons, List.length_nil, List.replicate, List.cons_append, List.nil_append, Nat.reduceAdd, Nat.reduceSub, Nat.zero_add, hg3, em, setAt_ref at_last lt, set_last, signs_set, put_step h1 h2 hr hp hn ec])
  rw [enum_len, List.take_length] at e2
  have lp : (putR row p new).length ≤ bigL := by rw [put_len, hr]; unfold bigL; omega
  have eb : evSs ⟨callN P G l, G⟩ Lib.law_behind.body [some gm, some (.tup [.int side, .str row]), some (.tup [.int p, .str old, .str new]), none, none, none, none, none, none, none, none] g = .ok ([some gm, some (.tup [.int side, .str row]), some (.tup [.int p, .str old, .str new]), some (.ref g.length), some (.int side), some (.str row), some (.int p), some (.str old), some (.str new), x9, x10], .rt (.tup [.int (1 - side), .str (putR row p new)])) (g ++ [.lst (signs (putR row p new))]) := by
    have el : ∀ H : AH, bltop .list true [.str row] H = .ok (.ref H.length) (H ++ [.lst (signs row)]) := fun H => rfl
    simp only [Lib.law_behind, evSs, es_asg, es_par, es_aug, es_expr, es_ret, es_ifs, es_for, es_while, es_pass, es_brk, es_cont, ee_lit, ee_var, ee_glob, ee_bty, ee_bin, ee_neg, ee_cmp, ee_chain, ee_not, ee_and, ee_or, ee_ife, ee_tup, ee_lst, ee_idx, ee_slice, ee_rev, ee_call, ee_blt, ee_mth, ee_lc, ee_lc2, evA, evO, evC, evI, evG, evGs, R.bind_ok, seqOf_tup, seqOf_lst, bin_add, bin_sub, bin_pow7, bin_pow18, cmp_gt, cmp_lt, cmp_ge, cmp_le, blt_abs, getV, List.getElem?_cons_zero, List.getElem?_cons_succ, List.set_cons_zero, List.set_cons_succ, List.map_cons, List.map_nil, List.length_cons, List.length_nil, List.replicate, List.cons_append, List.nil_append, Nat.reduceAdd, Nat.reduceSub, Nat.zero_add, tgsLen, if_true, el, viewL, viewS, e2, recvOk, textsA_ref at_last lp]
  rw [call_rt hd rfl eb]
  exact gc_drop pl rfl

def AnyStanding (c : CallSem) (i : Nat) : Prop := ∀ (h : AH) (r b : Nat) (g : AH) (K : Game) (nm : List Nat) (longest : Nat), Box h r b g → GameOk longest K → longest ≤ 100 → b + 200 ≤ 1000000000000 →
  ∃ (side : Nat) (row : List Nat) (g' : AH), c i [.ref r, K.av nm] g = .ok (.tup [.int side, .str row]) g' ∧ side < 2 ∧ row.length = K.long ∧ (∀ x ∈ row, x ∈ K.beads) ∧ Box h r (b + 200) g'
theorem any_standing_ok {P : List FnD} {G : List AV} {l i jt jx : Nat} (hd : P[i]? = some (Lib.law_any_standing jt jx)) (ht : TakeOk (callN P G l) jt) (hx : TextOk (callN P G l) jx) : AnyStanding (callN P G (l + 1)) i := by
  intro h r b g K nm longest B gk hl hb
  obtain ⟨bl1, bl2⟩ := beads_len gk.beads
  have l1 := gk.long1
  have l2 := gk.long2
  have g2' : ∀ H, idxop (K.av nm) (.int 2) H = .ok (.str K.beads) H := fun H => rfl
  have g3' : ∀ H, idxop (K.av nm) (.int 3) H = .ok (.int K.long) H := fun H => rfl
  obtain ⟨v, ga, ea, v0, v1, Ba⟩ := ht h r b g 2 B (by omega) (by omega) (by omega)
  obtain ⟨n, rfl⟩ := Int.eq_ofNat_of_zero_le v0
  obtain ⟨t, gb, eb, tl, tm, Bb⟩ := hx h r _ ga K.beads K.long Ba (by omega) (by omega) (by omega) (by omega)
  refine ⟨n, t, gb, ?_, by omega, tl, tm, Bb.mono (by omega)⟩
  have e : evSs ⟨callN P G l, G⟩ (Lib.law_any_standing jt jx).body [some (.ref r), some (K.av nm)] g = .ok ([some (.ref r), some (K.av nm)], .rt (.tup [.int n, .str t])) gb := by
    simp only [Lib.law_any_standing, evSs, es_asg, es_par, es_aug, es_expr, es_ret, es_ifs, es_for, es_while, es_pass, es_brk, es_cont, ee_lit, ee_var, ee_glob, ee_bty, ee_bin, ee_neg, ee_cmp, ee_chain, ee_not, ee_and, ee_or, ee_ife, ee_tup, ee_lst, ee_idx, ee_slice, ee_rev, ee_call, ee_blt, ee_mth, ee_lc, ee_lc2, evA, evO, evC, evI, evG, evGs, R.bind_ok, seqOf_tup, seqOf_lst, bin_add, bin_sub, bin_pow7, bin_pow18, cmp_gt, cmp_lt, cmp_ge, cmp_le, blt_abs, getV, List.getElem?_cons_zero, List.getElem?_cons_succ, List.set_cons_zero, List.set_cons_succ, List.map_cons, List.map_nil, List.length_cons, List.length_nil, List.replicate, List.cons_append, List.nil_append, Nat.reduceAdd, Nat.reduceSub, Nat.zero_add, ea, g2', g3', eb]
  rw [call_rt hd rfl e]
  exact Bb.ret B.len rfl
end SP
end
section
set_option maxRecDepth 10000
set_option maxHeartbeats 1000000
/-! k56: rows and moves turned. -/
namespace SP
namespace L56
def beads_led_e1 : E := (.idx (.var 3) (.var 4))
def beads_led : FnD := { name := "beads_led", ps := ["game", "turning", "text"], N := ["game", "turning", "text", "to", "bead"], gc := true, body :=
    (.cons (.asg (.name 3) (.blt .dictzips false (.cons (.idx (.var 0) (.lit (.int 2))) (.cons (.idx (.var 1) (.lit (.int 3))) .nil)))) (.cons (.ret (.mth .join (.lit (.str [])) (.cons (.lc false [4] (.name 4) (.e (.var 2)) .no beads_led_e1) .nil))) .nil)) }
def turned_text (c_beads_led : Nat) : FnD := { name := "turned_text", ps := ["game", "turning", "text"], N := ["game", "turning", "text"], gc := true, body :=
    (.cons (.ret (.call c_beads_led (.cons (.var 0) (.cons (.var 1) (.cons (.ife (.cmp .Eq (.idx (.var 1) (.lit (.int 0))) (.lit (.int 1))) (.rev false (.var 2)) (.var 2)) .nil))))) .nil) }
def turned_row (c_beads_led : Nat) : FnD := { name := "turned_row", ps := ["game", "turning", "row"], N := ["game", "turning", "row", "first", "back", "shift", "swap", "beads"], gc := true, body :=
    (.cons (.asg (.tup (.cons (.name 4) (.cons (.name 5) (.cons (.name 6) (.cons (.name 7) .nil))))) (.var 1)) (.cons (.asg (.name 3) (.ife (.cmp .Eq (.var 4) (.lit (.int 1))) (.rev false (.var 2)) (.var 2))) (.cons (.ret (.call c_beads_led (.cons (.var 0) (.cons (.var 1) (.cons (.bin .Add false (.slice false (.var 3) (.yes (.var 5)) .no) (.slice false (.var 3) .no (.yes (.var 5)))) .nil))))) .nil))) }
def turned (c_turned_row : Nat) : FnD := { name := "turned", ps := ["game", "turning", "standing"], N := ["game", "turning", "standing", "side", "row"], gc := true, body :=
    (.cons (.asg (.tup (.cons (.name 3) (.cons (.name 4) .nil))) (.var 2)) (.cons (.ret (.tup (.cons (.ife (.cmp .Eq (.idx (.var 1) (.lit (.int 2))) (.lit (.int 1))) (.bin .Sub false (.lit (.int 1)) (.var 3)) (.var 3)) (.cons (.call c_turned_row (.cons (.var 0) (.cons (.var 1) (.cons (.var 4) .nil)))) .nil)))) .nil)) }
def turned_move (c_turned_text : Nat) : FnD := { name := "turned_move", ps := ["game", "turning", "move"], N := ["game", "turning", "move", "long", "first", "back", "shift", "swap", "beads", "place", "old", "new"], gc := true, body :=
    (.cons (.asg (.tup (.cons (.name 5) (.cons (.name 6) (.cons (.name 7) (.cons (.name 8) .nil))))) (.var 1)) (.cons (.asg (.tup (.cons (.name 9) (.cons (.name 10) (.cons (.name 11) .nil)))) (.var 2)) (.cons (.asg (.name 3) (.idx (.var 0) (.lit (.int 3)))) (.cons (.asg (.name 4) (.ife (.cmp .Eq (.var 5) (.lit (.int 1))) (.bin .Sub false (.bin .Sub false (.var 3) (.var 9)) (.blt .len false (.cons (.var 10) .nil))) (.var 9))) (.cons (.ret (.tup (.cons (.bin .Mod false (.bin .Sub false (.var 4) (.var 6)) (.var 3)) (.cons (.call c_turned_text (.cons (.var 0) (.cons (.var 1) (.cons (.var 10) .nil)))) (.cons (.call c_turned_text (.cons (.var 0) (.cons (.var 1) (.cons (.var 11) .nil)))) .nil))))) .nil))))) }
def law_led_place : FnD := { name := "_law_led_place", ps := ["_law_game", "_law_way", "_law_place"], N := ["_law_game", "_law_way", "_law_place", "_law_back", "_law_shift", "_law_swap", "_law_beads"], gc := true, body :=
    (.cons (.asg (.tup (.cons (.name 3) (.cons (.name 4) (.cons (.name 5) (.cons (.name 6) .nil))))) (.var 1)) (.cons (.ret (.bin .Mod false (.bin .Sub false (.ife (.cmp .Eq (.var 3) (.lit (.int 1))) (.bin .Sub false (.bin .Sub false (.idx (.var 0) (.lit (.int 3))) (.lit (.int 1))) (.var 2)) (.var 2)) (.var 4)) (.idx (.var 0) (.lit (.int 3))))) .nil)) }
def law_led_beads_e1 : E := (.idx (.var 3) (.var 4))
def law_led_beads : FnD := { name := "_law_led_beads", ps := ["_law_game", "_law_way", "_law_text_here"], N := ["_law_game", "_law_way", "_law_text_here", "_law_to", "_law_sign"], gc := true, body :=
    (.cons (.asg (.name 3) (.blt .dictzip false (.cons (.idx (.var 0) (.lit (.int 2))) (.cons (.idx (.var 1) (.lit (.int 3))) .nil)))) (.cons (.ret (.mth .join (.lit (.str [])) (.cons (.lc false [4] (.name 4) (.e (.var 2)) .no law_led_beads_e1) .nil))) .nil)) }
def law_led_b1 (c_law_led_place : Nat) : Ss := (.cons (.asg (.sub (.var 3) (.call c_law_led_place (.cons (.var 0) (.cons (.var 1) (.cons (.var 6) .nil))))) (.var 7)) .nil)
def law_led (c_law_led_place : Nat) (c_law_led_beads : Nat) : FnD := { name := "_law_led", ps := ["_law_game", "_law_way", "_law_standing"], N := ["_law_game", "_law_way", "_law_standing", "_law_signs", "_law_side", "_law_row", "_law_place", "_law_sign"], gc := true, body :=
    (.cons (.asg (.tup (.cons (.name 4) (.cons (.name 5) .nil))) (.var 2)) (.cons (.asg (.name 3) (.bin .Mult true (.lst false (.cons (.lit (.str [])) .nil)) (.idx (.var 0) (.lit (.int 3))))) (.cons (.for_ (.tup (.cons (.name 6) (.cons (.name 7) .nil))) (.enum (.call c_law_led_beads (.cons (.var 0) (.cons (.var 1) (.cons (.var 5) .nil))))) (law_led_b1 c_law_led_place)) (.cons (.ret (.tup (.cons (.bin .Mod false (.bin .Add false (.var 4) (.idx (.var 1) (.lit (.int 2)))) (.lit (.int 2))) (.cons (.mth .join (.lit (.str [])) (.cons (.var 3) .nil)) .nil)))) .nil)))) }
def law_led_step_e1 (c_law_led_place : Nat) : E := (.call c_law_led_place (.cons (.var 0) (.cons (.var 1) (.cons (.bin .Mod false (.bin .Add false (.var 5) (.var 8)) (.idx (.var 0) (.lit (.int 3)))) .nil))))
def law_led_step_e2 (c_law_led_beads : Nat) : E := (.call c_law_led_beads (.cons (.var 0) (.cons (.var 1) (.cons (.var 9) .nil))))
def law_led_step (c_law_led_place : Nat) (c_law_led_beads : Nat) : FnD := { name := "_law_led_step", ps := ["_law_game", "_law_way", "_law_step"], N := ["_law_game", "_law_way", "_law_step", "_law_spots_here", "_law_texts", "_law_place", "_law_old", "_law_new", "_law_at", "_law_one"], gc := true, body :=
    (.cons (.asg (.tup (.cons (.name 5) (.cons (.name 6) (.cons (.name 7) .nil)))) (.var 2)) (.cons (.asg (.name 3) (.lc false [8] (.name 8) (.range1 (.blt .len false (.cons (.var 6) .nil))) .no (law_led_step_e1 c_law_led_place))) (.cons (.asg (.name 4) (.lc false [9] (.name 9) (.e (.tup (.cons (.var 6) (.cons (.var 7) .nil)))) .no (law_led_step_e2 c_law_led_beads))) (.cons (.ifs (.cmp .Eq (.idx (.var 1) (.lit (.int 0))) (.lit (.int 1))) (.cons (.ret (.tup (.cons (.idx (.var 3) (.neg (.lit (.int 1)))) (.cons (.rev false (.idx (.var 4) (.lit (.int 0)))) (.cons (.rev false (.idx (.var 4) (.lit (.int 1)))) .nil))))) .nil) .nil) (.cons (.ret (.tup (.cons (.idx (.var 3) (.lit (.int 0))) (.cons (.idx (.var 4) (.lit (.int 0))) (.cons (.idx (.var 4) (.lit (.int 1))) .nil))))) .nil))))) }
def law_any_way_b1 (c_law_take : Nat) : Ss := (.cons (.asg (.name 5) (.bin .Add false (.var 5) (.mth .pop (.var 4) (.cons (.call c_law_take (.cons (.var 0) (.cons (.blt .len false (.cons (.var 4) .nil)) .nil))) .nil)))) .nil)
def law_any_way (c_law_take : Nat) : FnD := { name := "_law_any_way", ps := ["_law_box_here", "_law_game"], N := ["_law_box_here", "_law_game", "_law_turn", "_law_shift", "_law_left", "_law_order"], gc := true, body :=
    (.cons (.par [4, 5] (.cons (.blt .list true (.cons (.idx (.var 1) (.lit (.int 2))) .nil)) (.cons (.lit (.str [])) .nil))) (.cons (.for_ (.name 2) (.range1 (.blt .len false (.cons (.idx (.var 1) (.lit (.int 2))) .nil))) (law_any_way_b1 c_law_take)) (.cons (.asg (.name 3) (.ife (.cmp .Eq (.idx (.var 1) (.lit (.int 1))) (.lit (.str [114, 105, 110, 103]))) (.call c_law_take (.cons (.var 0) (.cons (.idx (.var 1) (.lit (.int 3))) .nil))) (.lit (.int 0)))) (.cons (.ret (.tup (.cons (.call c_law_take (.cons (.var 0) (.cons (.lit (.int 2)) .nil))) (.cons (.var 3) (.cons (.call c_law_take (.cons (.var 0) (.cons (.lit (.int 2)) .nil))) (.cons (.var 5) .nil)))))) .nil)))) }
def law_way_right_b1 (c_turned_move : Nat) (c_law_same : Nat) (c_law_beads_at : Nat) (c_law_behind : Nat) (c_law_led : Nat) (c_law_led_step : Nat) : Ss := (.cons (.asg (.name 5) (.call c_turned_move (.cons (.var 0) (.cons (.var 1) (.cons (.var 4) .nil))))) (.cons (.ifs (.not (.call c_law_same (.cons (.var 5) (.cons (.call c_law_led_step (.cons (.var 0) (.cons (.var 1) (.cons (.var 4) .nil)))) .nil)))) (.cons (.ret (.lit (.bl false))) .nil) .nil) (.cons (.ifs (.cmp .NotEq (.call c_law_beads_at (.cons (.var 0) (.cons (.idx (.idx (.var 3) (.lit (.int 0))) (.lit (.int 1))) (.cons (.idx (.var 5) (.lit (.int 0))) (.cons (.blt .len false (.cons (.idx (.var 5) (.lit (.int 1))) .nil)) .nil))))) (.idx (.var 5) (.lit (.int 1)))) (.cons (.ret (.lit (.bl false))) .nil) .nil) (.cons (.asg (.name 6) (.call c_law_behind (.cons (.var 0) (.cons (.idx (.var 3) (.lit (.int 0))) (.cons (.var 5) .nil))))) (.cons (.ifs (.cmp .NotEq (.idx (.var 6) (.lit (.int 1))) (.idx (.call c_law_led (.cons (.var 0) (.cons (.var 1) (.cons (.call c_law_behind (.cons (.var 0) (.cons (.var 2) (.cons (.var 4) .nil)))) .nil)))) (.lit (.int 1)))) (.cons (.ret (.lit (.bl false))) .nil) .nil) .nil)))))
def law_way_right (c_turned : Nat) (c_turned_move : Nat) (c_law_same : Nat) (c_law_beads_at : Nat) (c_law_steps_of : Nat) (c_law_behind : Nat) (c_law_led : Nat) (c_law_led_step : Nat) (c_law_lists : Nat) : FnD := { name := "_law_way_right", ps := ["_law_game", "_law_way", "_law_standing"], N := ["_law_game", "_law_way", "_law_standing", "_law_found", "_law_step", "_law_told", "_law_after"], gc := true, body :=
    (.cons (.asg (.name 3) (.lst false (.cons (.call c_turned (.cons (.var 0) (.cons (.var 1) (.cons (.var 2) .nil)))) (.cons (.call c_turned (.cons (.call c_law_lists (.cons (.var 0) .nil)) (.cons (.blt .list false (.cons (.var 1) .nil)) (.cons (.blt .list false (.cons (.var 2) .nil)) .nil)))) .nil)))) (.cons (.ifs (.not (.call c_law_same (.cons (.var 3) (.cons (.bin .Mult false (.lst false (.cons (.call c_law_led (.cons (.var 0) (.cons (.var 1) (.cons (.var 2) .nil)))) .nil)) (.lit (.int 2))) .nil)))) (.cons (.ret (.lit (.bl false))) .nil) .nil) (.cons (.for_ (.name 4) (.e (.call c_law_steps_of (.cons (.var 0) (.cons (.var 2) .nil)))) (law_way_right_b1 c_turned_move c_law_same c_law_beads_at c_law_behind c_law_led c_law_led_step)) (.cons (.ret (.lit (.bl true))) .nil)))) }
def law_right_b1 (c_law_any_standing : Nat) (c_law_any_way : Nat) (c_law_way_right : Nat) : Ss := (.cons (.par [5, 6] (.cons (.call c_law_any_way (.cons (.var 0) (.cons (.var 2) .nil))) (.cons (.call c_law_any_standing (.cons (.var 0) (.cons (.var 2) .nil))) .nil))) (.cons (.asg (.name 4) (.blt .repr false (.cons (.lst false (.cons (.var 2) (.cons (.var 5) (.cons (.var 6) .nil)))) .nil))) (.cons (.ifs (.or (.not (.call c_law_way_right (.cons (.var 2) (.cons (.var 5) (.cons (.var 6) .nil))))) (.cmp .NotEq (.blt .repr false (.cons (.lst false (.cons (.var 2) (.cons (.var 5) (.cons (.var 6) .nil)))) .nil)) (.var 4))) (.cons (.ret (.lit (.bl false))) .nil) .nil) .nil)))
def law_right_b2 (c_law_any_game : Nat) (c_law_any_standing : Nat) (c_law_any_way : Nat) (c_law_way_right : Nat) : Ss := (.cons (.asg (.name 2) (.call c_law_any_game (.cons (.var 0) (.cons (.lit (.str [103])) (.cons (.lit (.int 7)) .nil))))) (.cons (.for_ (.name 3) (.range1 (.lit (.int 8))) (law_right_b1 c_law_any_standing c_law_any_way c_law_way_right)) .nil))
def law_right (c_law_any_game : Nat) (c_law_any_standing : Nat) (c_law_any_way : Nat) (c_law_way_right : Nat) : FnD := { name := "_law_right", ps := ["_law_box_here"], N := ["_law_box_here", "_law_turn", "_law_game", "_law_again", "_law_ahead", "_law_way", "_law_standing"], gc := true, body :=
    (.cons (.for_ (.name 1) (.range1 (.lit (.int 3))) (law_right_b2 c_law_any_game c_law_any_standing c_law_any_way c_law_way_right)) (.cons (.ret (.lit (.bl true))) .nil)) }
def law_e1 (c_law_box : Nat) (c_law_right : Nat) : E := (.call c_law_right (.cons (.call c_law_box (.cons (.var 1) (.cons (.var 2) .nil))) .nil))
def law (c_law_box : Nat) (c_law_folded : Nat) (c_law_right : Nat) : FnD := { name := "law", ps := ["_law_script"], N := ["_law_script", "_law_cells", "_law_k"], gc := false, body :=
    (.cons (.asg (.name 1) (.call c_law_folded (.cons (.var 0) (.cons (.lit (.int 3)) .nil)))) (.cons (.ret (.blt .all false (.cons (.lc false [2] (.name 2) (.range1 (.blt .len false (.cons (.var 1) .nil))) .no (law_e1 c_law_box c_law_right)) .nil))) .nil)) }
end L56

theorem cmp_b2i (b : Bool) (h : AH) : cmpop .Eq (.int (b2i b)) (.int 1) h = .ok (.bl b) h := by
  rw [cmp_eq_int]
  cases b <;> rfl
theorem cut_from {α : Type} (xs : List α) (n : Nat) : cutA xs (some (n : Int)) none = xs.drop n := by
  unfold cutA
  rw [sIx_nat]
  show (xs.drop (min n xs.length)).take (xs.length - min n xs.length) = _
  by_cases h : n ≤ xs.length
  · rw [Nat.min_eq_left h, List.take_of_length_le (by rw [List.length_drop]; omega)]
  · have e : min n xs.length = xs.length := Nat.min_eq_right (by omega)
    rw [e, List.drop_of_length_le (Nat.le_refl _), List.drop_of_length_le (by omega)]
    simp
theorem trT_len (a b t : List Nat) : (trT a b t).length = t.length := List.length_map _
theorem trT_mem {a b t : List Nat} (hl : a.length = b.length) (ht : ∀ x ∈ t, x ∈ a) : ∀ y ∈ trT a b t, y ∈ b := fun y hy => by
  obtain ⟨x, hx, rfl⟩ := List.mem_map.mp hy
  exact tr_mem hl (ht x hx)
theorem blt_dictzips {a b : List Nat} (m : Bool) (h : AH) (q : a.length = b.length ∧ a.Nodup) : bltop .dictzips m [.str a, .str b] h = .ok (.dcs (a.map fun c => [c]) (b.map fun c => .str [c])) h := by
  simp only [bltop, if_pos q]
theorem blt_dictzip {a b : List Nat} (m : Bool) (h : AH) (q : a.length = b.length ∧ a.Nodup) : bltop .dictzip m [.str a, .str b] h = .ok (.dcs (a.map fun c => [c]) (b.map fun c => .str [c])) h := by
  simp only [bltop, if_pos q]
theorem map_signs {a b t : List Nat} (f : AV → AV) (hf : ∀ c ∈ t, f (.str [c]) = .str [tr a b c]) : (lits t).map f = signs (trT a b t) := by
  unfold lits signs trT
  rw [List.map_map, List.map_map]
  exact List.map_congr_left hf
def trV (a b : List Nat) : AV → AV
  | .str [c] => .str [tr a b c]
  | v => v

section
variable {P : List FnD} {G : List AV} {l : Nat}
theorem beads_led_ok {i : Nat} (hd : P[i]? = some L56.beads_led) (g : AH) (gm wv : AV) (a b t : List Nat) (x0 x1 x2 : AV) (pl : Pl g) (hg2 : ∀ H, idxop gm (.int 2) H = .ok (.str a) H) (hw : ∀ H, seqOf H wv = some [x0, x1, x2, .str b]) (hl : a.length = b.length) (hn : a.Nodup) (ht : ∀ x ∈ t, x ∈ a) (hz : t.length ≤ 1000) :
    callN P G (l + 1) i [gm, wv, .str t] g = .ok (.str (trT a b t)) g := by
  have w3 : ∀ H, idxop wv (.int 3) H = .ok (.str b) H := fun H => idx_seq (k := 3) (hw H) rfl
  have em := lcRun_map (C := ⟨callN P G l, G⟩) (st := [some gm, some wv, some (.str t), some (.dcs (a.map fun c => [c]) (b.map fun c => .str [c])), none]) (own := [4]) (t := .name 4) (el := L56.beads_led_e1) (src := .one (.xs (lits t))) (items := lits t) (g := g) (trV a b) (by unfold lits; rw [List.length_map]; unfold bigL; omega) (fun _ => rfl) (fun j x hx => by
    obtain ⟨c, e1, rfl⟩ := lits_at hx
    have hc := lookS_tr hl (ht c (List.mem_of_getElem? e1))
    exact ⟨[some gm, some wv, some (.str t), some (.dcs (a.map fun c => [c]) (b.map fun c => .str [c])), some (.str [c])], by simp only [evSs, es_asg, es_par, es_aug, es_expr, es_ret, es_ifs, es_for, es_while, es_pass, es_brk, es_cont, ee_lit, ee_var, ee_glob, ee_bty, ee_bin, ee_neg, ee_cmp, ee_chain, ee_not, ee_and, ee_or, ee_ife, ee_tup, ee_lst, ee_idx, ee_slice, ee_rev, ee_call, ee_blt, ee_mth, ee_lc, ee_lc2, evA, evO, evC, evI, evG, evGs, R.bind_ok, seqOf_tup, seqOf_lst, bin_add, bin_sub, bin_pow7, bin_pow18, cmp_gt, cmp_lt, cmp_ge, cmp_le, blt_abs, getV, List.getElem?_cons_zero, List.getElem?_cons_succ, List.set_cons_zero, List.set_cons_succ, List.map_cons, List.map_nil, List.length_cons, List.length_nil, List.replicate, List.cons_append, List.nil_append, Nat.reduceAdd, Nat.reduceSub, Nat.zero_add, wipeA], by simp only [L56.beads_led_e1, evSs, es_asg, es_par, es_aug, es_expr, es_ret, es_ifs, es_for, es_while, es_pass, es_brk, es_cont, ee_lit, ee_var, ee_glob, ee_bty, ee_bin, ee_neg, ee_cmp, ee_chain, ee_not, ee_and, ee_or, ee_ife, ee_tup, ee_lst, ee_idx, ee_slice, ee_rev, ee_call, ee_blt, ee_mth, ee_lc, ee_lc2, evA, evO, evC, evI, evG, evGs, R.bind_ok, seqOf_tup, seqOf_lst, bin_add, bin_sub, bin_pow7, bin_pow18, cmp_gt, cmp_lt, cmp_ge, cmp_le, blt_abs, getV, List.getElem?_cons_zero, List.getElem?_cons_succ, List.set_cons_zero, List.set_cons_succ, List.map_cons, List.map_nil, List.length_cons, List.length_nil, List.replicate, List.cons_append, List.nil_append, Nat.reduceAdd, Nat.reduceSub, Nat.zero_add, idx_dcs g hc, trV]⟩)
  rw [map_signs (a := a) (b := b) _ (fun c _ => rfl)] at em
  have eb : evSs ⟨callN P G l, G⟩ L56.beads_led.body [some gm, some wv, some (.str t), none, none] g = .ok ([some gm, some wv, some (.str t), some (.dcs (a.map fun c => [c]) (b.map fun c => .str [c])), none], .rt (.str (trT a b t))) g := by
    simp only [L56.beads_led, evSs, es_asg, es_par, es_aug, es_expr, es_ret, es_ifs, es_for, es_while, es_pass, es_brk, es_cont, ee_lit, ee_var, ee_glob, ee_bty, ee_bin, ee_neg, ee_cmp, ee_chain, ee_not, ee_and, ee_or, ee_ife, ee_tup, ee_lst, ee_idx, ee_slice, ee_rev, ee_call, ee_blt, ee_mth, ee_lc, ee_lc2, evA, evO, evC, evI, evG, evGs, R.bind_ok, seqOf_tup, seqOf_lst, bin_add, bin_sub, bin_pow7, bin_pow18, cmp_gt, cmp_lt, cmp_ge, cmp_le, blt_abs, getV, List.getElem?_cons_zero, List.getElem?_cons_succ, List.set_cons_zero, List.set_cons_succ, List.map_cons, List.map_nil, List.length_cons, List.length_nil, List.replicate, List.cons_append, List.nil_append, Nat.reduceAdd, Nat.reduceSub, Nat.zero_add, hg2, w3, blt_dictzips _ _ ⟨hl, hn⟩, recvOk, if_true, viewOf, em, mk_f, mth_join g (t := trT a b t) (by rw [trT_len]; unfold bigL; omega)]
  rw [call_rt hd rfl eb]
  exact gc_same pl rfl
theorem law_led_beads_ok {i : Nat} (hd : P[i]? = some L56.law_led_beads) (g : AH) (gm wv : AV) (a b t : List Nat) (x0 x1 x2 : AV) (pl : Pl g) (hg2 : ∀ H, idxop gm (.int 2) H = .ok (.str a) H) (hw : ∀ H, seqOf H wv = some [x0, x1, x2, .str b]) (hl : a.length = b.length) (hn : a.Nodup) (ht : ∀ x ∈ t, x ∈ a) (hz : t.length ≤ 1000) :
    callN P G (l + 1) i [gm, wv, .str t] g = .ok (.str (trT a b t)) g := by
  have w3 : ∀ H, idxop wv (.int 3) H = .ok (.str b) H := fun H => idx_seq (k := 3) (hw H) rfl
  have em := lcRun_map (C := ⟨callN P G l, G⟩) (st := [some gm, some wv, some (.str t), some (.dcs (a.map fun c => [c]) (b.map fun c => .str [c])), none]) (own := [4]) (t := .name 4) (el := L56.law_led_beads_e1) (src := .one (.xs (lits t))) (items := lits t) (g := g) (trV a b) (by unfold lits; rw [List.length_map]; unfold bigL; omega) (fun _ => rfl) (fun j x hx => by
    obtain ⟨c, e1, rfl⟩ := lits_at hx
    have hc := lookS_tr hl (ht c (List.mem_of_getElem? e1))
    exact ⟨[some gm, some wv, some (.str t), some (.dcs (a.map fun c => [c]) (b.map fun c => .str [c])), some (.str [c])], by simp only [evSs, es_asg, es_par, es_aug, es_expr, es_ret, es_ifs, es_for, es_while, es_pass, es_brk, es_cont, ee_lit, ee_var, ee_glob, ee_bty, ee_bin, ee_neg, ee_cmp, ee_chain, ee_not, ee_and, ee_or, ee_ife, ee_tup, ee_lst, ee_idx, ee_slice, ee_rev, ee_call, ee_blt, ee_mth, ee_lc, ee_lc2, evA, evO, evC, evI, evG, evGs, R.bind_ok, seqOf_tup, seqOf_lst, bin_add, bin_sub, bin_pow7, bin_pow18, cmp_gt, cmp_lt, cmp_ge, cmp_le, blt_abs, getV, List.getElem?_cons_zero, List.getElem?_cons_succ, List.set_cons_zero, List.set_cons_succ, List.map_cons, List.map_nil, List.length_cons, List.length_nil, List.replicate, List.cons_append, List.nil_append, Nat.reduceAdd, Nat.reduceSub, Nat.zero_add, wipeA], by simp only [L56.law_led_beads_e1, evSs, es_asg, es_par, es_aug, es_expr, es_ret, es_ifs, es_for, es_while, es_pass, es_brk, es_cont, ee_lit, ee_var, ee_glob, ee_bty, ee_bin, ee_neg, ee_cmp, ee_chain, ee_not, ee_and, ee_or, ee_ife, ee_tup, ee_lst, ee_idx, ee_slice, ee_rev, ee_call, ee_blt, ee_mth, ee_lc, ee_lc2, evA, evO, evC, evI, evG, evGs, R.bind_ok, seqOf_tup, seqOf_lst, bin_add, bin_sub, bin_pow7, bin_pow18, cmp_gt, cmp_lt, cmp_ge, cmp_le, blt_abs, getV, List.getElem?_cons_zero, List.getElem?_cons_succ, List.set_cons_zero, List.set_cons_succ, List.map_cons, List.map_nil, List.length_cons, List.length_nil, List.replicate, List.cons_append, List.nil_append, Nat.reduceAdd, Nat.reduceSub, Nat.zero_add, idx_dcs g hc, trV]⟩)
  rw [map_signs (a := a) (b := b) _ (fun c _ => rfl)] at em
  have eb : evSs ⟨callN P G l, G⟩ L56.law_led_beads.body [some gm, some wv, some (.str t), none, none] g = .ok ([some gm, some wv, some (.str t), some (.dcs (a.map fun c => [c]) (b.map fun c => .str [c])), none], .rt (.str (trT a b t))) g := by
    simp only [L56.law_led_beads, evSs, es_asg, es_par, es_aug, es_expr, es_ret, es_ifs, es_for, es_while, es_pass, es_brk, es_cont, ee_lit, ee_var, ee_glob, ee_bty, ee_bin, ee_neg, ee_cmp, ee_chain, ee_not, ee_and, ee_or, ee_ife, ee_tup, ee_lst, ee_idx, ee_slice, ee_rev, ee_call, ee_blt, ee_mth, ee_lc, ee_lc2, evA, evO, evC, evI, evG, evGs, R.bind_ok, seqOf_tup, seqOf_lst, bin_add, bin_sub, bin_pow7, bin_pow18, cmp_gt, cmp_lt, cmp_ge, cmp_le, blt_abs, getV, List.getElem?_cons_zero, List.getElem?_cons_succ, List.set_cons_zero, List.set_cons_succ, List.map_cons, List.map_nil, List.length_cons, List.length_nil, List.replicate, List.cons_append, List.nil_append, Nat.reduceAdd, Nat.reduceSub, Nat.zero_add, hg2, w3, blt_dictzip _ _ ⟨hl, hn⟩, recvOk, if_true, viewOf, em, mk_f, mth_join g (t := trT a b t) (by rw [trT_len]; unfold bigL; omega)]
  rw [call_rt hd rfl eb]
  exact gc_same pl rfl
theorem turned_text_ok {i j : Nat} (hd : P[i]? = some (L56.turned_text j)) (hj : P[j]? = some L56.beads_led) (g : AH) (gm wv : AV) (a b t : List Nat) (back : Bool) (x1 x2 : AV) (pl : Pl g) (hg2 : ∀ H, idxop gm (.int 2) H = .ok (.str a) H) (hw : ∀ H, seqOf H wv = some [.int (b2i back), x1, x2, .str b]) (hl : a.length = b.length) (hn : a.Nodup) (ht : ∀ x ∈ t, x ∈ a) (hz : t.length ≤ 1000) :
    callN P G (l + 2) i [gm, wv, .str t] g = .ok (.str (trT a b (fw back t))) g := by
  have w0 : ∀ H, idxop wv (.int 0) H = .ok (.int (b2i back)) H := fun H => idx_seq (k := 0) (hw H) rfl
  have el := beads_led_ok (P := P) (G := G) (l := l) hj g gm wv a b (fw back t) _ _ _ pl hg2 hw hl hn (fun x hx => ht x (fw_mem.mp hx)) (by rw [fw_len]; exact hz)
  have eb : evSs ⟨callN P G (l + 1), G⟩ (L56.turned_text j).body [some gm, some wv, some (.str t)] g = .ok ([some gm, some wv, some (.str t)], .rt (.str (trT a b (fw back t)))) g := by
    cases back
    · have el' : callN P G (l + 1) j [gm, wv, .str t] g = .ok (.str (trT a b (fw false t))) g := el
      simp only [L56.turned_text, evSs, es_asg, es_par, es_aug, es_expr, es_ret, es_ifs, es_for, es_while, es_pass, es_brk, es_cont, ee_lit, ee_var, ee_glob, ee_bty, ee_bin, ee_neg, ee_cmp, ee_chain, ee_not, ee_and, ee_or, ee_ife, ee_tup, ee_lst, ee_idx, ee_slice, ee_rev, ee_call, ee_blt, ee_mth, ee_lc, ee_lc2, evA, evO, evC, evI, evG, evGs, R.bind_ok, seqOf_tup, seqOf_lst, bin_add, bin_sub, bin_pow7, bin_pow18, cmp_gt, cmp_lt, cmp_ge, cmp_le, blt_abs, getV, List.getElem?_cons_zero, List.getElem?_cons_succ, List.set_cons_zero, List.set_cons_succ, List.map_cons, List.map_nil, List.length_cons, List.length_nil, List.replicate, List.cons_append, List.nil_append, Nat.reduceAdd, Nat.reduceSub, Nat.zero_add, w0, cmp_b2i, el']
    · have el' : callN P G (l + 1) j [gm, wv, .str t.reverse] g = .ok (.str (trT a b (fw true t))) g := el
      simp only [L56.turned_text, evSs, es_asg, es_par, es_aug, es_expr, es_ret, es_ifs, es_for, es_while, es_pass, es_brk, es_cont, ee_lit, ee_var, ee_glob, ee_bty, ee_bin, ee_neg, ee_cmp, ee_chain, ee_not, ee_and, ee_or, ee_ife, ee_tup, ee_lst, ee_idx, ee_slice, ee_rev, ee_call, ee_blt, ee_mth, ee_lc, ee_lc2, evA, evO, evC, evI, evG, evGs, R.bind_ok, seqOf_tup, seqOf_lst, bin_add, bin_sub, bin_pow7, bin_pow18, cmp_gt, cmp_lt, cmp_ge, cmp_le, blt_abs, getV, List.getElem?_cons_zero, List.getElem?_cons_succ, List.set_cons_zero, List.set_cons_succ, List.map_cons, List.map_nil, List.length_cons, List.length_nil, List.replicate, List.cons_append, List.nil_append, Nat.reduceAdd, Nat.reduceSub, Nat.zero_add, w0, cmp_b2i, rev_strA, el']
  rw [call_rt hd rfl eb]
  exact gc_same pl rfl
theorem rot_mem {s x : Nat} {r : List Nat} (h : x ∈ rotT s r) : x ∈ r := by
  rcases List.mem_append.mp h with q | q
  · exact List.mem_of_mem_drop q
  · exact List.mem_of_mem_take q
theorem rot_len (s : Nat) (r : List Nat) : (rotT s r).length = r.length := by
  unfold rotT
  rw [List.length_append, List.length_drop, List.length_take]
  omega
theorem turned_row_ok {i j : Nat} (hd : P[i]? = some (L56.turned_row j)) (hj : P[j]? = some L56.beads_led) (g : AH) (gm wv : AV) (a b row : List Nat) (back : Bool) (s : Nat) (x2 : AV) (pl : Pl g) (hg2 : ∀ H, idxop gm (.int 2) H = .ok (.str a) H) (hw : ∀ H, seqOf H wv = some [.int (b2i back), .int s, x2, .str b]) (hl : a.length = b.length) (hn : a.Nodup) (ht : ∀ x ∈ row, x ∈ a) (hz : row.length ≤ 1000) :
    callN P G (l + 2) i [gm, wv, .str row] g = .ok (.str (tRow a b back s row)) g := by
  have el : callN P G (l + 1) j [gm, wv, .str ((fw back row).drop s ++ (fw back row).take s)] g = .ok (.str (tRow a b back s row)) g := beads_led_ok (P := P) (G := G) (l := l) hj g gm wv a b (rotT s (fw back row)) _ _ _ pl hg2 hw hl hn (fun x hx => ht x (fw_mem.mp (rot_mem hx))) (by rw [rot_len, fw_len]; exact hz)
  have ea : ∀ H, binop .Add false (.str ((fw back row).drop s)) (.str ((fw back row).take s)) H = .ok (.str ((fw back row).drop s ++ (fw back row).take s)) H := fun H => add_str _ _ (by
    rw [List.length_drop, List.length_take, fw_len]
    unfold bigL
    omega)
  have eb : ∃ st, evSs ⟨callN P G (l + 1), G⟩ (L56.turned_row j).body [some gm, some wv, some (.str row), none, none, none, none, none] g = .ok (st, .rt (.str (tRow a b back s row))) g := by
    cases back
    · have el' : callN P G (l + 1) j [gm, wv, .str (row.drop s ++ row.take s)] g = .ok (.str (tRow a b false s row)) g := el
      have ea' : ∀ H, binop .Add false (.str (row.drop s)) (.str (row.take s)) H = .ok (.str (row.drop s ++ row.take s)) H := ea
      simp only [L56.turned_row, evSs, es_asg, es_par, es_aug, es_expr, es_ret, es_ifs, es_for, es_while, es_pass, es_brk, es_cont, ee_lit, ee_var, ee_glob, ee_bty, ee_bin, ee_neg, ee_cmp, ee_chain, ee_not, ee_and, ee_or, ee_ife, ee_tup, ee_lst, ee_idx, ee_slice, ee_rev, ee_call, ee_blt, ee_mth, ee_lc, ee_lc2, evA, evO, evC, evI, evG, evGs, R.bind_ok, seqOf_tup, seqOf_lst, bin_add, bin_sub, bin_pow7, bin_pow18, cmp_gt, cmp_lt, cmp_ge, cmp_le, blt_abs, getV, List.getElem?_cons_zero, List.getElem?_cons_succ, List.set_cons_zero, List.set_cons_succ, List.map_cons, List.map_nil, List.length_cons, List.length_nil, List.replicate, List.cons_append, List.nil_append, Nat.reduceAdd, Nat.reduceSub, Nat.zero_add, hw, tgsLen, if_true, cmp_b2i, slop_str, cut_from, cut_take, ea', el']
      exact ⟨_, rfl⟩
    · have el' : callN P G (l + 1) j [gm, wv, .str (row.reverse.drop s ++ row.reverse.take s)] g = .ok (.str (tRow a b true s row)) g := el
      have ea' : ∀ H, binop .Add false (.str (row.reverse.drop s)) (.str (row.reverse.take s)) H = .ok (.str (row.reverse.drop s ++ row.reverse.take s)) H := ea
      simp only [L56.turned_row, evSs, es_asg, es_par, es_aug, es_expr, es_ret, es_ifs, es_for, es_while, es_pass, es_brk, es_cont, ee_lit, ee_var, ee_glob, ee_bty, ee_bin, ee_neg, ee_cmp, ee_chain, ee_not, ee_and, ee_or, ee_ife, ee_tup, ee_lst, ee_idx, ee_slice, ee_rev, ee_call, ee_blt, ee_mth, ee_lc, ee_lc2, evA, evO, evC, evI, evG, evGs, R.bind_ok, seqOf_tup, seqOf_lst, bin_add, bin_sub, bin_pow7, bin_pow18, cmp_gt, cmp_lt, cmp_ge, cmp_le, blt_abs, getV, List.getElem?_cons_zero, List.getElem?_cons_succ, List.set_cons_zero, List.set_cons_succ, List.map_cons, List.map_nil, List.length_cons, List.length_nil, List.replicate, List.cons_append, List.nil_append, Nat.reduceAdd, Nat.reduceSub, Nat.zero_add, hw, tgsLen, if_true, cmp_b2i, rev_strA, slop_str, cut_from, cut_take, ea', el']
      exact ⟨_, rfl⟩
  obtain ⟨st, eb⟩ := eb
  rw [call_rt hd rfl eb]
  exact gc_same pl rfl
def sw (swap : Bool) (side : Int) : Int := if swap then 1 - side else side
theorem turnedS_ok {i j k : Nat} (hd : P[i]? = some (L56.turned j)) (hj : P[j]? = some (L56.turned_row k)) (hk : P[k]? = some L56.beads_led) (g : AH) (gm wv sv : AV) (a b row : List Nat) (back swap : Bool) (s : Nat) (side : Int) (pl : Pl g) (hg2 : ∀ H, idxop gm (.int 2) H = .ok (.str a) H) (hw : ∀ H, seqOf H wv = some [.int (b2i back), .int s, .int (b2i swap), .str b]) (hs : ∀ H, seqOf H sv = some [.int side, .str row]) (hl : a.length = b.length) (hn : a.Nodup) (ht : ∀ x ∈ row, x ∈ a) (hz : row.length ≤ 1000) :
    callN P G (l + 3) i [gm, wv, sv] g = .ok (.tup [.int (sw swap side), .str (tRow a b back s row)]) g := by
  have w2 : ∀ H, idxop wv (.int 2) H = .ok (.int (b2i swap)) H := fun H => idx_seq (k := 2) (hw H) rfl
  have el := turned_row_ok (P := P) (G := G) (l := l) hj hk g gm wv a b row back s _ pl hg2 hw hl hn ht hz
  have eb : ∃ st, evSs ⟨callN P G (l + 2), G⟩ (L56.turned j).body [some gm, some wv, some sv, none, none] g = .ok (st, .rt (.tup [.int (sw swap side), .str (tRow a b back s row)])) g := by
    cases swap
    · simp only [L56.turned, evSs, es_asg, es_par, es_aug, es_expr, es_ret, es_ifs, es_for, es_while, es_pass, es_brk, es_cont, ee_lit, ee_var, ee_glob, ee_bty, ee_bin, ee_neg, ee_cmp, ee_chain, ee_not, ee_and, ee_or, ee_ife, ee_tup, ee_lst, ee_idx, ee_slice, ee_rev, ee_call, ee_blt, ee_mth, ee_lc, ee_lc2, evA, evO, evC, evI, evG, evGs, R.bind_ok, seqOf_tup, seqOf_lst, bin_add, bin_sub, bin_pow7, bin_pow18, cmp_gt, cmp_lt, cmp_ge, cmp_le, blt_abs, getV, List.getElem?_cons_zero, List.getElem?_cons_succ, List.set_cons_zero, List.set_cons_succ, List.map_cons, List.map_nil, List.length_cons, List.length_nil, List.replicate, List.cons_append, List.nil_append, Nat.reduceAdd, Nat.reduceSub, Nat.zero_add, hs, tgsLen, if_true, w2, cmp_b2i, el, sw, Bool.false_eq_true, if_false]
      exact ⟨_, rfl⟩
    · simp only [L56.turned, evSs, es_asg, es_par, es_aug, es_expr, es_ret, es_ifs, es_for, es_while, es_pass, es_brk, es_cont, ee_lit, ee_var, ee_glob, ee_bty, ee_bin, ee_neg, ee_cmp, ee_chain, ee_not, ee_and, ee_or, ee_ife, ee_tup, ee_lst, ee_idx, ee_slice, ee_rev, ee_call, ee_blt, ee_mth, ee_lc, ee_lc2, evA, evO, evC, evI, evG, evGs, R.bind_ok, seqOf_tup, seqOf_lst, bin_add, bin_sub, bin_pow7, bin_pow18, cmp_gt, cmp_lt, cmp_ge, cmp_le, blt_abs, getV, List.getElem?_cons_zero, List.getElem?_cons_succ, List.set_cons_zero, List.set_cons_succ, List.map_cons, List.map_nil, List.length_cons, List.length_nil, List.replicate, List.cons_append, List.nil_append, Nat.reduceAdd, Nat.reduceSub, Nat.zero_add, hs, tgsLen, if_true, w2, cmp_b2i, el, sw]
      exact ⟨_, rfl⟩
  obtain ⟨st, eb⟩ := eb
  rw [call_rt hd rfl eb]
  exact gc_same pl rfl
theorem turned_move_ok {i j k : Nat} (hd : P[i]? = some (L56.turned_move j)) (hj : P[j]? = some (L56.turned_text k)) (hk : P[k]? = some L56.beads_led) (g : AH) (gm wv : AV) (a b old new : List Nat) (back : Bool) (x2 : AV) (L s p : Nat) (pl : Pl g) (hg2 : ∀ H, idxop gm (.int 2) H = .ok (.str a) H) (hg3 : ∀ H, idxop gm (.int 3) H = .ok (.int L) H) (hw : ∀ H, seqOf H wv = some [.int (b2i back), .int s, x2, .str b]) (hl : a.length = b.length) (hn : a.Nodup) (h1 : 2 ≤ L) (ht : ∀ x ∈ old, x ∈ a) (ht2 : ∀ x ∈ new, x ∈ a) (hz : old.length ≤ 1000) (hz2 : new.length ≤ 1000) :
    callN P G (l + 3) i [gm, wv, .tup [.int p, .str old, .str new]] g = .ok (.tup [.int (plI L s back p old.length), .str (trT a b (fw back old)), .str (trT a b (fw back new))]) g := by
  have e1 := turned_text_ok (P := P) (G := G) (l := l) hj hk g gm wv a b old back _ _ pl hg2 hw hl hn ht hz
  have e2 := turned_text_ok (P := P) (G := G) (l := l) hj hk g gm wv a b new back _ _ pl hg2 hw hl hn ht2 hz2
  have em : ∀ x H, binop .Mod false (.int x) (.int L) H = .ok (.int (x % L)) H := fun x H => bin_mod _ _ (by omega)
  have eb : ∃ st, evSs ⟨callN P G (l + 2), G⟩ (L56.turned_move j).body [some gm, some wv, some (.tup [.int p, .str old, .str new]), none, none, none, none, none, none, none, none, none] g = .ok (st, .rt (.tup [.int (plI L s back p old.length), .str (trT a b (fw back old)), .str (trT a b (fw back new))])) g := by
    cases back
    · simp only [L56.turned_move, evSs, es_asg, es_par, es_aug, es_expr, es_ret, es_ifs, es_for, es_while, es_pass, es_brk, es_cont, ee_lit, ee_var, ee_glob, ee_bty, ee_bin, ee_neg, ee_cmp, ee_chain, ee_not, ee_and, ee_or, ee_ife, ee_tup, ee_lst, ee_idx, ee_slice, ee_rev, ee_call, ee_blt, ee_mth, ee_lc, ee_lc2, evA, evO, evC, evI, evG, evGs, R.bind_ok, seqOf_tup, seqOf_lst, bin_add, bin_sub, bin_pow7, bin_pow18, cmp_gt, cmp_lt, cmp_ge, cmp_le, blt_abs, getV, List.getElem?_cons_zero, List.getElem?_cons_succ, List.set_cons_zero, List.set_cons_succ, List.map_cons, List.map_nil, List.length_cons, List.length_nil, List.replicate, List.cons_append, List.nil_append, Nat.reduceAdd, Nat.reduceSub, Nat.zero_add, hw, tgsLen, if_true, hg3, cmp_b2i, em, e1, e2, plI, Bool.false_eq_true, if_false]
      exact ⟨_, rfl⟩
    · simp only [L56.turned_move, evSs, es_asg, es_par, es_aug, es_expr, es_ret, es_ifs, es_for, es_while, es_pass, es_brk, es_cont, ee_lit, ee_var, ee_glob, ee_bty, ee_bin, ee_neg, ee_cmp, ee_chain, ee_not, ee_and, ee_or, ee_ife, ee_tup, ee_lst, ee_idx, ee_slice, ee_rev, ee_call, ee_blt, ee_mth, ee_lc, ee_lc2, evA, evO, evC, evI, evG, evGs, R.bind_ok, seqOf_tup, seqOf_lst, bin_add, bin_sub, bin_pow7, bin_pow18, cmp_gt, cmp_lt, cmp_ge, cmp_le, blt_abs, getV, List.getElem?_cons_zero, List.getElem?_cons_succ, List.set_cons_zero, List.set_cons_succ, List.map_cons, List.map_nil, List.length_cons, List.length_nil, List.replicate, List.cons_append, List.nil_append, Nat.reduceAdd, Nat.reduceSub, Nat.zero_add, hw, tgsLen, if_true, hg3, cmp_b2i, blt_len_str, em, e1, e2, plI]
      exact ⟨_, rfl⟩
  obtain ⟨st, eb⟩ := eb
  rw [call_rt hd rfl eb]
  exact gc_same pl rfl
theorem led_place_ok {i : Nat} (hd : P[i]? = some L56.law_led_place) (g : AH) (gm wv : AV) (back : Bool) (x2 x3 : AV) (L s p : Nat) (pl : Pl g) (hg3 : ∀ H, idxop gm (.int 3) H = .ok (.int L) H) (hw : ∀ H, seqOf H wv = some [.int (b2i back), .int s, x2, x3]) (h1 : 2 ≤ L) :
    callN P G (l + 1) i [gm, wv, .int p] g = .ok (.int (lpI L s back p)) g := by
  have em : ∀ x H, binop .Mod false (.int x) (.int L) H = .ok (.int (x % L)) H := fun x H => bin_mod _ _ (by omega)
  have eb : ∃ st, evSs ⟨callN P G l, G⟩ L56.law_led_place.body [some gm, some wv, some (.int p), none, none, none, none] g = .ok (st, .rt (.int (lpI L s back p))) g := by
    cases back
    · simp only [L56.law_led_place, evSs, es_asg, es_par, es_aug, es_expr, es_ret, es_ifs, es_for, es_while, es_pass, es_brk, es_cont, ee_lit, ee_var, ee_glob, ee_bty, ee_bin, ee_neg, ee_cmp, ee_chain, ee_not, ee_and, ee_or, ee_ife, ee_tup, ee_lst, ee_idx, ee_slice, ee_rev, ee_call, ee_blt, ee_mth, ee_lc, ee_lc2, evA, evO, evC, evI, evG, evGs, R.bind_ok, seqOf_tup, seqOf_lst, bin_add, bin_sub, bin_pow7, bin_pow18, cmp_gt, cmp_lt, cmp_ge, cmp_le, blt_abs, getV, List.getElem?_cons_zero, List.getElem?_cons_succ, List.set_cons_zero, List.set_cons_succ, List.map_cons, List.map_nil, List.length_cons, List.length_nil, List.replicate, List.cons_append, List.nil_append, Nat.reduceAdd, Nat.reduceSub, Nat.zero_add, hw, tgsLen, if_true, hg3, cmp_b2i, em, lpI, Bool.false_eq_true, if_false]
      exact ⟨_, rfl⟩
    · simp only [L56.law_led_place, evSs, es_asg, es_par, es_aug, es_expr, es_ret, es_ifs, es_for, es_while, es_pass, es_brk, es_cont, ee_lit, ee_var, ee_glob, ee_bty, ee_bin, ee_neg, ee_cmp, ee_chain, ee_not, ee_and, ee_or, ee_ife, ee_tup, ee_lst, ee_idx, ee_slice, ee_rev, ee_call, ee_blt, ee_mth, ee_lc, ee_lc2, evA, evO, evC, evI, evG, evGs, R.bind_ok, seqOf_tup, seqOf_lst, bin_add, bin_sub, bin_pow7, bin_pow18, cmp_gt, cmp_lt, cmp_ge, cmp_le, blt_abs, getV, List.getElem?_cons_zero, List.getElem?_cons_succ, List.set_cons_zero, List.set_cons_succ, List.map_cons, List.map_nil, List.length_cons, List.length_nil, List.replicate, List.cons_append, List.nil_append, Nat.reduceAdd, Nat.reduceSub, Nat.zero_add, hw, tgsLen, if_true, hg3, cmp_b2i, em, lpI]
      exact ⟨_, rfl⟩
  obtain ⟨st, eb⟩ := eb
  rw [call_rt hd rfl eb]
  exact gc_same pl rfl

/-- the list of signs, those of the first k filled -/
def fillL (L s : Nat) (back : Bool) (r : List Nat) (k : Nat) : List AV := (List.range L).map fun j => if invI L s back j < k then AV.str [r.getD (invI L s back j) 0] else .str []
theorem fill_len (L s : Nat) (back : Bool) (r : List Nat) (k : Nat) : (fillL L s back r k).length = L := by unfold fillL; rw [List.length_map, List.length_range]
theorem fill_get {L s : Nat} {back : Bool} {r : List Nat} {k i : Nat} (h : i < L) : (fillL L s back r k)[i]? = some (if invI L s back i < k then AV.str [r.getD (invI L s back i) 0] else .str []) := by
  unfold fillL
  rw [List.getElem?_map, List.getElem?_range h]
  rfl
theorem fill_none {L s : Nat} {back : Bool} {r : List Nat} {k i : Nat} (h : ¬ i < L) : (fillL L s back r k)[i]? = none := List.getElem?_eq_none (by rw [fill_len]; omega)
theorem fill_zero (L s : Nat) (back : Bool) (r : List Nat) : fillL L s back r 0 = (List.replicate L [AV.str []]).flatten := by
  have e : ∀ n : Nat, (List.replicate n [AV.str []]).flatten = List.replicate n (AV.str []) := fun n => by
    induction n with
    | zero => rfl
    | succ n ih => rw [List.replicate_succ, List.flatten_cons, ih]; rfl
  rw [e]
  refine List.ext_getElem? fun i => ?_
  by_cases h : i < L
  · rw [fill_get h, if_neg (Nat.not_lt_zero _), List.getElem?_replicate, if_pos h]
  · rw [fill_none h, List.getElem?_replicate, if_neg h]
theorem fill_step {L s k c : Nat} {back : Bool} {r : List Nat} (h1 : 2 ≤ L) (h2 : L ≤ 7) (hs : s < L) (hr : r.length = L) (hc : r[k]? = some c) : (fillL L s back r k).set (lpI L s back k).toNat (.str [c]) = fillL L s back r (k + 1) := by
  have hk : k < L := by rw [← hr]; exact (List.getElem?_eq_some_iff.mp hc).1
  obtain ⟨p1, p2⟩ := lp_range (s := s) (back := back) h1 k
  refine List.ext_getElem? fun i => ?_
  by_cases a2 : i < L
  · have il := inv_lp (back := back) h1 h2 hs a2 hk
    by_cases e : (lpI L s back k).toNat = i
    · have e' : invI L s back i = k := il.mpr (by omega)
      rw [e, List.getElem?_set_self (by rw [fill_len]; exact a2), fill_get a2, e', if_pos (by omega), List.getD_eq_getElem?_getD, hc]
      rfl
    · have ne : ¬ invI L s back i = k := fun z => e (by have := il.mp z; omega)
      rw [List.getElem?_set_ne e, fill_get a2, fill_get a2]
      by_cases lt : invI L s back i < k
      · rw [if_pos lt, if_pos (by omega)]
      · rw [if_neg lt, if_neg (by omega)]
  · rw [fill_none a2, List.getElem?_eq_none (by rw [List.length_set, fill_len]; omega)]
theorem fill_last {L s : Nat} {back : Bool} {a b row : List Nat} (h1 : 2 ≤ L) (hs : s < L) (hr : row.length = L) : fillL L s back (trT a b row) L = signs (tRow a b back s row) := by
  rw [tRow_eq h1 hs hr]
  unfold fillL signs rmap
  rw [List.map_map]
  refine List.map_congr_left fun j hj => ?_
  have lt : invI L s back j < L := inv_lt h1 j
  rw [if_pos lt]
  show AV.str [(trT a b row).getD (invI L s back j) 0] = AV.str [tr a b (row.getD (invI L s back j) 0)]
  congr 2
  unfold trT
  rw [List.getD_eq_getElem?_getD, List.getD_eq_getElem?_getD, List.getElem?_map, List.getElem?_eq_getElem (by omega)]
  rfl
theorem led_ok {i j k : Nat} (hd : P[i]? = some (L56.law_led j k)) (hj : P[j]? = some L56.law_led_place) (hk : P[k]? = some L56.law_led_beads) (g : AH) (gm wv : AV) (a b row : List Nat) (back swap : Bool) (L s : Nat) (side : Nat) (pl : Pl g) (hg2 : ∀ H, idxop gm (.int 2) H = .ok (.str a) H) (hg3 : ∀ H, idxop gm (.int 3) H = .ok (.int L) H) (hw : ∀ H, seqOf H wv = some [.int (b2i back), .int s, .int (b2i swap), .str b]) (hl : a.length = b.length) (hn : a.Nodup) (h1 : 2 ≤ L) (h2 : L ≤ 7) (hs : s < L) (hsd : side < 2) (hr : row.length = L) (ht : ∀ x ∈ row, x ∈ a) :
    callN P G (l + 2) i [gm, wv, .tup [.int side, .str row]] g = .ok (.tup [.int (sw swap side), .str (tRow a b back s row)]) g := by
  have w2 : ∀ H, idxop wv (.int 2) H = .ok (.int (b2i swap)) H := fun H => idx_seq (k := 2) (hw H) rfl
  have p0 : ∀ xs : List AV, belows 0 xs = true → Pl (g ++ [.lst xs]) := fun xs hx => pl.snoc hx
  have bf : ∀ k, belows 0 (fillL L s back (trT a b row) k) = true := fun k => by
    unfold fillL
    generalize List.range L = l
    induction l with
    | nil => rfl
    | cons x r ih =>
      simp only [List.map_cons, belows, Bool.and_eq_true]
      refine ⟨?_, ih⟩
      split <;> rfl
  have eled := law_led_beads_ok (P := P) (G := G) (l := l) hk (g ++ [.lst (fillL L s back (trT a b row) 0)]) gm wv a b row _ _ _ (p0 _ (bf 0)) hg2 hw hl hn ht (by omega)
  obtain ⟨s2, g2, e2, x6, x7, rfl, rfl⟩ := forRun_inv (C := ⟨callN P G (l + 1), G⟩) (t := .tup (.cons (.name 6) (.cons (.name 7) .nil))) (body := L56.law_led_b1 j) (src := .enum (.xs (lits (trT a b row)))) (items := (lits (trT a b row)).mapIdx fun (i : Nat) y => AV.tup [.int i, y])
    (fun k st h => ∃ (x6 x7 : Option AV), st = [some gm, some wv, some (.tup [.int side, .str row]), some (.ref g.length), some (.int side), some (.str row), x6, x7] ∧ h = g ++ [.lst (fillL L s back (trT a b row) k)])
    (s := [some gm, some wv, some (.tup [.int side, .str row]), some (.ref g.length), some (.int side), some (.str row), none, none]) (h := g ++ [.lst (fillL L s back (trT a b row) 0)]) (by rw [enum_len, trT_len]; unfold bigL; omega) (fun j _ h _ => enum_at _ j h)
    ⟨none, none, rfl, rfl⟩ (by
      rintro k x st h kx ⟨x6, x7, rfl, rfl⟩
      obtain ⟨c, ec, rfl⟩ := enum_get kx
      have ep := led_place_ok (P := P) (G := G) (l := l) hj (g ++ [.lst (fillL L s back (trT a b row) k)]) gm wv back _ _ L s k (p0 _ (bf k)) hg3 hw h1
      obtain ⟨q1, q2⟩ := lp_range (s := s) (back := back) h1 k
      have ei : lpI L s back k = (((lpI L s back k).toNat : Nat) : Int) := by omega
      have lt : (lpI L s back k).toNat < (fillL L s back (trT a b row) k).length := by rw [fill_len]; omega
      refine ⟨[some gm, some wv, some (.tup [.int side, .str row]), some (.ref g.length), some (.int side), some (.str row), some (.int k), some (.str [c])], g ++ [.lst (fillL L s back (trT a b row) k)], by simp only [evSs, es_asg, es_par, es_aug, es_expr, es_ret, es_ifs, es_for, es_while, es_pass, es_brk, es_cont, ee_lit, ee_var, ee_glob, ee_bty, ee_bin, ee_neg, ee_cmp, ee_chain, ee_not, ee_and, ee_or, ee_ife, ee_tup, ee_lst, ee_idx, ee_slice, ee_rev, ee_call, ee_blt, ee_mth, ee_lc, ee_lc2, evA, evO, evC, evI, evG, evGs, R.bind_ok, seqOf_tup, seqOf_lst, bin_add, bin_sub, bin_pow7, bin_pow18, cmp_gt, cmp_lt, cmp_ge, cmp_le, blt_abs, getV, List.getElem?_cons_zero, List.getElem?_cons_succ, List.set_cons_zero, List.set_cons_succ, List.map_cons, List.map_nil, List.length_cons, List.length_nil, List.replicate, List.cons_append, List.nil_append, Nat.reduceAdd, Nat.reduceSub, Nat.zero_add, tgsLen, if_true], ?_⟩
      refine ⟨[some gm, some wv, some (.tup [.int side, .str row]), some (.ref g.length), some (.int side), some (.str row), some (.int k), some (.str [c])], g ++ [.lst (fillL L s back (trT a b row) (k + 1))], ?_, _, _, rfl, rfl⟩
      rw [ei] at ep
      simp only [L56.law_led_b1, evSs, es_asg, es_par, es_aug, es_expr, es_ret, es_ifs, es_for, es_while, es_pass, es_brk, es_cont, ee_lit, ee_var, ee_glob, ee_bty, ee_bin, ee_neg, ee_cmp, ee_chain, ee_not, ee_and, ee_or, ee_ife, ee_tup, ee_lst, ee_idx, ee_slice, ee_rev, ee_call, ee_blt, ee_mth, ee_lc, ee_lc2, evA, evO, evC, evI, evG, evGs, R.bind_ok, seqOf_tup, seqOf_lst, bin_add, bin_sub, bin_pow7, bin_pow18, cmp_gt, cmp_lt, cmp_ge, cmp_le, blt_abs, getV, List.getElem?_cons_zero, List.getElem?_cons_succ, List.set_cons_zero, List.set_cons_succ, List.map_cons, List.map_nil, List.length_cons, List.length_nil, List.replicate, List.cons_append, List.nil_append, Nat.reduceAdd, Nat.reduceSub, Nat.zero_add, ep, setAt_ref at_last lt, set_last, fill_step h1 h2 hs (by rw [trT_len, hr]) ec])
  rw [enum_len, trT_len, hr, fill_last h1 hs hr] at e2
  have em : ∀ H : AH, binop .Mult true (.lst [.str []]) (.int L) H = .ok (.ref H.length) (H ++ [.lst (fillL L s back (trT a b row) 0)]) := fun H => by
    have q : 0 ≤ (L : Int) ∧ (L : Int) ≤ (bigL : Nat) ∧ [AV.str []].length * (L : Int).toNat ≤ bigL := ⟨by omega, by unfold bigL; omega, by simp only [List.length_cons, List.length_nil]; unfold bigL; omega⟩
    simp only [binop]
    rw [if_pos q, fill_zero, Int.toNat_natCast]
    rfl
  have es : ∀ H, binop .Mod false (.int ((side : Int) + b2i swap)) (.int 2) H = .ok (.int (sw swap side)) H := fun H => by
    rw [bin_mod _ _ (by decide)]
    congr 2
    unfold sw b2i
    cases swap <;> simp <;> omega
  have lp : (tRow a b back s row).length ≤ bigL := by rw [tRow_len (by omega), hr]; unfold bigL; omega
  have eb : evSs ⟨callN P G (l + 1), G⟩ (L56.law_led j k).body [some gm, some wv, some (.tup [.int side, .str row]), none, none, none, none, none] g = .ok ([some gm, some wv, some (.tup [.int side, .str row]), some (.ref g.length), some (.int side), some (.str row), x6, x7], .rt (.tup [.int (sw swap side), .str (tRow a b back s row)])) (g ++ [.lst (signs (tRow a b back s row))]) := by
    simp only [L56.law_led, evSs, es_asg, es_par, es_aug, es_expr, es_ret, es_ifs, es_for, es_while, es_pass, es_brk, es_cont, ee_lit, ee_var, ee_glob, ee_bty, ee_bin, ee_neg, ee_cmp, ee_chain, ee_not, ee_and, ee_or, ee_ife, ee_tup, ee_lst, ee_idx, ee_slice, ee_rev, ee_call, ee_blt, ee_mth, ee_lc, ee_lc2, evA, evO, evC, evI, evG, evGs, R.bind_ok, seqOf_tup, seqOf_lst, bin_add, bin_sub, bin_pow7, bin_pow18, cmp_gt, cmp_lt, cmp_ge, cmp_le, blt_abs, getV, List.getElem?_cons_zero, List.getElem?_cons_succ, List.set_cons_zero, List.set_cons_succ, List.map_cons, List.map_nil, List.length_cons, List.length_nil, List.replicate, List.cons_append, List.nil_append, Nat.reduceAdd, Nat.reduceSub, Nat.zero_add, tgsLen, if_true, mk_f, hg3, em, eled, viewL, viewS, e2, w2, es, recvOk, textsA_ref at_last lp]
  rw [call_rt hd rfl eb]
  exact gc_drop pl rfl
end
end SP
end
section
set_option maxRecDepth 10000
set_option maxHeartbeats 1000000
/-! k56: any way, a way's rightness, the law. -/
namespace SP
theorem idx_last {xs : List AV} {x : AV} {n : Nat} (h : AH) (hl : xs.length = n + 1) (hx : xs[n]? = some x) : idxop (.lst xs) (.int (-1)) h = .ok x h := by
  have e : ixA xs.length (-1) = some n := by
    unfold ixA
    rw [if_neg (by decide), if_pos (by omega), hl]
    congr 1
    omega
  simp only [idxop, seqOf, e, Option.bind_some, hx]
theorem idx_first {xs : List AV} {x : AV} (h : AH) (hx : xs[0]? = some x) : idxop (.lst xs) (.int 0) h = .ok x h := idx_seq (k := 0) (seqOf_lst h xs) hx
theorem beads_nodup {s : List Nat} (h : s ∈ beadsL) : s.Nodup := by
  revert s
  decide
theorem put_mem {row new : List Nat} {p : Nat} {S : List Nat} (h1 : ∀ x ∈ row, x ∈ S) (h2 : ∀ x ∈ new, x ∈ S) : ∀ x ∈ putR row p new, x ∈ S := fun x hx => by
  unfold putR rmap at hx
  obtain ⟨i, hi, rfl⟩ := List.mem_map.mp hx
  have hi' := List.mem_range.mp hi
  split
  · rename_i lt
    rw [List.getD_eq_getElem?_getD, List.getElem?_eq_getElem lt]
    exact h2 _ (List.getElem_mem _)
  · rw [List.getD_eq_getElem?_getD, List.getElem?_eq_getElem hi']
    exact h1 _ (List.getElem_mem _)
structure Way where
  back : Bool
  shift : Nat
  swap : Bool
  order : List Nat
def Way.l (w : Way) : List AV := [.int (b2i w.back), .int w.shift, .int (b2i w.swap), .str w.order]
structure WayOk (K : Game) (w : Way) : Prop where
  len : K.beads.length = w.order.length
  mem : ∀ x ∈ w.order, x ∈ K.beads
  sh : w.shift < K.long
  line : K.shape ≠ ringT → w.shift = 0
theorem b2i_of {v : Int} (h0 : 0 ≤ v) (h1 : v < 2) : ∃ b : Bool, v = b2i b := by
  by_cases h : v = 1
  · exact ⟨true, h⟩
  · exact ⟨false, by show v = 0; omega⟩
theorem mth_pop {h : AH} {n j : Nat} {xs : List AV} {v : AV} (e : h[n]? = some (.lst xs)) (hj : xs[j]? = some v) : mthop .pop (.ref n) [.int j] h = .ok v (h.set n (.lst (xs.eraseIdx j))) := by
  have lt : j < xs.length := (List.getElem?_eq_some_iff.mp hj).1
  simp only [mthop, e, ix_nat lt, hj]
theorem signs_erase : ∀ (t : List Nat) (j : Nat), (signs t).eraseIdx j = signs (t.eraseIdx j)
  | [], _ => rfl
  | c :: t, 0 => rfl
  | c :: t, j + 1 => by
    have ih := signs_erase t j
    simp only [signs, List.map_cons, List.eraseIdx_cons_succ] at ih ⊢
    rw [ih]
theorem signs_get {t : List Nat} {j c : Nat} (h : t[j]? = some c) : (signs t)[j]? = some (.str [c]) := by
  unfold signs
  rw [List.getElem?_map, h]
  rfl
theorem recv_pop {h : AH} {n : Nat} (hn : n < h.length) : recvOk .pop (.ref n) h = true := decide_eq_true hn

section
variable {P : List FnD} {G : List AV} {l : Nat}
def AnyWay (c : CallSem) (i : Nat) : Prop := ∀ (h : AH) (r b : Nat) (g : AH) (K : Game) (nm : List Nat) (longest : Nat), Box h r b g → GameOk longest K → longest ≤ 100 → b + 100 ≤ 1000000000000 →
  ∃ (w : Way) (g' : AH), c i [.ref r, K.av nm] g = .ok (.tup w.l) g' ∧ WayOk K w ∧ Box h r (b + 100) g'
theorem any_way_ok {i jt : Nat} (hd : P[i]? = some (L56.law_any_way jt)) (ht : TakeOk (callN P G l) jt) : AnyWay (callN P G (l + 1)) i := by
  intro h r b g K nm longest B gk hl hb
  have hr := B.1
  have pl := B.2.1
  obtain ⟨bl1, bl2⟩ := beads_len gk.beads
  have l1 := gk.long1
  have l2 := gk.long2
  have i1 : ∀ H, idxop (K.av nm) (.int 1) H = .ok (.str K.shape) H := fun H => rfl
  have i2 : ∀ H, idxop (K.av nm) (.int 2) H = .ok (.str K.beads) H := fun H => rfl
  have i3 : ∀ H, idxop (K.av nm) (.int 3) H = .ok (.int K.long) H := fun H => rfl
  have Bp := B.push (c := .lst (signs K.beads)) (below_signs _)
  obtain ⟨s2, g2, e2, left, order, x2, rfl, B2, ll, lo, ml, mo⟩ := forRun_inv (C := ⟨callN P G l, G⟩) (t := .name 2) (body := L56.law_any_way_b1 jt) (src := .one (.xs (rangeA 0 K.beads.length))) (items := rangeA 0 K.beads.length)
    (fun i st g => ∃ (left order : List Nat) (x2 : Option AV), st = [some (.ref r), some (K.av nm), x2, none, some (.ref h.length), some (.str order)] ∧ Box (h ++ [.lst (signs left)]) r (b + i) g ∧ left.length + i = K.beads.length ∧ order.length = i ∧ (∀ x ∈ left, x ∈ K.beads) ∧ ∀ x ∈ order, x ∈ K.beads)
    (s := [some (.ref r), some (K.av nm), none, none, some (.ref h.length), some (.str [])]) (h := g ++ [.lst (signs K.beads)]) (by rw [range_len]; unfold bigL; omega) (fun _ _ _ _ => rfl)
    ⟨K.beads, [], none, rfl, Bp, by omega, rfl, fun x hx => hx, fun x hx => by simp at hx⟩ (by
      rintro i x st g ix ⟨left, order, x2, rfl, B, ll, lo, ml, mo⟩
      obtain ⟨rfl, lt⟩ := range_at ix
      have hl0 : 0 < left.length := by omega
      obtain ⟨v, ga, ea, v0, v1, Ba⟩ := ht _ r _ g left.length B (by omega) (by omega) (by omega)
      obtain ⟨k, rfl⟩ := Int.eq_ofNat_of_zero_le v0
      have hk : k < left.length := by omega
      have el := B.last hr
      have ela := Ba.last hr
      have hlen : g.length = h.length + 1 := by rw [B.len, List.length_append]; rfl
      have e1 : bltop .len false [.ref h.length] g = .ok (.int left.length) g := by
        rw [blt_len_seq (xs := signs left) false (by simp only [seqOf, el]), signs_len]
      have e3 := mth_pop ela (signs_get (List.getElem?_eq_getElem hk))
      rw [signs_erase] at e3
      have ea2 : ∀ H, binop .Add false (.str order) (.str [left[k]]) H = .ok (.str (order ++ [left[k]])) H := fun H => add_str _ _ (by show order.length + 1 ≤ 1000000; omega)
      refine ⟨[some (.ref r), some (K.av nm), some (.int i), none, some (.ref h.length), some (.str order)], g, by simp only [evSs, es_asg, es_par, es_aug, es_expr, es_ret, es_ifs, es_for, es_while, es_pass, es_brk, es_cont, ee_lit, ee_var, ee_glob, ee_bty, ee_bin, ee_neg, ee_cmp, ee_chain, ee_not, ee_and, ee_or, ee_ife, ee_tup, ee_lst, ee_idx, ee_slice, ee_rev, ee_call, ee_blt, ee_mth, ee_lc, ee_lc2, evA, evO, evC, evI, evG, evGs, R.bind_ok, seqOf_tup, seqOf_lst, bin_add, bin_sub, bin_pow7, bin_pow18, cmp_gt, cmp_lt, cmp_ge, cmp_le, blt_abs, getV, List.getElem?_cons_zero, List.getElem?_cons_succ, List.set_cons_zero, List.set_cons_succ, List.map_cons, List.map_nil, List.length_cons, List.length_nil, List.replicate, List.cons_append, List.nil_append, Nat.reduceAdd, Nat.reduceSub, Nat.zero_add], ?_⟩
      refine ⟨[some (.ref r), some (K.av nm), some (.int i), none, some (.ref h.length), some (.str (order ++ [left[k]]))], ga.set h.length (.lst (signs (left.eraseIdx k))), ?_, left.eraseIdx k, order ++ [left[k]], some (.int i), rfl, ?_, ?_, ?_, ?_, ?_⟩
      · simp only [L56.law_any_way_b1, evSs, es_asg, es_par, es_aug, es_expr, es_ret, es_ifs, es_for, es_while, es_pass, es_brk, es_cont, ee_lit, ee_var, ee_glob, ee_bty, ee_bin, ee_neg, ee_cmp, ee_chain, ee_not, ee_and, ee_or, ee_ife, ee_tup, ee_lst, ee_idx, ee_slice, ee_rev, ee_call, ee_blt, ee_mth, ee_lc, ee_lc2, evA, evO, evC, evI, evG, evGs, R.bind_ok, seqOf_tup, seqOf_lst, bin_add, bin_sub, bin_pow7, bin_pow18, cmp_gt, cmp_lt, cmp_ge, cmp_le, blt_abs, getV, List.getElem?_cons_zero, List.getElem?_cons_succ, List.set_cons_zero, List.set_cons_succ, List.map_cons, List.map_nil, List.length_cons, List.length_nil, List.replicate, List.cons_append, List.nil_append, Nat.reduceAdd, Nat.reduceSub, Nat.zero_add, recv_pop (h := g) (n := h.length) (by omega), if_true, e1, ea, e3, ea2]
      · exact (Ba.relast hr pl (below_signs _)).mono (by omega)
      · rw [List.length_eraseIdx_of_lt hk]; omega
      · rw [List.length_append, lo]; rfl
      · exact fun x hx => ml x (List.mem_of_mem_eraseIdx hx)
      · intro x hx
        rcases List.mem_append.mp hx with q | q
        · exact mo x q
        · rw [List.mem_singleton.mp q]; exact ml _ (List.getElem_mem _))
  rw [range_len, Int.toNat_natCast] at B2 ll lo
  obtain ⟨sh, g3, e3, sh1, sh2, B3⟩ : ∃ (sh : Nat) (g3 : AH), evE ⟨callN P G l, G⟩ [some (.ref r), some (K.av nm), x2, none, some (.ref h.length), some (.str order)] (.ife (.cmp .Eq (.idx (.var 1) (.lit (.int 1))) (.lit (.str [114, 105, 110, 103]))) (.call jt (.cons (.var 0) (.cons (.idx (.var 1) (.lit (.int 3))) .nil))) (.lit (.int 0))) g2 = .ok (.int sh) g3 ∧ sh < K.long ∧ (K.shape ≠ ringT → sh = 0) ∧ Box (h ++ [.lst (signs left)]) r (b + K.beads.length + 1) g3 := by
    have hc : ∀ H, cmpop .Eq (.str K.shape) (.str [114, 105, 110, 103]) H = .ok (.bl (decide (K.shape = ringT))) H := fun H => cmp_eq_str _ _ _
    by_cases q : K.shape = ringT
    · obtain ⟨v, ga, ea, v0, v1, Ba⟩ := ht _ r _ g2 K.long B2 (by omega) (by omega) (by omega)
      obtain ⟨k, rfl⟩ := Int.eq_ofNat_of_zero_le v0
      exact ⟨k, ga, by simp only [evSs, es_asg, es_par, es_aug, es_expr, es_ret, es_ifs, es_for, es_while, es_pass, es_brk, es_cont, ee_lit, ee_var, ee_glob, ee_bty, ee_bin, ee_neg, ee_cmp, ee_chain, ee_not, ee_and, ee_or, ee_ife, ee_tup, ee_lst, ee_idx, ee_slice, ee_rev, ee_call, ee_blt, ee_mth, ee_lc, ee_lc2, evA, evO, evC, evI, evG, evGs, R.bind_ok, seqOf_tup, seqOf_lst, bin_add, bin_sub, bin_pow7, bin_pow18, cmp_gt, cmp_lt, cmp_ge, cmp_le, blt_abs, getV, List.getElem?_cons_zero, List.getElem?_cons_succ, List.set_cons_zero, List.set_cons_succ, List.map_cons, List.map_nil, List.length_cons, List.length_nil, List.replicate, List.cons_append, List.nil_append, Nat.reduceAdd, Nat.reduceSub, Nat.zero_add, i1, hc, decide_eq_true q, i3, ea], by omega, fun z => absurd q z, Ba⟩
    · exact ⟨0, g2, by simp only [evSs, es_asg, es_par, es_aug, es_expr, es_ret, es_ifs, es_for, es_while, es_pass, es_brk, es_cont, ee_lit, ee_var, ee_glob, ee_bty, ee_bin, ee_neg, ee_cmp, ee_chain, ee_not, ee_and, ee_or, ee_ife, ee_tup, ee_lst, ee_idx, ee_slice, ee_rev, ee_call, ee_blt, ee_mth, ee_lc, ee_lc2, evA, evO, evC, evI, evG, evGs, R.bind_ok, seqOf_tup, seqOf_lst, bin_add, bin_sub, bin_pow7, bin_pow18, cmp_gt, cmp_lt, cmp_ge, cmp_le, blt_abs, getV, List.getElem?_cons_zero, List.getElem?_cons_succ, List.set_cons_zero, List.set_cons_succ, List.map_cons, List.map_nil, List.length_cons, List.length_nil, List.replicate, List.cons_append, List.nil_append, Nat.reduceAdd, Nat.reduceSub, Nat.zero_add, i1, hc, decide_eq_false q]; rfl, by omega, fun _ => rfl, B2.mono (by omega)⟩
  obtain ⟨v4, g4, e4, v40, v41, B4⟩ := ht _ r _ g3 2 B3 (by omega) (by omega) (by omega)
  obtain ⟨bk, rfl⟩ := b2i_of v40 v41
  obtain ⟨v5, g5, e5, v50, v51, B5⟩ := ht _ r _ g4 2 B4 (by omega) (by omega) (by omega)
  obtain ⟨sp, rfl⟩ := b2i_of v50 v51
  refine ⟨⟨bk, sh, sp, order⟩, g5.take h.length, ?_, ⟨lo.symm, mo, sh1, sh2⟩, (B5.drop hr pl).mono (by omega)⟩
  have eb : evSs ⟨callN P G l, G⟩ (L56.law_any_way jt).body [some (.ref r), some (K.av nm), none, none, none, none] g = .ok ([some (.ref r), some (K.av nm), x2, some (.int sh), some (.ref h.length), some (.str order)], .rt (.tup (Way.l ⟨bk, sh, sp, order⟩))) g5 := by
    have el : ∀ H : AH, bltop .list true [.str K.beads] H = .ok (.ref H.length) (H ++ [.lst (signs K.beads)]) := fun H => rfl
    have e3' := e3
    simp only [evSs, es_asg, es_par, es_aug, es_expr, es_ret, es_ifs, es_for, es_while, es_pass, es_brk, es_cont, ee_lit, ee_var, ee_glob, ee_bty, ee_bin, ee_neg, ee_cmp, ee_chain, ee_not, ee_and, ee_or, ee_ife, ee_tup, ee_lst, ee_idx, ee_slice, ee_rev, ee_call, ee_blt, ee_mth, ee_lc, ee_lc2, evA, evO, evC, evI, evG, evGs, R.bind_ok, seqOf_tup, seqOf_lst, bin_add, bin_sub, bin_pow7, bin_pow18, cmp_gt, cmp_lt, cmp_ge, cmp_le, blt_abs, getV, List.getElem?_cons_zero, List.getElem?_cons_succ, List.set_cons_zero, List.set_cons_succ, List.map_cons, List.map_nil, List.length_cons, List.length_nil, List.replicate, List.cons_append, List.nil_append, Nat.reduceAdd, Nat.reduceSub, Nat.zero_add] at e3'
    simp only [L56.law_any_way, evSs, es_asg, es_par, es_aug, es_expr, es_ret, es_ifs, es_for, es_while, es_pass, es_brk, es_cont, ee_lit, ee_var, ee_glob, ee_bty, ee_bin, ee_neg, ee_cmp, ee_chain, ee_not, ee_and, ee_or, ee_ife, ee_tup, ee_lst, ee_idx, ee_slice, ee_rev, ee_call, ee_blt, ee_mth, ee_lc, ee_lc2, evA, evO, evC, evI, evG, evGs, R.bind_ok, seqOf_tup, seqOf_lst, bin_add, bin_sub, bin_pow7, bin_pow18, cmp_gt, cmp_lt, cmp_ge, cmp_le, blt_abs, getV, List.getElem?_cons_zero, List.getElem?_cons_succ, List.set_cons_zero, List.set_cons_succ, List.map_cons, List.map_nil, List.length_cons, List.length_nil, List.replicate, List.cons_append, List.nil_append, Nat.reduceAdd, Nat.reduceSub, Nat.zero_add, i2, el, setAll, B.len, blt_len_str, range_ok (n := K.beads.length) (by omega) (by omega), if_true, e2, e3', e4, e5, Way.l]
  rw [call_rt hd rfl eb, B.len]
  exact B5.ret1 hr pl rfl

def ledF (L s : Nat) (back : Bool) (p : Nat) : AV → AV
  | .int k => .int (lpI L s back ((p + k.toNat) % L))
  | v => v
def trF (a b : List Nat) : AV → AV
  | .str t => .str (trT a b t)
  | v => v
theorem trT_rev (a b t : List Nat) : (trT a b t).reverse = trT a b t.reverse := (List.map_reverse).symm
theorem led_step_ok {i j k : Nat} (hd : P[i]? = some (L56.law_led_step j k)) (hj : P[j]? = some L56.law_led_place) (hk : P[k]? = some L56.law_led_beads) (g : AH) (gm wv : AV) (a b old new : List Nat) (back : Bool) (x2 : AV) (L s p : Nat) (pl : Pl g) (hg2 : ∀ H, idxop gm (.int 2) H = .ok (.str a) H) (hg3 : ∀ H, idxop gm (.int 3) H = .ok (.int L) H) (hw : ∀ H, seqOf H wv = some [.int (b2i back), .int s, x2, .str b]) (hl : a.length = b.length) (hn : a.Nodup) (h1 : 2 ≤ L) (h2 : L ≤ 7) (hs : s < L) (hp : p < L) (ho : 1 ≤ old.length) (ho2 : old.length ≤ L) (ht : ∀ x ∈ old, x ∈ a) (ht2 : ∀ x ∈ new, x ∈ a) (hz2 : new.length ≤ 1000) :
    callN P G (l + 2) i [gm, wv, .tup [.int p, .str old, .str new]] g = .ok (.tup [.int (plI L s back p old.length), .str (trT a b (fw back old)), .str (trT a b (fw back new))]) g := by
  have w0 : ∀ H, idxop wv (.int 0) H = .ok (.int (b2i back)) H := fun H => idx_seq (k := 0) (hw H) rfl
  have em1 := lcRun_map (C := ⟨callN P G (l + 1), G⟩) (st := [some gm, some wv, some (.tup [.int p, .str old, .str new]), none, none, some (.int p), some (.str old), some (.str new), none, none]) (own := [8]) (t := .name 8) (el := L56.law_led_step_e1 j) (src := .one (.xs (rangeA 0 old.length))) (items := natsA (List.range old.length)) (g := g) (ledF L s back p)
    (by unfold natsA; rw [List.length_map, List.length_range]; unfold bigL; omega) (fun i => by rw [range_nats]; rfl) (fun m x hx => by
      obtain ⟨q, _, rfl⟩ := nats_get hx
      have ep := led_place_ok (P := P) (G := G) (l := l) hj g gm wv back _ _ L s ((p + q) % L) pl hg3 hw h1
      have em : ∀ H, binop .Mod false (.int ((p : Int) + (q : Int))) (.int L) H = .ok (.int (((p + q) % L : Nat) : Int)) H := fun H => by rw [bin_mod _ _ (by omega), modCast]
      exact ⟨[some gm, some wv, some (.tup [.int p, .str old, .str new]), none, none, some (.int p), some (.str old), some (.str new), some (.int q), none], by simp only [evSs, es_asg, es_par, es_aug, es_expr, es_ret, es_ifs, es_for, es_while, es_pass, es_brk, es_cont, ee_lit, ee_var, ee_glob, ee_bty, ee_bin, ee_neg, ee_cmp, ee_chain, ee_not, ee_and, ee_or, ee_ife, ee_tup, ee_lst, ee_idx, ee_slice, ee_rev, ee_call, ee_blt, ee_mth, ee_lc, ee_lc2, evA, evO, evC, evI, evG, evGs, R.bind_ok, seqOf_tup, seqOf_lst, bin_add, bin_sub, bin_pow7, bin_pow18, cmp_gt, cmp_lt, cmp_ge, cmp_le, blt_abs, getV, List.getElem?_cons_zero, List.getElem?_cons_succ, List.set_cons_zero, List.set_cons_succ, List.map_cons, List.map_nil, List.length_cons, List.length_nil, List.replicate, List.cons_append, List.nil_append, Nat.reduceAdd, Nat.reduceSub, Nat.zero_add, wipeA], by simp only [L56.law_led_step_e1, evSs, es_asg, es_par, es_aug, es_expr, es_ret, es_ifs, es_for, es_while, es_pass, es_brk, es_cont, ee_lit, ee_var, ee_glob, ee_bty, ee_bin, ee_neg, ee_cmp, ee_chain, ee_not, ee_and, ee_or, ee_ife, ee_tup, ee_lst, ee_idx, ee_slice, ee_rev, ee_call, ee_blt, ee_mth, ee_lc, ee_lc2, evA, evO, evC, evI, evG, evGs, R.bind_ok, seqOf_tup, seqOf_lst, bin_add, bin_sub, bin_pow7, bin_pow18, cmp_gt, cmp_lt, cmp_ge, cmp_le, blt_abs, getV, List.getElem?_cons_zero, List.getElem?_cons_succ, List.set_cons_zero, List.set_cons_succ, List.map_cons, List.map_nil, List.length_cons, List.length_nil, List.replicate, List.cons_append, List.nil_append, Nat.reduceAdd, Nat.reduceSub, Nat.zero_add, hg3, em, ep, ledF, Int.toNat_natCast]⟩)
  generalize hS : (natsA (List.range old.length)).map (ledF L s back p) = S at em1
  have lS : S.length = (old.length - 1) + 1 := by rw [← hS]; unfold natsA; rw [List.length_map, List.length_map, List.length_range]; omega
  have gS : ∀ q, q < old.length → S[q]? = some (.int (lpI L s back ((p + q) % L))) := fun q hq => by
    rw [← hS]
    unfold natsA
    rw [List.getElem?_map, List.getElem?_map, List.getElem?_range hq]
    rfl
  have em2 := lcRun_map (C := ⟨callN P G (l + 1), G⟩) (st := [some gm, some wv, some (.tup [.int p, .str old, .str new]), some (.lst S), none, some (.int p), some (.str old), some (.str new), none, none]) (own := [9]) (t := .name 9) (el := L56.law_led_step_e2 k) (src := .one (.xs [.str old, .str new])) (items := [.str old, .str new]) (g := g) (trF a b)
    (by show 2 ≤ 1000000; decide) (fun i => rfl) (fun m x hx => by
      have hm : x = .str old ∨ x = .str new := by
        have := List.mem_of_getElem? hx
        simpa using this
      have e1 := law_led_beads_ok (P := P) (G := G) (l := l) hk g gm wv a b old _ _ _ pl hg2 hw hl hn ht (by omega)
      have e2 := law_led_beads_ok (P := P) (G := G) (l := l) hk g gm wv a b new _ _ _ pl hg2 hw hl hn ht2 hz2
      refine ⟨[some gm, some wv, some (.tup [.int p, .str old, .str new]), some (.lst S), none, some (.int p), some (.str old), some (.str new), none, some x], by simp only [evSs, es_asg, es_par, es_aug, es_expr, es_ret, es_ifs, es_for, es_while, es_pass, es_brk, es_cont, ee_lit, ee_var, ee_glob, ee_bty, ee_bin, ee_neg, ee_cmp, ee_chain, ee_not, ee_and, ee_or, ee_ife, ee_tup, ee_lst, ee_idx, ee_slice, ee_rev, ee_call, ee_blt, ee_mth, ee_lc, ee_lc2, evA, evO, evC, evI, evG, evGs, R.bind_ok, seqOf_tup, seqOf_lst, bin_add, bin_sub, bin_pow7, bin_pow18, cmp_gt, cmp_lt, cmp_ge, cmp_le, blt_abs, getV, List.getElem?_cons_zero, List.getElem?_cons_succ, List.set_cons_zero, List.set_cons_succ, List.map_cons, List.map_nil, List.length_cons, List.length_nil, List.replicate, List.cons_append, List.nil_append, Nat.reduceAdd, Nat.reduceSub, Nat.zero_add, wipeA], ?_⟩
      rcases hm with rfl | rfl
      · simp only [L56.law_led_step_e2, evSs, es_asg, es_par, es_aug, es_expr, es_ret, es_ifs, es_for, es_while, es_pass, es_brk, es_cont, ee_lit, ee_var, ee_glob, ee_bty, ee_bin, ee_neg, ee_cmp, ee_chain, ee_not, ee_and, ee_or, ee_ife, ee_tup, ee_lst, ee_idx, ee_slice, ee_rev, ee_call, ee_blt, ee_mth, ee_lc, ee_lc2, evA, evO, evC, evI, evG, evGs, R.bind_ok, seqOf_tup, seqOf_lst, bin_add, bin_sub, bin_pow7, bin_pow18, cmp_gt, cmp_lt, cmp_ge, cmp_le, blt_abs, getV, List.getElem?_cons_zero, List.getElem?_cons_succ, List.set_cons_zero, List.set_cons_succ, List.map_cons, List.map_nil, List.length_cons, List.length_nil, List.replicate, List.cons_append, List.nil_append, Nat.reduceAdd, Nat.reduceSub, Nat.zero_add, e1, trF]
      · simp only [L56.law_led_step_e2, evSs, es_asg, es_par, es_aug, es_expr, es_ret, es_ifs, es_for, es_while, es_pass, es_brk, es_cont, ee_lit, ee_var, ee_glob, ee_bty, ee_bin, ee_neg, ee_cmp, ee_chain, ee_not, ee_and, ee_or, ee_ife, ee_tup, ee_lst, ee_idx, ee_slice, ee_rev, ee_call, ee_blt, ee_mth, ee_lc, ee_lc2, evA, evO, evC, evI, evG, evGs, R.bind_ok, seqOf_tup, seqOf_lst, bin_add, bin_sub, bin_pow7, bin_pow18, cmp_gt, cmp_lt, cmp_ge, cmp_le, blt_abs, getV, List.getElem?_cons_zero, List.getElem?_cons_succ, List.set_cons_zero, List.set_cons_succ, List.map_cons, List.map_nil, List.length_cons, List.length_nil, List.replicate, List.cons_append, List.nil_append, Nat.reduceAdd, Nat.reduceSub, Nat.zero_add, e2, trF])
  have em2' : lcRun ⟨callN P G (l + 1), G⟩ [some gm, some wv, some (.tup [.int p, .str old, .str new]), some (.lst S), none, some (.int p), some (.str old), some (.str new), none, none] [9] (.name 9) .no (L56.law_led_step_e2 k) (.one (.xs [.str old, .str new])) g = .ok [.str (trT a b old), .str (trT a b new)] g := em2
  have t0 : ∀ H, idxop (.lst [.str (trT a b old), .str (trT a b new)]) (.int 0) H = .ok (.str (trT a b old)) H := fun H => rfl
  have t1 : ∀ H, idxop (.lst [.str (trT a b old), .str (trT a b new)]) (.int 1) H = .ok (.str (trT a b new)) H := fun H => rfl
  obtain ⟨lf1, lf2⟩ := lp_first (back := back) h1 h2 hs hp ho ho2
  have eb : ∃ st, evSs ⟨callN P G (l + 1), G⟩ (L56.law_led_step j k).body [some gm, some wv, some (.tup [.int p, .str old, .str new]), none, none, none, none, none, none, none] g = .ok (st, .rt (.tup [.int (plI L s back p old.length), .str (trT a b (fw back old)), .str (trT a b (fw back new))])) g := by
    cases back
    · have ef : ∀ H, idxop (.lst S) (.int 0) H = .ok (.int (plI L s false p old.length)) H := fun H => by rw [idx_first H (gS 0 (by omega)), lf2 rfl]
      simp only [L56.law_led_step, evSs, es_asg, es_par, es_aug, es_expr, es_ret, es_ifs, es_for, es_while, es_pass, es_brk, es_cont, ee_lit, ee_var, ee_glob, ee_bty, ee_bin, ee_neg, ee_cmp, ee_chain, ee_not, ee_and, ee_or, ee_ife, ee_tup, ee_lst, ee_idx, ee_slice, ee_rev, ee_call, ee_blt, ee_mth, ee_lc, ee_lc2, evA, evO, evC, evI, evG, evGs, R.bind_ok, seqOf_tup, seqOf_lst, bin_add, bin_sub, bin_pow7, bin_pow18, cmp_gt, cmp_lt, cmp_ge, cmp_le, blt_abs, getV, List.getElem?_cons_zero, List.getElem?_cons_succ, List.set_cons_zero, List.set_cons_succ, List.map_cons, List.map_nil, List.length_cons, List.length_nil, List.replicate, List.cons_append, List.nil_append, Nat.reduceAdd, Nat.reduceSub, Nat.zero_add, tgsLen, if_true, blt_len_str, range_ok (n := old.length) (by omega) (by omega), em1, mk_f, viewOf, em2', w0, cmp_b2i, ef, t0, t1, fw, Bool.false_eq_true, if_false]
      exact ⟨_, rfl⟩
    · have ef : ∀ H, idxop (.lst S) (.int (-1)) H = .ok (.int (plI L s true p old.length)) H := fun H => by rw [idx_last H lS (gS _ (by omega)), lf1 rfl]
      simp only [L56.law_led_step, evSs, es_asg, es_par, es_aug, es_expr, es_ret, es_ifs, es_for, es_while, es_pass, es_brk, es_cont, ee_lit, ee_var, ee_glob, ee_bty, ee_bin, ee_neg, ee_cmp, ee_chain, ee_not, ee_and, ee_or, ee_ife, ee_tup, ee_lst, ee_idx, ee_slice, ee_rev, ee_call, ee_blt, ee_mth, ee_lc, ee_lc2, evA, evO, evC, evI, evG, evGs, R.bind_ok, seqOf_tup, seqOf_lst, bin_add, bin_sub, bin_pow7, bin_pow18, cmp_gt, cmp_lt, cmp_ge, cmp_le, blt_abs, getV, List.getElem?_cons_zero, List.getElem?_cons_succ, List.set_cons_zero, List.set_cons_succ, List.map_cons, List.map_nil, List.length_cons, List.length_nil, List.replicate, List.cons_append, List.nil_append, Nat.reduceAdd, Nat.reduceSub, Nat.zero_add, tgsLen, if_true, blt_len_str, range_ok (n := old.length) (by omega) (by omega), em1, mk_f, viewOf, em2', w0, cmp_b2i, ef, t0, t1, rev_strA, trT_rev, fw]
      exact ⟨_, rfl⟩
  obtain ⟨st, eb⟩ := eb
  rw [call_rt hd rfl eb]
  exact gc_same pl rfl
end
end SP
end
section
set_option maxRecDepth 10000
set_option maxHeartbeats 1000000
/-! k56: a way's rightness, the law. -/
namespace SP
theorem deep_pair (x : Int) (t : List Nat) : deepA (.tup [.int x, .str t]) = some 1 := rfl
theorem small_pair (x : Int) (t : List Nat) : smallA (.tup [.int x, .str t]) = true := rfl
theorem game_rules {K : Game} (nm : List Nat) {longest : Nat} (gk : GameOk longest K) {side : Nat} (hs : side < 2) : ∃ rs : List (List Nat × List Nat), (∀ H, idxop (.tup [.tup (sortA (K.r1.map prA)), .tup (sortA (K.r2.map prA))]) (.int side) H = .ok (.tup (rs.map prA)) H) ∧ rs.length ≤ 4 ∧ ∀ p ∈ rs, RuleOk K.beads K.long p := by
  match side, hs with
  | 0, _ =>
    obtain ⟨rs, e, pm⟩ := sort_prs K.r1
    exact ⟨rs, fun H => by rw [← e]; rfl, by rw [pm.length_eq]; exact gk.r1.1, fun p hp => gk.r1.2.2 p (pm.mem_iff.mp hp)⟩
  | 1, _ =>
    obtain ⟨rs, e, pm⟩ := sort_prs K.r2
    exact ⟨rs, fun H => by rw [← e]; rfl, by rw [pm.length_eq]; exact gk.r2.1, fun p hp => gk.r2.2.2 p (pm.mem_iff.mp hp)⟩
section
variable {P : List FnD} {G : List AV} {l i jt jr jb jm jx jsm jba jso jsp jbe jl jlp jlb jls jli : Nat}
theorem way_right_ok (hd : P[i]? = some (L56.law_way_right jt jm jsm jba jso jbe jl jls jli)) (hT : P[jt]? = some (L56.turned jr)) (hTr : P[jr]? = some (L56.turned_row jb)) (hB : P[jb]? = some L56.beads_led) (hM : P[jm]? = some (L56.turned_move jx)) (hX : P[jx]? = some (L56.turned_text jb)) (hS : P[jsm]? = some (Lib.law_same jsm))
    (hBa : P[jba]? = some Lib.law_beads_at) (hSo : P[jso]? = some (Lib.law_steps_of jsp)) (hSp : P[jsp]? = some (Lib.law_spots jba)) (hBe : P[jbe]? = some Lib.law_behind) (hL : P[jl]? = some (L56.law_led jlp jlb)) (hLp : P[jlp]? = some L56.law_led_place) (hLb : P[jlb]? = some L56.law_led_beads) (hLs : P[jls]? = some (L56.law_led_step jlp jlb)) (hLi : P[jli]? = some (Lib.law_lists jli))
    (g : AH) (K : Game) (nm : List Nat) (w : Way) (side : Nat) (row : List Nat) (pl : Pl g) (gk : GameOk 7 K) (wk : WayOk K w) (hn : plainT nm = true) (hn2 : nm.length ≤ 1000) (hsd : side < 2) (hrow : row.length = K.long) (hrm : ∀ x ∈ row, x ∈ K.beads) :
    callN P G (l + 11) i [K.av nm, .tup w.l, .tup [.int side, .str row]] g = .ok (.bl true) g := by
  have l1 := gk.long1
  have l2 := gk.long2
  obtain ⟨bl1, bl2⟩ := beads_len gk.beads
  have nd := beads_nodup gk.beads
  have wl := wk.len
  have ws := wk.sh
  have i1 : ∀ H, idxop (K.av nm) (.int 1) H = .ok (.str K.shape) H := fun H => rfl
  have i2 : ∀ H, idxop (K.av nm) (.int 2) H = .ok (.str K.beads) H := fun H => rfl
  have i3 : ∀ H, idxop (K.av nm) (.int 3) H = .ok (.int K.long) H := fun H => rfl
  have i4 : ∀ H, idxop (K.av nm) (.int 4) H = .ok (.tup [.tup (sortA (K.r1.map prA)), .tup (sortA (K.r2.map prA))]) H := fun H => rfl
  have j2 : ∀ H, idxop (toL (K.av nm)) (.int 2) H = .ok (.str K.beads) H := fun H => rfl
  have hw : ∀ H, seqOf H (.tup w.l) = some [.int (b2i w.back), .int w.shift, .int (b2i w.swap), .str w.order] := fun H => rfl
  have hwl : ∀ H, seqOf H (.lst w.l) = some [.int (b2i w.back), .int w.shift, .int (b2i w.swap), .str w.order] := fun H => rfl
  have hs1 : ∀ H, seqOf H (.tup [.int side, .str row]) = some [.int side, .str row] := fun H => rfl
  have hs2 : ∀ H, seqOf H (.lst [.int side, .str row]) = some [.int side, .str row] := fun H => rfl
  obtain ⟨_, _, m, o3, o4⟩ := game_av gk (by decide) (nm := nm) hn hn2
  generalize hR : tRow K.beads w.order w.back w.shift row = Rw
  have Rl : Rw.length = K.long := by rw [← hR, tRow_len (by omega), hrow]
  have Rm : ∀ x ∈ Rw, x ∈ K.beads := fun x hx => by
    rw [← hR] at hx
    unfold tRow at hx
    exact wk.mem x (trT_mem wl (fun y hy => hrm y (fw_mem.mp (rot_mem hy))) x hx)
  have e1 : callN P G (l + 10) jt [K.av nm, .tup w.l, .tup [.int side, .str row]] g = .ok (.tup [.int (sw w.swap side), .str Rw]) g := by
    have := turnedS_ok (P := P) (G := G) (l := l + 7) hT hTr hB g (K.av nm) (.tup w.l) (.tup [.int side, .str row]) K.beads w.order row w.back w.swap w.shift side pl i2 hw hs1 wl nd hrm (by omega)
    rw [hR] at this
    exact this
  have e2 : callN P G (l + 10) jli [K.av nm] g = .ok (toL (K.av nm)) g := lists_ok (G := G) hLi 5 (l + 5) (K.av nm) m g pl o3 (by omega)
  have e3 : callN P G (l + 10) jt [toL (K.av nm), .lst w.l, .lst [.int side, .str row]] g = .ok (.tup [.int (sw w.swap side), .str Rw]) g := by
    have := turnedS_ok (P := P) (G := G) (l := l + 7) hT hTr hB g (toL (K.av nm)) (.lst w.l) (.lst [.int side, .str row]) K.beads w.order row w.back w.swap w.shift side pl j2 hwl hs2 wl nd hrm (by omega)
    rw [hR] at this
    exact this
  have e4 : callN P G (l + 10) jl [K.av nm, .tup w.l, .tup [.int side, .str row]] g = .ok (.tup [.int (sw w.swap side), .str Rw]) g := by
    have := led_ok (P := P) (G := G) (l := l + 8) hL hLp hLb g (K.av nm) (.tup w.l) K.beads w.order row w.back w.swap K.long w.shift side pl i2 i3 hw wl nd l1 l2 ws hsd hrow hrm
    rw [hR] at this
    exact this
  generalize hv : AV.tup [.int (sw w.swap side), .str Rw] = v at e1 e3 e4
  have dv : deepA v = some 1 := by rw [← hv]; rfl
  have d2 : deepA (.lst [v, v]) = some 2 := by
    rw [deepA]
    simp only [deepAs, dv, Option.map_some]
    rfl
  have sm : smallA (.lst [v, v]) = true := by rw [← hv]; rfl
  have e5 : callN P G (l + 10) jsm [.lst [v, v], .lst [v, v]] g = .ok (.bl true) g := same_ok (G := G) hS 3 (l + 7) _ _ (.lst [v, v]) g pl.cl sm (flat_self g 3 _ 2 d2 (by decide)) (flat_self g 3 _ 2 d2 (by decide))
  have em : ∀ H, binop .Mult false (.lst [v]) (.int 2) H = .ok (.lst [v, v]) H := fun H => rfl
  have el1 : ∀ H, bltop .list false [.tup w.l] H = .ok (.lst w.l) H := fun H => rfl
  have el2 : ∀ H, bltop .list false [.tup [.int side, .str row]] H = .ok (.lst [.int side, .str row]) H := fun H => rfl
  obtain ⟨rs, hr4, rl, rok⟩ := game_rules (K := K) nm gk hsd
  have e6 : callN P G (l + 10) jso [K.av nm, .tup [.int side, .str row]] g = .ok (.lst (sortA ((stepsL K.shape row K.long rs).map stA))) g := steps_of_ok (P := P) (G := G) (l := l + 7) hSo hSp hBa g (K.av nm) K.shape row K.long side _ rs pl i1 i3 i4 hr4 (by omega) (by omega) (by omega)
  have sl : (sortA ((stepsL K.shape row K.long rs).map stA)).length ≤ bigL := by
    rw [sort_len, List.length_map]
    refine Nat.le_trans (stepsL_len _) (Nat.le_trans (Nat.mul_le_mul rl l2) (by decide))
  have sok : ∀ x ∈ sortA ((stepsL K.shape row K.long rs).map stA), ∃ (p : Nat) (old new : List Nat), x = .tup [.int p, .str old, .str new] ∧ p < K.long ∧ RuleOk K.beads K.long (old, new) ∧ bd K.shape row p old.length = old := fun x hx => by
    obtain ⟨y, hy, rfl⟩ := List.mem_map.mp (sort_mem.mp hx)
    obtain ⟨q1, q2, q3⟩ := stepsL_mem.mp hy
    exact ⟨y.1, y.2.1, y.2.2, rfl, q2, rok _ q1, q3⟩
  generalize sortA ((stepsL K.shape row K.long rs).map stA) = S at e6 sl sok
  obtain ⟨s2, g2, e7, x4, x5, x6, rfl, rfl⟩ := forRun_inv (C := ⟨callN P G (l + 10), G⟩) (t := .name 4) (body := L56.law_way_right_b1 jm jsm jba jbe jl jls) (src := .one (.xs S)) (items := S)
    (fun k st h => ∃ (x4 x5 x6 : Option AV), st = [some (K.av nm), some (.tup w.l), some (.tup [.int side, .str row]), some (.lst [v, v]), x4, x5, x6] ∧ g = h)
    (s := [some (K.av nm), some (.tup w.l), some (.tup [.int side, .str row]), some (.lst [v, v]), none, none, none]) (h := g) sl (fun _ _ _ _ => rfl) ⟨none, none, none, rfl, rfl⟩ (by
      rintro k x st h kx ⟨x4, x5, x6, rfl, rfl⟩
      obtain ⟨p, old, new, rfl, hp, ⟨r1, r2, r3, r4, r5, r6, r7⟩, hb⟩ := sok x (List.mem_of_getElem? kx)
      replace r1 : 1 ≤ old.length := r1
      replace r3 : old.length ≤ K.long := r3
      replace r4 : new.length = old.length := r4
      replace r6 : ∀ x ∈ old, x ∈ K.beads := r6
      replace r7 : ∀ x ∈ new, x ∈ K.beads := r7
      have f1 : callN P G (l + 10) jm [K.av nm, .tup w.l, .tup [.int p, .str old, .str new]] g = .ok (.tup [.int (plI K.long w.shift w.back p old.length), .str (trT K.beads w.order (fw w.back old)), .str (trT K.beads w.order (fw w.back new))]) g :=
        turned_move_ok (P := P) (G := G) (l := l + 7) hM hX hB g (K.av nm) (.tup w.l) K.beads w.order old new w.back _ K.long w.shift p pl i2 i3 hw wl nd l1 r6 r7 (by omega) (by omega)
      have f2 : callN P G (l + 10) jls [K.av nm, .tup w.l, .tup [.int p, .str old, .str new]] g = .ok (.tup [.int (plI K.long w.shift w.back p old.length), .str (trT K.beads w.order (fw w.back old)), .str (trT K.beads w.order (fw w.back new))]) g :=
        led_step_ok (P := P) (G := G) (l := l + 8) hLs hLp hLb g (K.av nm) (.tup w.l) K.beads w.order old new w.back _ K.long w.shift p pl i2 i3 hw wl nd l1 l2 ws hp r1 r3 r6 r7 (by omega)
      obtain ⟨q1, q2⟩ := pl_range (s := w.shift) (back := w.back) l1 p old.length
      obtain ⟨q, hq⟩ := Int.eq_ofNat_of_zero_le q1
      have hq' : (q : Int) = plI K.long w.shift w.back p old.length := hq.symm
      rw [hq] at f1 f2 q2
      generalize ho' : trT K.beads w.order (fw w.back old) = old' at f1 f2
      generalize hn' : trT K.beads w.order (fw w.back new) = new' at f1 f2
      have ol : old'.length = old.length := by rw [← ho', trT_len, fw_len]
      have nl : new'.length = old.length := by rw [← hn', trT_len, fw_len, r4]
      have f3 : callN P G (l + 10) jsm [.tup [.int q, .str old', .str new'], .tup [.int q, .str old', .str new']] g = .ok (.bl true) g := same_ok (G := G) hS 2 (l + 8) _ _ (.tup [.int q, .str old', .str new']) g pl.cl rfl (flat_self g 2 _ 1 rfl (by decide)) (flat_self g 2 _ 1 rfl (by decide))
      have bq : bd K.shape Rw q old'.length = old' := by
        rw [ol]
        have hc : old = cyc row p old.length := by
          by_cases hr : K.shape = ringT
          · rw [← bd_ring hr (by omega) (by omega)]; exact hb.symm
          · rw [← bd_line hr (by rw [hrow]; have := bd_line_len hr r1 (by rw [hb]); omega)]; exact hb.symm
        have hcy : cyc Rw q old.length = old' := by
          rw [← hR, cyc_turned l1 l2 ws hrow hp r3 hq', ← hc, ho']
        by_cases hr : K.shape = ringT
        · rw [bd_ring hr (by omega) (by omega), hcy]
        · have fit : p + old.length ≤ K.long := by
            have := bd_line_len hr r1 (by rw [hb])
            omega
          have := pl_line (back := w.back) l1 l2 r1 fit
          rw [wk.line hr] at hq'
          rw [bd_line hr (by omega), hcy]
      have f4 : callN P G (l + 10) jba [K.av nm, .str Rw, .int q, .int old'.length] g = .ok (.str old') g := by
        have := beads_at_ok (P := P) (G := G) (l := l + 9) hBa g (K.av nm) K.shape Rw q old'.length pl i1 (by omega)
        rw [bq] at this
        exact this
      have f5 : callN P G (l + 10) jbe [K.av nm, v, .tup [.int q, .str old', .str new']] g = .ok (.tup [.int (1 - sw w.swap side), .str (putR Rw q new')]) g := by
        rw [← hv]
        exact behind_ok (P := P) (G := G) (l := l + 9) hBe g (K.av nm) (sw w.swap side) Rw old' new' K.long q pl i3 l1 l2 Rl (by omega) (by omega)
      have f6 : callN P G (l + 10) jbe [K.av nm, .tup [.int side, .str row], .tup [.int p, .str old, .str new]] g = .ok (.tup [.int ((1 - side : Nat) : Int), .str (putR row p new)]) g := by
        have := behind_ok (P := P) (G := G) (l := l + 9) hBe g (K.av nm) side row old new K.long p pl i3 l1 l2 hrow hp (by omega)
        have ec : (1 : Int) - (side : Int) = ((1 - side : Nat) : Int) := by omega
        rw [ec] at this
        exact this
      have f7 : callN P G (l + 10) jl [K.av nm, .tup w.l, .tup [.int ((1 - side : Nat) : Int), .str (putR row p new)]] g = .ok (.tup [.int (sw w.swap ((1 - side : Nat) : Int)), .str (putR Rw q new')]) g := by
        have := led_ok (P := P) (G := G) (l := l + 8) hL hLp hLb g (K.av nm) (.tup w.l) K.beads w.order (putR row p new) w.back w.swap K.long w.shift (1 - side) pl i2 i3 hw wl nd l1 l2 ws (by omega) (by rw [put_len, hrow]) (put_mem hrm r7)
        have ep : putR Rw q new' = tRow K.beads w.order w.back w.shift (putR row p new) := by
          rw [← hR, ← hn']
          exact put_turned l1 l2 ws hrow hp (by omega) (by rw [r4]; exact hq')
        rw [ep]
        exact this
      have v0 : ∀ H, idxop (.lst [v, v]) (.int 0) H = .ok v H := fun H => rfl
      have v1 : ∀ H, idxop v (.int 1) H = .ok (.str Rw) H := fun H => by rw [← hv]; rfl
      have t0 : ∀ H, idxop (.tup [.int q, .str old', .str new']) (.int 0) H = .ok (.int q) H := fun H => rfl
      have t1 : ∀ H, idxop (.tup [.int q, .str old', .str new']) (.int 1) H = .ok (.str old') H := fun H => rfl
      have u1 : ∀ x y H, idxop (.tup [.int x, .str y]) (.int 1) H = .ok (.str y) H := fun x y H => rfl
      refine ⟨[some (K.av nm), some (.tup w.l), some (.tup [.int side, .str row]), some (.lst [v, v]), some (.tup [.int p, .str old, .str new]), x5, x6], g, by simp only [evSs, es_asg, es_par, es_aug, es_expr, es_ret, es_ifs, es_for, es_while, es_pass, es_brk, es_cont, ee_lit, ee_var, ee_glob, ee_bty, ee_bin, ee_neg, ee_cmp, ee_chain, ee_not, ee_and, ee_or, ee_ife, ee_tup, ee_lst, ee_idx, ee_slice, ee_rev, ee_call, ee_blt, ee_mth, ee_lc, ee_lc2, evA, evO, evC, evI, evG, evGs, R.bind_ok, seqOf_tup, seqOf_lst, bin_add, bin_sub, bin_pow7, bin_pow18, cmp_gt, cmp_lt, cmp_ge, cmp_le, blt_abs, getV, List.getElem?_cons_zero, List.getElem?_cons_succ, List.set_cons_zero, List.set_cons_succ, List.map_cons, List.map_nil, List.length_cons, List.length_nil, List.replicate, List.cons_append, List.nil_append, Nat.reduceAdd, Nat.reduceSub, Nat.zero_add], ?_⟩
      refine ⟨[some (K.av nm), some (.tup w.l), some (.tup [.int side, .str row]), some (.lst [v, v]), some (.tup [.int p, .str old, .str new]), some (.tup [.int q, .str old', .str new']), some (.tup [.int (1 - sw w.swap side), .str (putR Rw q new')])], g, ?_, _, _, _, rfl, rfl⟩
      simp only [L56.law_way_right_b1, evSs, es_asg, es_par, es_aug, es_expr, es_ret, es_ifs, es_for, es_while, es_pass, es_brk, es_cont, ee_lit, ee_var, ee_glob, ee_bty, ee_bin, ee_neg, ee_cmp, ee_chain, ee_not, ee_and, ee_or, ee_ife, ee_tup, ee_lst, ee_idx, ee_slice, ee_rev, ee_call, ee_blt, ee_mth, ee_lc, ee_lc2, evA, evO, evC, evI, evG, evGs, R.bind_ok, seqOf_tup, seqOf_lst, bin_add, bin_sub, bin_pow7, bin_pow18, cmp_gt, cmp_lt, cmp_ge, cmp_le, blt_abs, getV, List.getElem?_cons_zero, List.getElem?_cons_succ, List.set_cons_zero, List.set_cons_succ, List.map_cons, List.map_nil, List.length_cons, List.length_nil, List.replicate, List.cons_append, List.nil_append, Nat.reduceAdd, Nat.reduceSub, Nat.zero_add, f1, f2, f3, Bool.not_true, v0, v1, t0, t1, blt_len_str, f4, cmp_ne_str, decide_true, f5, f6, f7, u1])
  have eb : evSs ⟨callN P G (l + 10), G⟩ (L56.law_way_right jt jm jsm jba jso jbe jl jls jli).body [some (K.av nm), some (.tup w.l), some (.tup [.int side, .str row]), none, none, none, none] g = .ok ([some (K.av nm), some (.tup w.l), some (.tup [.int side, .str row]), some (.lst [v, v]), x4, x5, x6], .rt (.bl true)) g := by
    simp only [L56.law_way_right, evSs, es_asg, es_par, es_aug, es_expr, es_ret, es_ifs, es_for, es_while, es_pass, es_brk, es_cont, ee_lit, ee_var, ee_glob, ee_bty, ee_bin, ee_neg, ee_cmp, ee_chain, ee_not, ee_and, ee_or, ee_ife, ee_tup, ee_lst, ee_idx, ee_slice, ee_rev, ee_call, ee_blt, ee_mth, ee_lc, ee_lc2, evA, evO, evC, evI, evG, evGs, R.bind_ok, seqOf_tup, seqOf_lst, bin_add, bin_sub, bin_pow7, bin_pow18, cmp_gt, cmp_lt, cmp_ge, cmp_le, blt_abs, getV, List.getElem?_cons_zero, List.getElem?_cons_succ, List.set_cons_zero, List.set_cons_succ, List.map_cons, List.map_nil, List.length_cons, List.length_nil, List.replicate, List.cons_append, List.nil_append, Nat.reduceAdd, Nat.reduceSub, Nat.zero_add, e1, e2, el1, el2, e3, mk_f, e4, em, e5, Bool.not_true, e6, viewOf, viewL, e7]
  rw [call_rt hd rfl eb]
  exact gc_same pl rfl

def WayRight (c : CallSem) (i : Nat) : Prop := ∀ (g : AH) (K : Game) (nm : List Nat) (w : Way) (side : Nat) (row : List Nat), Pl g → GameOk 7 K → WayOk K w → plainT nm = true → nm.length ≤ 1000 → side < 2 → row.length = K.long → (∀ x ∈ row, x ∈ K.beads) → c i [K.av nm, .tup w.l, .tup [.int side, .str row]] g = .ok (.bl true) g
def Right56 (c : CallSem) (i : Nat) : Prop := ∀ (h : AH) (r b : Nat) (g : AH), Box h r b g → b + 50000 ≤ 1000000000000 → ∃ g', c i [.ref r] g = .ok (.bl true) g' ∧ Box h r (b + 50000) g'
theorem right56_ok {ja jg jy : Nat} (hd : P[i]? = some (L56.law_right jg ja jy jr)) (hg : AnyGame (callN P G l) jg) (ha : AnyStanding (callN P G l) ja) (hy : AnyWay (callN P G l) jy) (hw : WayRight (callN P G l) jr) : Right56 (callN P G (l + 1)) i := by
  intro h r b g B hbb
  have plh := B.2.1
  obtain ⟨s2, g2, e2, x1, x2, x3, x4, x5, x6, rfl, B2⟩ := forRun_inv (C := ⟨callN P G l, G⟩) (t := .name 1) (body := L56.law_right_b2 jg ja jy jr) (src := .one (.xs (rangeA 0 3))) (items := rangeA 0 3)
    (fun i st g => ∃ (x1 x2 x3 x4 x5 x6 : Option AV), st = [some (.ref r), x1, x2, x3, x4, x5, x6] ∧ Box h r (b + 14000 * i) g)
    (s := [some (.ref r), none, none, none, none, none, none]) (h := g) (by rw [range_len]; decide) (fun _ _ _ _ => rfl) ⟨none, none, none, none, none, none, rfl, B⟩ (by
      rintro i x st g ix ⟨x1, x2, x3, x4, x5, x6, rfl, B⟩
      obtain ⟨rfl, lt⟩ := range_at ix
      obtain ⟨K, g1, e1, gk, B1⟩ := hg h r _ g [103] 7 B (by decide) (by decide) (by omega)
      have e1' : callN P G l jg [.ref r, .str [103], .int 7] g = .ok (K.av [103]) g1 := e1
      refine ⟨[some (.ref r), some (.int i), x2, x3, x4, x5, x6], g, by simp only [evSs, es_asg, es_par, es_aug, es_expr, es_ret, es_ifs, es_for, es_while, es_pass, es_brk, es_cont, ee_lit, ee_var, ee_glob, ee_bty, ee_bin, ee_neg, ee_cmp, ee_chain, ee_not, ee_and, ee_or, ee_ife, ee_tup, ee_lst, ee_idx, ee_slice, ee_rev, ee_call, ee_blt, ee_mth, ee_lc, ee_lc2, evA, evO, evC, evI, evG, evGs, R.bind_ok, seqOf_tup, seqOf_lst, bin_add, bin_sub, bin_pow7, bin_pow18, cmp_gt, cmp_lt, cmp_ge, cmp_le, blt_abs, getV, List.getElem?_cons_zero, List.getElem?_cons_succ, List.set_cons_zero, List.set_cons_succ, List.map_cons, List.map_nil, List.length_cons, List.length_nil, List.replicate, List.cons_append, List.nil_append, Nat.reduceAdd, Nat.reduceSub, Nat.zero_add], ?_⟩
      obtain ⟨s4, g4, e4, y3, y4, y5, y6, rfl, B4⟩ := forRun_inv (C := ⟨callN P G l, G⟩) (t := .name 3) (body := L56.law_right_b1 ja jy jr) (src := .one (.xs (rangeA 0 8))) (items := rangeA 0 8)
        (fun k st g => ∃ (y3 y4 y5 y6 : Option AV), st = [some (.ref r), some (.int i), some (K.av [103]), y3, y4, y5, y6] ∧ Box h r (b + 14000 * i + 11000 + 300 * k) g)
        (s := [some (.ref r), some (.int i), some (K.av [103]), x3, x4, x5, x6]) (h := g1) (by rw [range_len]; decide) (fun _ _ _ _ => rfl) ⟨x3, x4, x5, x6, rfl, B1⟩ (by
          rintro k x st g kx ⟨y3, y4, y5, y6, rfl, B⟩
          obtain ⟨rfl, lt⟩ := range_at kx
          obtain ⟨w, ga, ea, wk, Ba⟩ := hy h r _ g K [103] 7 B gk (by decide) (by omega)
          obtain ⟨side, row, gb, eb, hsd, rl, rm, Bb⟩ := ha h r _ ga K [103] 7 Ba gk (by decide) (by omega)
          have ew := hw gb K [103] w side row Bb.pl gk wk rfl (by decide) hsd rl rm
          obtain ⟨o1, o2, m, o3, o4⟩ := game_av gk (by decide) (nm := [103]) (by decide) (by decide)
          have l2 := gk.long2
          have wo := wk.sh
          obtain ⟨bl1, bl2⟩ := beads_len gk.beads
          have wl := wk.len
          obtain ⟨tx, er⟩ := blt_repr (v := .lst [K.av [103], .tup w.l, .tup [.int side, .str row]]) (n := max m (max 1 (max 1 0)) + 1) (by
              have dw : deepA (.tup w.l) = some 1 := rfl
              have ds : deepA (.tup [.int side, .str row]) = some 1 := rfl
              rw [deepA]
              simp only [deepAs, o3, dw, ds, Option.map_some]
              rw [if_pos (by show 3 ≤ 1000000; decide)]) (by omega) (by
              have ow : okR (.tup w.l) = true := by
                simp only [Way.l, okR, okRs, Bool.and_true, Bool.and_eq_true, decide_eq_true_eq]
                refine ⟨?_, ?_, ?_, plain_of gk.beads wk.mem⟩
                · cases w.back <;> decide
                · omega
                · cases w.swap <;> decide
              have os : okR (.tup [.int side, .str row]) = true := by
                simp only [okR, okRs, Bool.and_true, Bool.and_eq_true, decide_eq_true_eq]
                exact ⟨by omega, plain_of gk.beads rm⟩
              simp only [okR, okRs, Bool.and_true, Bool.and_eq_true] at o1 ow os ⊢
              exact ⟨o1, ow, os⟩) (by
              simp only [szA, szAs, Way.l] at o2 ⊢
              omega)
          refine ⟨[some (.ref r), some (.int i), some (K.av [103]), some (.int k), y4, y5, y6], g, by simp only [evSs, es_asg, es_par, es_aug, es_expr, es_ret, es_ifs, es_for, es_while, es_pass, es_brk, es_cont, ee_lit, ee_var, ee_glob, ee_bty, ee_bin, ee_neg, ee_cmp, ee_chain, ee_not, ee_and, ee_or, ee_ife, ee_tup, ee_lst, ee_idx, ee_slice, ee_rev, ee_call, ee_blt, ee_mth, ee_lc, ee_lc2, evA, evO, evC, evI, evG, evGs, R.bind_ok, seqOf_tup, seqOf_lst, bin_add, bin_sub, bin_pow7, bin_pow18, cmp_gt, cmp_lt, cmp_ge, cmp_le, blt_abs, getV, List.getElem?_cons_zero, List.getElem?_cons_succ, List.set_cons_zero, List.set_cons_succ, List.map_cons, List.map_nil, List.length_cons, List.length_nil, List.replicate, List.cons_append, List.nil_append, Nat.reduceAdd, Nat.reduceSub, Nat.zero_add], ?_⟩
          refine ⟨[some (.ref r), some (.int i), some (K.av [103]), some (.int k), some (.str tx), some (.tup w.l), some (.tup [.int side, .str row])], gb, ?_, _, _, _, _, rfl, Bb.mono (by omega)⟩
          simp only [L56.law_right_b1, evSs, es_asg, es_par, es_aug, es_expr, es_ret, es_ifs, es_for, es_while, es_pass, es_brk, es_cont, ee_lit, ee_var, ee_glob, ee_bty, ee_bin, ee_neg, ee_cmp, ee_chain, ee_not, ee_and, ee_or, ee_ife, ee_tup, ee_lst, ee_idx, ee_slice, ee_rev, ee_call, ee_blt, ee_mth, ee_lc, ee_lc2, evA, evO, evC, evI, evG, evGs, R.bind_ok, seqOf_tup, seqOf_lst, bin_add, bin_sub, bin_pow7, bin_pow18, cmp_gt, cmp_lt, cmp_ge, cmp_le, blt_abs, getV, List.getElem?_cons_zero, List.getElem?_cons_succ, List.set_cons_zero, List.set_cons_succ, List.map_cons, List.map_nil, List.length_cons, List.length_nil, List.replicate, List.cons_append, List.nil_append, Nat.reduceAdd, Nat.reduceSub, Nat.zero_add, ea, eb, setAll, mk_f, er, ew, Bool.not_true, cmp_ne_str, decide_true])
      rw [range_len] at B4
      refine ⟨[some (.ref r), some (.int i), some (K.av [103]), y3, y4, y5, y6], g4, ?_, _, _, _, _, _, _, rfl, B4.mono (by omega)⟩
      simp only [L56.law_right_b2, evSs, es_asg, es_par, es_aug, es_expr, es_ret, es_ifs, es_for, es_while, es_pass, es_brk, es_cont, ee_lit, ee_var, ee_glob, ee_bty, ee_bin, ee_neg, ee_cmp, ee_chain, ee_not, ee_and, ee_or, ee_ife, ee_tup, ee_lst, ee_idx, ee_slice, ee_rev, ee_call, ee_blt, ee_mth, ee_lc, ee_lc2, evA, evO, evC, evI, evG, evGs, R.bind_ok, seqOf_tup, seqOf_lst, bin_add, bin_sub, bin_pow7, bin_pow18, cmp_gt, cmp_lt, cmp_ge, cmp_le, blt_abs, getV, List.getElem?_cons_zero, List.getElem?_cons_succ, List.set_cons_zero, List.set_cons_succ, List.map_cons, List.map_nil, List.length_cons, List.length_nil, List.replicate, List.cons_append, List.nil_append, Nat.reduceAdd, Nat.reduceSub, Nat.zero_add, e1', range_ok (n := 8) (by decide) (by decide), if_true, e4])
  rw [range_len] at B2
  have Bf : Box h r (b + 50000) g2 := B2.mono (by omega)
  refine ⟨g2, ?_, Bf⟩
  have eb : evSs ⟨callN P G l, G⟩ (L56.law_right jg ja jy jr).body [some (.ref r), none, none, none, none, none, none] g = .ok ([some (.ref r), x1, x2, x3, x4, x5, x6], .rt (.bl true)) g2 := by
    simp only [L56.law_right, evSs, es_asg, es_par, es_aug, es_expr, es_ret, es_ifs, es_for, es_while, es_pass, es_brk, es_cont, ee_lit, ee_var, ee_glob, ee_bty, ee_bin, ee_neg, ee_cmp, ee_chain, ee_not, ee_and, ee_or, ee_ife, ee_tup, ee_lst, ee_idx, ee_slice, ee_rev, ee_call, ee_blt, ee_mth, ee_lc, ee_lc2, evA, evO, evC, evI, evG, evGs, R.bind_ok, seqOf_tup, seqOf_lst, bin_add, bin_sub, bin_pow7, bin_pow18, cmp_gt, cmp_lt, cmp_ge, cmp_le, blt_abs, getV, List.getElem?_cons_zero, List.getElem?_cons_succ, List.set_cons_zero, List.set_cons_succ, List.map_cons, List.map_nil, List.length_cons, List.length_nil, List.replicate, List.cons_append, List.nil_append, Nat.reduceAdd, Nat.reduceSub, Nat.zero_add, range_ok (n := 3) (by decide) (by decide), if_true, e2]
  rw [call_rt hd rfl eb]
  exact Bf.ret B.len rfl

def LawOk (c : CallSem) (i : Nat) : Prop := ∀ ns : List Int, ns.length ≤ 63 → ∃ g', c i [.lst (intsA ns)] [] = .ok (.bl true) g'
theorem law56_ok {jbx jf : Nat} (hd : P[i]? = some (L56.law jbx jf jr)) (hb : BoxMk (callN P G l) jbx) (hf : FoldOk (callN P G l) jf) (hr : Right56 (callN P G l) jr) : LawOk (callN P G (l + 1)) i := by
  intro ns hn
  obtain ⟨cs, v, e1, cl, cv⟩ := hf [] ns 3 hn (by decide) (by decide)
  rw [List.nil_append] at e1
  have e1' : callN P G l jf [.lst (intsA ns), .int 3] [] = .ok v [.lst (intsA cs)] := e1
  obtain ⟨ds, dl, d4, sq⟩ : ∃ ds : List Int, ds ≠ [] ∧ ds.length ≤ 3 ∧ ∀ ex : AH, seqOf (.lst (intsA cs) :: ex) v = some (intsA ds) := by
    rcases cv with ⟨q, rfl⟩ | ⟨q, rfl⟩
    · exact ⟨cs, q, cl, fun ex => rfl⟩
    · exact ⟨[0], by simp, by decide, fun ex => rfl⟩
  obtain ⟨ys, g2, e2, ex, rfl, pl, hy⟩ := lcRun_inv (C := ⟨callN P G l, G⟩) (st := [some (.lst (intsA ns)), some v, none]) (own := [2]) (t := .name 2) (cd := .no) (el := L56.law_e1 jbx jr) (src := .one (.xs (rangeA 0 ds.length))) (items := rangeA 0 ds.length)
    (fun k g acc => ∃ ex : AH, g = .lst (intsA cs) :: ex ∧ Pl (.lst (intsA cs) :: ex) ∧ acc = List.replicate k (.bl true)) (h := [.lst (intsA cs)]) (by rw [range_len]; unfold bigL; omega) (fun _ _ _ _ => rfl) ⟨[], rfl, fun c hc => by rw [List.mem_singleton.mp hc]; exact below_ints cs, rfl⟩ (by
      rintro k x g acc kx ⟨ex, rfl, pl, rfl⟩
      obtain ⟨rfl, lt⟩ := range_at kx
      generalize hh : Cell.lst (intsA cs) :: ex = h at pl
      obtain ⟨a, m, eb, a0, m0, m1⟩ := hb h v ds k (by rw [← hh]; exact sq ex) (by omega)
      have pl2 : Pl (h ++ [boxC a m 0]) := pl.snoc rfl
      have B : Box (h ++ [boxC a m 0]) h.length 0 (h ++ [boxC a m 0]) := ⟨by rw [List.length_append]; simp, pl2, a, m, 0, by rw [set_last], a0, m0, m1, by decide, by decide⟩
      obtain ⟨ga, ea, Ba⟩ := hr _ _ _ _ B (by omega)
      obtain ⟨_, _, a', m', k', eg, _⟩ := id Ba
      refine ⟨[some (.lst (intsA ns)), some v, some (.int k)], h, by simp only [evSs, es_asg, es_par, es_aug, es_expr, es_ret, es_ifs, es_for, es_while, es_pass, es_brk, es_cont, ee_lit, ee_var, ee_glob, ee_bty, ee_bin, ee_neg, ee_cmp, ee_chain, ee_not, ee_and, ee_or, ee_ife, ee_tup, ee_lst, ee_idx, ee_slice, ee_rev, ee_call, ee_blt, ee_mth, ee_lc, ee_lc2, evA, evO, evC, evI, evG, evGs, R.bind_ok, seqOf_tup, seqOf_lst, bin_add, bin_sub, bin_pow7, bin_pow18, cmp_gt, cmp_lt, cmp_ge, cmp_le, blt_abs, getV, List.getElem?_cons_zero, List.getElem?_cons_succ, List.set_cons_zero, List.set_cons_succ, List.map_cons, List.map_nil, List.length_cons, List.length_nil, List.replicate, List.cons_append, List.nil_append, Nat.reduceAdd, Nat.reduceSub, Nat.zero_add, wipeA], true, h, by simp only [evSs, es_asg, es_par, es_aug, es_expr, es_ret, es_ifs, es_for, es_while, es_pass, es_brk, es_cont, ee_lit, ee_var, ee_glob, ee_bty, ee_bin, ee_neg, ee_cmp, ee_chain, ee_not, ee_and, ee_or, ee_ife, ee_tup, ee_lst, ee_idx, ee_slice, ee_rev, ee_call, ee_blt, ee_mth, ee_lc, ee_lc2, evA, evO, evC, evI, evG, evGs, R.bind_ok], .inl ⟨rfl, .bl true, ga, by simp only [L56.law_e1, evSs, es_asg, es_par, es_aug, es_expr, es_ret, es_ifs, es_for, es_while, es_pass, es_brk, es_cont, ee_lit, ee_var, ee_glob, ee_bty, ee_bin, ee_neg, ee_cmp, ee_chain, ee_not, ee_and, ee_or, ee_ife, ee_tup, ee_lst, ee_idx, ee_slice, ee_rev, ee_call, ee_blt, ee_mth, ee_lc, ee_lc2, evA, evO, evC, evI, evG, evGs, R.bind_ok, seqOf_tup, seqOf_lst, bin_add, bin_sub, bin_pow7, bin_pow18, cmp_gt, cmp_lt, cmp_ge, cmp_le, blt_abs, getV, List.getElem?_cons_zero, List.getElem?_cons_succ, List.set_cons_zero, List.set_cons_succ, List.map_cons, List.map_nil, List.length_cons, List.length_nil, List.replicate, List.cons_append, List.nil_append, Nat.reduceAdd, Nat.reduceSub, Nat.zero_add, eb, ea], ex ++ [boxC a' m' k'], ?_, ?_, ?_⟩⟩
      · rw [eg, set_last, ← hh]
        rfl
      · have := Ba.pl
        rw [eg, set_last, ← hh] at this
        exact this
      · rw [List.replicate_succ'])
  rw [range_len] at hy
  have hall : ∀ m H, bltop .all m [.lst ys] H = .ok (.bl true) H := fun m H => by
    rw [hy]
    exact all_true _ m H
  refine ⟨.lst (intsA cs) :: ex, ?_⟩
  have eb : evSs ⟨callN P G l, G⟩ (L56.law jbx jf jr).body [some (.lst (intsA ns)), none, none] [] = .ok ([some (.lst (intsA ns)), some v, none], .rt (.bl true)) (.lst (intsA cs) :: ex) := by
    have el : ∀ m, bltop .len m [v] [.lst (intsA cs)] = .ok (.int ds.length) [.lst (intsA cs)] := fun m => by
      rw [blt_len_seq m (sq []), ints_len]
    simp only [L56.law, evSs, es_asg, es_par, es_aug, es_expr, es_ret, es_ifs, es_for, es_while, es_pass, es_brk, es_cont, ee_lit, ee_var, ee_glob, ee_bty, ee_bin, ee_neg, ee_cmp, ee_chain, ee_not, ee_and, ee_or, ee_ife, ee_tup, ee_lst, ee_idx, ee_slice, ee_rev, ee_call, ee_blt, ee_mth, ee_lc, ee_lc2, evA, evO, evC, evI, evG, evGs, R.bind_ok, seqOf_tup, seqOf_lst, bin_add, bin_sub, bin_pow7, bin_pow18, cmp_gt, cmp_lt, cmp_ge, cmp_le, blt_abs, getV, List.getElem?_cons_zero, List.getElem?_cons_succ, List.set_cons_zero, List.set_cons_succ, List.map_cons, List.map_nil, List.length_cons, List.length_nil, List.replicate, List.cons_append, List.nil_append, Nat.reduceAdd, Nat.reduceSub, Nat.zero_add, e1', el, range_ok (n := ds.length) (by omega) (by omega), if_true, e2, mk_f, hall]
  rw [call_rt hd rfl eb]
  rfl
end
end SP
end
section
namespace K56
open SP
def f_beads_led : FnD := { name := "beads_led", ps := ["game", "turning", "text"], N := ["game", "turning", "text", "to", "bead"], gc := true, body :=
    (.cons (.asg (.name 3) (.blt .dictzips false (.cons (.idx (.var 0) (.lit (.int 2))) (.cons (.idx (.var 1) (.lit (.int 3))) .nil))))
    (.cons (.ret (.mth .join (.lit (.str [])) (.cons (.lc false [4] (.name 4) (.e (.var 2)) .no (.idx (.var 3) (.var 4))) .nil)))
    .nil)) }
def f_turned_text : FnD := { name := "turned_text", ps := ["game", "turning", "text"], N := ["game", "turning", "text"], gc := true, body :=
    (.cons (.ret (.call 0 (.cons (.var 0) (.cons (.var 1) (.cons (.ife (.cmp .Eq (.idx (.var 1) (.lit (.int 0))) (.lit (.int 1))) (.rev false (.var 2)) (.var 2)) .nil)))))
    .nil) }
def f_turned_row : FnD := { name := "turned_row", ps := ["game", "turning", "row"], N := ["game", "turning", "row", "first", "back", "shift", "swap", "beads"], gc := true, body :=
    (.cons (.asg (.tup (.cons (.name 4) (.cons (.name 5) (.cons (.name 6) (.cons (.name 7) .nil))))) (.var 1))
    (.cons (.asg (.name 3) (.ife (.cmp .Eq (.var 4) (.lit (.int 1))) (.rev false (.var 2)) (.var 2)))
    (.cons (.ret (.call 0 (.cons (.var 0) (.cons (.var 1) (.cons (.bin .Add false (.slice false (.var 3) (.yes (.var 5)) .no) (.slice false (.var 3) .no (.yes (.var 5)))) .nil)))))
    .nil))) }
def f_turned : FnD := { name := "turned", ps := ["game", "turning", "standing"], N := ["game", "turning", "standing", "side", "row"], gc := true, body :=
    (.cons (.asg (.tup (.cons (.name 3) (.cons (.name 4) .nil))) (.var 2))
    (.cons (.ret (.tup (.cons (.ife (.cmp .Eq (.idx (.var 1) (.lit (.int 2))) (.lit (.int 1))) (.bin .Sub false (.lit (.int 1)) (.var 3)) (.var 3)) (.cons (.call 2 (.cons (.var 0) (.cons (.var 1) (.cons (.var 4) .nil)))) .nil))))
    .nil)) }
def f_turned_move : FnD := { name := "turned_move", ps := ["game", "turning", "move"], N := ["game", "turning", "move", "long", "first", "back", "shift", "swap", "beads", "place", "old", "new"], gc := true, body :=
    (.cons (.asg (.tup (.cons (.name 5) (.cons (.name 6) (.cons (.name 7) (.cons (.name 8) .nil))))) (.var 1))
    (.cons (.asg (.tup (.cons (.name 9) (.cons (.name 10) (.cons (.name 11) .nil)))) (.var 2))
    (.cons (.asg (.name 3) (.idx (.var 0) (.lit (.int 3))))
    (.cons (.asg (.name 4) (.ife (.cmp .Eq (.var 5) (.lit (.int 1))) (.bin .Sub false (.bin .Sub false (.var 3) (.var 9)) (.blt .len false (.cons (.var 10) .nil))) (.var 9)))
    (.cons (.ret (.tup (.cons (.bin .Mod false (.bin .Sub false (.var 4) (.var 6)) (.var 3)) (.cons (.call 1 (.cons (.var 0) (.cons (.var 1) (.cons (.var 10) .nil)))) (.cons (.call 1 (.cons (.var 0) (.cons (.var 1) (.cons (.var 11) .nil)))) .nil)))))
    .nil))))) }
def f_law_box : FnD := { name := "_law_box", ps := ["_law_script", "_law_k"], N := ["_law_script", "_law_k", "_law_cell"], gc := false, body :=
    (.cons (.asg (.name 2) (.ife (.cmp .Lt (.var 1) (.blt .len false (.cons (.var 0) .nil))) (.idx (.var 0) (.var 1)) (.lit (.int 0))))
    (.cons (.ret (.lst true (.cons (.bin .Mult false (.blt .abs false (.cons (.var 2) .nil)) (.blt .int1 false (.cons (.cmp .GtE (.blt .abs false (.cons (.var 2) .nil)) (.bin .Pow false (.lit (.int 10)) (.lit (.int 18)))) .nil))) (.cons (.bin .Mod false (.bin .Mult false (.bin .Add false (.bin .Add false (.bin .Mod false (.var 2) (.lit (.int 2147483629))) (.bin .Mult false (.lit (.int 15485863)) (.var 1))) (.lit (.int 43))) (.lit (.int 48271))) (.lit (.int 2147483647))) (.cons (.lit (.int 0)) .nil)))))
    .nil)) }
def f_law_take : FnD := { name := "_law_take", ps := ["_law_box_here", "_law_room"], N := ["_law_box_here", "_law_room", "_law_step", "_law_once", "_law_twice", "_law_found"], gc := true, body :=
    (.cons (.ifs (.cmp .Gt (.idx (.var 0) (.lit (.int 0))) (.lit (.int 0))) (.cons (.asg (.tup (.cons (.sub (.var 0) (.lit (.int 0))) (.cons (.name 5) .nil))) (.blt .divmod false (.cons (.idx (.var 0) (.lit (.int 0))) (.cons (.var 1) .nil))))
    (.cons (.ret (.var 5))
    .nil)) .nil)
    (.cons (.ifs (.cmp .Gt (.var 1) (.bin .Pow false (.lit (.int 10)) (.lit (.int 7)))) (.cons (.ret (.bin .Mod false (.bin .Add false (.call 6 (.cons (.var 0) (.cons (.bin .Pow false (.lit (.int 10)) (.lit (.int 7))) .nil))) (.bin .Mult false (.bin .Pow false (.lit (.int 10)) (.lit (.int 7))) (.call 6 (.cons (.var 0) (.cons (.bin .Add false (.bin .FloorDiv false (.bin .Sub false (.var 1) (.lit (.int 1))) (.bin .Pow false (.lit (.int 10)) (.lit (.int 7)))) (.lit (.int 1))) .nil))))) (.var 1)))
    .nil) .nil)
    (.cons (.asg (.sub (.var 0) (.lit (.int 2))) (.bin .Add false (.idx (.var 0) (.lit (.int 2))) (.lit (.int 1))))
    (.cons (.asg (.name 2) (.bin .Add false (.lit (.int 69621)) (.bin .Mult false (.idx (.var 0) (.lit (.int 2))) (.idx (.var 0) (.lit (.int 2))))))
    (.cons (.asg (.name 3) (.bin .Mod false (.bin .Mult false (.bin .Add false (.idx (.var 0) (.lit (.int 1))) (.bin .Mult false (.lit (.int 39373)) (.idx (.var 0) (.lit (.int 2))))) (.var 2)) (.lit (.int 2147483587))))
    (.cons (.asg (.name 4) (.bin .Mod false (.bin .Add false (.bin .Mult false (.var 3) (.bin .Add false (.bin .Mod false (.var 3) (.lit (.int 30011))) (.lit (.int 5)))) (.idx (.var 0) (.lit (.int 2)))) (.lit (.int 2147483563))))
    (.cons (.ret (.bin .Mod false (.bin .FloorDiv false (.bin .Mod false (.bin .Mult false (.var 4) (.bin .Add false (.bin .Mod false (.var 4) (.lit (.int 1013))) (.lit (.int 3)))) (.lit (.int 998244353))) (.lit (.int 16))) (.var 1)))
    .nil))))))) }
def f_law_folded : FnD := { name := "_law_folded", ps := ["_law_script", "_law_room"], N := ["_law_script", "_law_room", "_law_cells", "_law_k", "_law_cell"], gc := false, body :=
    (.cons (.asg (.name 2) (.blt .list true (.cons (.slice false (.var 0) .no (.yes (.var 1))) .nil)))
    (.cons (.for_ (.tup (.cons (.name 3) (.cons (.name 4) .nil))) (.enum (.slice false (.var 0) (.yes (.var 1)) (.yes (.lit (.int 63))))) (.cons (.asg (.sub (.var 2) (.bin .Mod false (.var 3) (.var 1))) (.bin .Add false (.idx (.var 2) (.bin .Mod false (.var 3) (.var 1))) (.bin .Mult false (.var 4) (.bin .Add false (.var 3) (.lit (.int 2))))))
    .nil))
    (.cons (.ret (.ife (.cmp .NotEq (.var 2) (.lst false .nil)) (.var 2) (.lst false (.cons (.lit (.int 0)) .nil))))
    .nil))) }
def f_law_same : FnD := { name := "_law_same", ps := ["_law_found", "_law_due"], N := ["_law_found", "_law_due", "_law_one", "_law_other"], gc := true, body :=
    (.cons (.ifs (.blt .isi false (.cons (.var 1) (.cons (.tup (.cons (.bty "list") (.cons (.bty "tuple") .nil))) .nil))) (.cons (.ifs (.or (.cmp .NotEq (.blt .isi false (.cons (.var 0) (.cons (.bty "list") .nil))) (.blt .isi false (.cons (.var 1) (.cons (.bty "list") .nil)))) (.cmp .NotEq (.blt .isi false (.cons (.var 0) (.cons (.bty "tuple") .nil))) (.blt .isi false (.cons (.var 1) (.cons (.bty "tuple") .nil))))) (.cons (.ret (.lit (.bl false)))
    .nil) .nil)
    (.cons (.ret (.and (.cmp .Eq (.blt .len false (.cons (.var 0) .nil)) (.blt .len false (.cons (.var 1) .nil))) (.blt .all false (.cons (.lc false [2, 3] (.tup (.cons (.name 2) (.cons (.name 3) .nil))) (.zip2 (.var 0) (.var 1)) .no (.call 8 (.cons (.var 2) (.cons (.var 3) .nil)))) .nil))))
    .nil)) .nil)
    (.cons (.ifs (.or (.cmp .Is (.var 1) (.lit .non)) (.blt .isi false (.cons (.var 1) (.cons (.bty "str") .nil)))) (.cons (.ret (.and (.cmp .Eq (.var 0) (.var 1)) (.cmp .Eq (.blt .isi false (.cons (.var 0) (.cons (.bty "str") .nil))) (.blt .isi false (.cons (.var 1) (.cons (.bty "str") .nil))))))
    .nil) .nil)
    (.cons (.ret (.and (.blt .isi false (.cons (.var 0) (.cons (.bty "int") .nil))) (.and (.cmp .Eq (.blt .isi false (.cons (.var 0) (.cons (.bty "bool") .nil))) (.blt .isi false (.cons (.var 1) (.cons (.bty "bool") .nil)))) (.cmp .Eq (.var 0) (.var 1)))))
    .nil))) }
def f_law_of : FnD := { name := "_law_of", ps := ["_law_box_here", "_law_some"], N := ["_law_box_here", "_law_some"], gc := true, body :=
    (.cons (.ret (.idx (.var 1) (.call 6 (.cons (.var 0) (.cons (.blt .len false (.cons (.var 1) .nil)) .nil)))))
    .nil) }
def f_law_text : FnD := { name := "_law_text", ps := ["_law_box_here", "_law_beads", "_law_size"], N := ["_law_box_here", "_law_beads", "_law_size", "_law_turn"], gc := true, body :=
    (.cons (.ret (.mth .join (.lit (.str [])) (.cons (.lc false [3] (.name 3) (.range1 (.var 2)) .no (.call 9 (.cons (.var 0) (.cons (.var 1) .nil)))) .nil)))
    .nil) }
def f_law_rules : FnD := { name := "_law_rules", ps := ["_law_box_here", "_law_beads", "_law_long"], N := ["_law_box_here", "_law_beads", "_law_long", "_law_found", "_law_turn", "_law_old", "_law_new"], gc := true, body :=
    (.cons (.asg (.name 3) (.lst true .nil))
    (.cons (.for_ (.name 4) (.range1 (.call 6 (.cons (.var 0) (.cons (.lit (.int 5)) .nil)))) (.cons (.asg (.name 5) (.call 10 (.cons (.var 0) (.cons (.var 1) (.cons (.bin .Add false (.lit (.int 1)) (.call 6 (.cons (.var 0) (.cons (.blt .min2 false (.cons (.lit (.int 3)) (.cons (.var 2) .nil))) .nil)))) .nil)))))
    (.cons (.asg (.name 6) (.idx (.lst false (.cons (.rev false (.var 5)) (.cons (.call 10 (.cons (.var 0) (.cons (.var 1) (.cons (.blt .len false (.cons (.var 5) .nil)) .nil)))) (.cons (.bin .Add false (.slice false (.var 5) (.yes (.lit (.int 1))) .no) (.slice false (.var 5) .no (.yes (.lit (.int 1))))) .nil)))) (.call 6 (.cons (.var 0) (.cons (.lit (.int 3)) .nil)))))
    (.cons (.ifs (.and (.cmp .NotEq (.var 5) (.var 6)) (.cmp .NotIn (.tup (.cons (.var 5) (.cons (.var 6) .nil))) (.var 3))) (.cons (.expr (.mth .append (.var 3) (.cons (.tup (.cons (.var 5) (.cons (.var 6) .nil))) .nil)))
    .nil) .nil)
    .nil))))
    (.cons (.ret (.blt .tuple false (.cons (.blt .sorted false (.cons (.var 3) .nil)) .nil)))
    .nil))) }
def f_law_ends : FnD := { name := "_law_ends", ps := ["_law_box_here", "_law_beads", "_law_long"], N := ["_law_box_here", "_law_beads", "_law_long", "_law_found", "_law_turn", "_law_worth", "_law_pattern", "_law_one", "_law_row"], gc := true, body :=
    (.cons (.asg (.name 3) (.lst true .nil))
    (.cons (.for_ (.name 4) (.range1 (.bin .Add false (.lit (.int 1)) (.call 6 (.cons (.var 0) (.cons (.lit (.int 4)) .nil))))) (.cons (.asg (.name 5) (.call 9 (.cons (.var 0) (.cons (.lst false (.cons (.lit (.int 9)) (.cons (.neg (.lit (.int 9))) (.cons (.lit (.int 1)) (.cons (.neg (.lit (.int 1))) (.cons (.lit (.int 3)) (.cons (.neg (.lit (.int 4))) .nil))))))) .nil))))
    (.cons (.asg (.name 6) (.call 10 (.cons (.var 0) (.cons (.var 1) (.cons (.bin .Add false (.lit (.int 1)) (.call 6 (.cons (.var 0) (.cons (.var 2) .nil)))) .nil)))))
    (.cons (.asg (.name 7) (.tup (.cons (.call 6 (.cons (.var 0) (.cons (.lit (.int 3)) .nil))) (.cons (.var 6) .nil))))
    (.cons (.ifs (.cmp .NotIn (.var 7) (.lc false [8] (.name 8) (.e (.var 3)) .no (.slice false (.var 8) .no (.yes (.lit (.int 2)))))) (.cons (.expr (.mth .append (.var 3) (.cons (.bin .Add false (.var 7) (.tup (.cons (.var 5) .nil))) .nil)))
    .nil) .nil)
    .nil)))))
    (.cons (.ret (.blt .tuple false (.cons (.blt .sorted false (.cons (.var 3) .nil)) .nil)))
    .nil))) }
def f_law_any_game : FnD := { name := "_law_any_game", ps := ["_law_box_here", "_law_name", "_law_longest"], N := ["_law_box_here", "_law_name", "_law_longest", "_law_others", "_law_stuck", "_law_beads", "_law_long", "_law_shape", "_law_rules_here", "_law_old", "_law_new"], gc := true, body :=
    (.cons (.asg (.tup (.cons (.name 5) (.cons (.name 6) .nil))) (.tup (.cons (.call 9 (.cons (.var 0) (.cons (.lst false (.cons (.lit (.str [46, 120, 111])) (.cons (.lit (.str [46, 120, 111])) (.cons (.lit (.str [46, 120])) (.cons (.lit (.str [120, 46, 111])) (.cons (.lit (.str [46, 97, 98, 122])) .nil)))))) .nil))) (.cons (.bin .Add false (.lit (.int 2)) (.call 6 (.cons (.var 0) (.cons (.bin .Sub false (.var 2) (.lit (.int 1))) .nil)))) .nil))))
    (.cons (.par [7, 8] (.cons (.call 9 (.cons (.var 0) (.cons (.lst false (.cons (.lit (.str [108, 105, 110, 101])) (.cons (.lit (.str [114, 105, 110, 103])) .nil))) .nil))) (.cons (.call 11 (.cons (.var 0) (.cons (.var 5) (.cons (.var 6) .nil)))) .nil)))
    (.cons (.asg (.name 3) (.call 11 (.cons (.var 0) (.cons (.var 5) (.cons (.var 6) .nil)))))
    (.cons (.ifs (.cmp .Eq (.call 6 (.cons (.var 0) (.cons (.lit (.int 3)) .nil))) (.lit (.int 0))) (.cons (.asg (.name 3) (.blt .tuple false (.cons (.blt .sorted false (.cons (.lc false [9, 10] (.tup (.cons (.name 9) (.cons (.name 10) .nil))) (.e (.var 8)) .no (.tup (.cons (.call 14 (.cons (.var 9) (.cons (.var 5) .nil))) (.cons (.call 14 (.cons (.var 10) (.cons (.var 5) .nil))) .nil)))) .nil)) .nil)))
    .nil) .nil)
    (.cons (.asg (.name 4) (.tup (.cons (.call 9 (.cons (.var 0) (.cons (.lst false (.cons (.lit (.int 0)) (.cons (.lit (.int 9)) (.cons (.neg (.lit (.int 9))) (.cons (.neg (.lit (.int 2))) .nil))))) .nil))) (.cons (.call 9 (.cons (.var 0) (.cons (.lst false (.cons (.lit (.int 0)) (.cons (.neg (.lit (.int 9))) (.cons (.lit (.int 9)) (.cons (.lit (.int 2)) .nil))))) .nil))) .nil))))
    (.cons (.ret (.tup (.cons (.var 1) (.cons (.var 7) (.cons (.var 5) (.cons (.var 6) (.cons (.tup (.cons (.var 8) (.cons (.var 3) .nil))) (.cons (.call 12 (.cons (.var 0) (.cons (.var 5) (.cons (.var 6) .nil)))) (.cons (.var 4) .nil)))))))))
    .nil)))))) }
def f_law_turned_text : FnD := { name := "_law_turned_text", ps := ["_law_text_here", "_law_beads"], N := ["_law_text_here", "_law_beads", "_law_to", "_law_sign"], gc := true, body :=
    (.cons (.asg (.name 2) (.blt .dictzip false (.cons (.var 1) (.cons (.bin .Add false (.bin .Add false (.slice false (.var 1) .no (.yes (.neg (.lit (.int 2))))) (.idx (.var 1) (.neg (.lit (.int 1))))) (.idx (.var 1) (.neg (.lit (.int 2))))) .nil))))
    (.cons (.ret (.mth .join (.lit (.str [])) (.cons (.lc false [3] (.name 3) (.e (.rev false (.var 0))) .no (.idx (.var 2) (.var 3))) .nil)))
    .nil)) }
def f_law_any_standing : FnD := { name := "_law_any_standing", ps := ["_law_box_here", "_law_game"], N := ["_law_box_here", "_law_game"], gc := true, body :=
    (.cons (.ret (.tup (.cons (.call 6 (.cons (.var 0) (.cons (.lit (.int 2)) .nil))) (.cons (.call 10 (.cons (.var 0) (.cons (.idx (.var 1) (.lit (.int 2))) (.cons (.idx (.var 1) (.lit (.int 3))) .nil)))) .nil))))
    .nil) }
def f_law_beads_at : FnD := { name := "_law_beads_at", ps := ["_law_game", "_law_row", "_law_place", "_law_size"], N := ["_law_game", "_law_row", "_law_place", "_law_size"], gc := true, body :=
    (.cons (.ret (.ife (.cmp .Eq (.idx (.var 0) (.lit (.int 1))) (.lit (.str [114, 105, 110, 103]))) (.slice false (.bin .Add false (.var 1) (.var 1)) (.yes (.var 2)) (.yes (.bin .Add false (.var 2) (.var 3)))) (.slice false (.var 1) (.yes (.var 2)) (.yes (.bin .Add false (.var 2) (.var 3))))))
    .nil) }
def f_law_spots : FnD := { name := "_law_spots", ps := ["_law_game", "_law_row", "_law_text_here"], N := ["_law_game", "_law_row", "_law_text_here", "_law_place"], gc := true, body :=
    (.cons (.ret (.lc false [3] (.name 3) (.range1 (.idx (.var 0) (.lit (.int 3)))) (.yes (.cmp .Eq (.call 16 (.cons (.var 0) (.cons (.var 1) (.cons (.var 3) (.cons (.blt .len false (.cons (.var 2) .nil)) .nil))))) (.var 2))) (.var 3)))
    .nil) }
def f_law_steps_of : FnD := { name := "_law_steps_of", ps := ["_law_game", "_law_standing"], N := ["_law_game", "_law_standing", "_law_found", "_law_side", "_law_row", "_law_old", "_law_new", "_law_place"], gc := true, body :=
    (.cons (.asg (.tup (.cons (.name 3) (.cons (.name 4) .nil))) (.var 1))
    (.cons (.asg (.name 2) (.lst false .nil))
    (.cons (.for_ (.tup (.cons (.name 5) (.cons (.name 6) .nil))) (.e (.idx (.idx (.var 0) (.lit (.int 4))) (.var 3))) (.cons (.asg (.name 2) (.bin .Add false (.var 2) (.lc false [7] (.name 7) (.e (.call 17 (.cons (.var 0) (.cons (.var 4) (.cons (.var 5) .nil))))) .no (.tup (.cons (.var 7) (.cons (.var 5) (.cons (.var 6) .nil)))))))
    .nil))
    (.cons (.ret (.blt .sorted false (.cons (.var 2) .nil)))
    .nil)))) }
def f_law_behind : FnD := { name := "_law_behind", ps := ["_law_game", "_law_standing", "_law_step"], N := ["_law_game", "_law_standing", "_law_step", "_law_beads", "_law_side", "_law_row", "_law_place", "_law_old", "_law_new", "_law_at", "_law_sign"], gc := true, body :=
    (.cons (.asg (.tup (.cons (.name 4) (.cons (.name 5) .nil))) (.var 1))
    (.cons (.asg (.tup (.cons (.name 6) (.cons (.name 7) (.cons (.name 8) .nil)))) (.var 2))
    (.cons (.asg (.name 3) (.blt .list true (.cons (.var 5) .nil)))
    (.cons (.for_ (.tup (.cons (.name 9) (.cons (.name 10) .nil))) (.enum (.var 8)) (.cons (.asg (.sub (.var 3) (.bin .Mod false (.bin .Add false (.var 6) (.var 9)) (.idx (.var 0) (.lit (.int 3))))) (.var 10))
    .nil))
    (.cons (.ret (.tup (.cons (.bin .Sub false (.lit (.int 1)) (.var 4)) (.cons (.mth .join (.lit (.str [])) (.cons (.var 3) .nil)) .nil))))
    .nil))))) }
def f_law_led_place : FnD := { name := "_law_led_place", ps := ["_law_game", "_law_way", "_law_place"], N := ["_law_game", "_law_way", "_law_place", "_law_back", "_law_shift", "_law_swap", "_law_beads"], gc := true, body :=
    (.cons (.asg (.tup (.cons (.name 3) (.cons (.name 4) (.cons (.name 5) (.cons (.name 6) .nil))))) (.var 1))
    (.cons (.ret (.bin .Mod false (.bin .Sub false (.ife (.cmp .Eq (.var 3) (.lit (.int 1))) (.bin .Sub false (.bin .Sub false (.idx (.var 0) (.lit (.int 3))) (.lit (.int 1))) (.var 2)) (.var 2)) (.var 4)) (.idx (.var 0) (.lit (.int 3)))))
    .nil)) }
def f_law_led_beads : FnD := { name := "_law_led_beads", ps := ["_law_game", "_law_way", "_law_text_here"], N := ["_law_game", "_law_way", "_law_text_here", "_law_to", "_law_sign"], gc := true, body :=
    (.cons (.asg (.name 3) (.blt .dictzip false (.cons (.idx (.var 0) (.lit (.int 2))) (.cons (.idx (.var 1) (.lit (.int 3))) .nil))))
    (.cons (.ret (.mth .join (.lit (.str [])) (.cons (.lc false [4] (.name 4) (.e (.var 2)) .no (.idx (.var 3) (.var 4))) .nil)))
    .nil)) }
def f_law_led : FnD := { name := "_law_led", ps := ["_law_game", "_law_way", "_law_standing"], N := ["_law_game", "_law_way", "_law_standing", "_law_signs", "_law_side", "_law_row", "_law_place", "_law_sign"], gc := true, body :=
    (.cons (.asg (.tup (.cons (.name 4) (.cons (.name 5) .nil))) (.var 2))
    (.cons (.asg (.name 3) (.bin .Mult true (.lst false (.cons (.lit (.str [])) .nil)) (.idx (.var 0) (.lit (.int 3)))))
    (.cons (.for_ (.tup (.cons (.name 6) (.cons (.name 7) .nil))) (.enum (.call 21 (.cons (.var 0) (.cons (.var 1) (.cons (.var 5) .nil))))) (.cons (.asg (.sub (.var 3) (.call 20 (.cons (.var 0) (.cons (.var 1) (.cons (.var 6) .nil))))) (.var 7))
    .nil))
    (.cons (.ret (.tup (.cons (.bin .Mod false (.bin .Add false (.var 4) (.idx (.var 1) (.lit (.int 2)))) (.lit (.int 2))) (.cons (.mth .join (.lit (.str [])) (.cons (.var 3) .nil)) .nil))))
    .nil)))) }
def f_law_led_step : FnD := { name := "_law_led_step", ps := ["_law_game", "_law_way", "_law_step"], N := ["_law_game", "_law_way", "_law_step", "_law_spots_here", "_law_texts", "_law_place", "_law_old", "_law_new", "_law_at", "_law_one"], gc := true, body :=
    (.cons (.asg (.tup (.cons (.name 5) (.cons (.name 6) (.cons (.name 7) .nil)))) (.var 2))
    (.cons (.asg (.name 3) (.lc false [8] (.name 8) (.range1 (.blt .len false (.cons (.var 6) .nil))) .no (.call 20 (.cons (.var 0) (.cons (.var 1) (.cons (.bin .Mod false (.bin .Add false (.var 5) (.var 8)) (.idx (.var 0) (.lit (.int 3)))) .nil))))))
    (.cons (.asg (.name 4) (.lc false [9] (.name 9) (.e (.tup (.cons (.var 6) (.cons (.var 7) .nil)))) .no (.call 21 (.cons (.var 0) (.cons (.var 1) (.cons (.var 9) .nil))))))
    (.cons (.ifs (.cmp .Eq (.idx (.var 1) (.lit (.int 0))) (.lit (.int 1))) (.cons (.ret (.tup (.cons (.idx (.var 3) (.neg (.lit (.int 1)))) (.cons (.rev false (.idx (.var 4) (.lit (.int 0)))) (.cons (.rev false (.idx (.var 4) (.lit (.int 1)))) .nil)))))
    .nil) .nil)
    (.cons (.ret (.tup (.cons (.idx (.var 3) (.lit (.int 0))) (.cons (.idx (.var 4) (.lit (.int 0))) (.cons (.idx (.var 4) (.lit (.int 1))) .nil)))))
    .nil))))) }
def f_law_any_way : FnD := { name := "_law_any_way", ps := ["_law_box_here", "_law_game"], N := ["_law_box_here", "_law_game", "_law_turn", "_law_shift", "_law_left", "_law_order"], gc := true, body :=
    (.cons (.par [4, 5] (.cons (.blt .list true (.cons (.idx (.var 1) (.lit (.int 2))) .nil)) (.cons (.lit (.str [])) .nil)))
    (.cons (.for_ (.name 2) (.range1 (.blt .len false (.cons (.idx (.var 1) (.lit (.int 2))) .nil))) (.cons (.asg (.name 5) (.bin .Add false (.var 5) (.mth .pop (.var 4) (.cons (.call 6 (.cons (.var 0) (.cons (.blt .len false (.cons (.var 4) .nil)) .nil))) .nil))))
    .nil))
    (.cons (.asg (.name 3) (.ife (.cmp .Eq (.idx (.var 1) (.lit (.int 1))) (.lit (.str [114, 105, 110, 103]))) (.call 6 (.cons (.var 0) (.cons (.idx (.var 1) (.lit (.int 3))) .nil))) (.lit (.int 0))))
    (.cons (.ret (.tup (.cons (.call 6 (.cons (.var 0) (.cons (.lit (.int 2)) .nil))) (.cons (.var 3) (.cons (.call 6 (.cons (.var 0) (.cons (.lit (.int 2)) .nil))) (.cons (.var 5) .nil))))))
    .nil)))) }
def f_law_way_right : FnD := { name := "_law_way_right", ps := ["_law_game", "_law_way", "_law_standing"], N := ["_law_game", "_law_way", "_law_standing", "_law_found", "_law_step", "_law_told", "_law_after"], gc := true, body :=
    (.cons (.asg (.name 3) (.lst false (.cons (.call 3 (.cons (.var 0) (.cons (.var 1) (.cons (.var 2) .nil)))) (.cons (.call 3 (.cons (.call 26 (.cons (.var 0) .nil)) (.cons (.blt .list false (.cons (.var 1) .nil)) (.cons (.blt .list false (.cons (.var 2) .nil)) .nil)))) .nil))))
    (.cons (.ifs (.not (.call 8 (.cons (.var 3) (.cons (.bin .Mult false (.lst false (.cons (.call 22 (.cons (.var 0) (.cons (.var 1) (.cons (.var 2) .nil)))) .nil)) (.lit (.int 2))) .nil)))) (.cons (.ret (.lit (.bl false)))
    .nil) .nil)
    (.cons (.for_ (.name 4) (.e (.call 18 (.cons (.var 0) (.cons (.var 2) .nil)))) (.cons (.asg (.name 5) (.call 4 (.cons (.var 0) (.cons (.var 1) (.cons (.var 4) .nil)))))
    (.cons (.ifs (.not (.call 8 (.cons (.var 5) (.cons (.call 23 (.cons (.var 0) (.cons (.var 1) (.cons (.var 4) .nil)))) .nil)))) (.cons (.ret (.lit (.bl false)))
    .nil) .nil)
    (.cons (.ifs (.cmp .NotEq (.call 16 (.cons (.var 0) (.cons (.idx (.idx (.var 3) (.lit (.int 0))) (.lit (.int 1))) (.cons (.idx (.var 5) (.lit (.int 0))) (.cons (.blt .len false (.cons (.idx (.var 5) (.lit (.int 1))) .nil)) .nil))))) (.idx (.var 5) (.lit (.int 1)))) (.cons (.ret (.lit (.bl false)))
    .nil) .nil)
    (.cons (.asg (.name 6) (.call 19 (.cons (.var 0) (.cons (.idx (.var 3) (.lit (.int 0))) (.cons (.var 5) .nil)))))
    (.cons (.ifs (.cmp .NotEq (.idx (.var 6) (.lit (.int 1))) (.idx (.call 22 (.cons (.var 0) (.cons (.var 1) (.cons (.call 19 (.cons (.var 0) (.cons (.var 2) (.cons (.var 4) .nil)))) .nil)))) (.lit (.int 1)))) (.cons (.ret (.lit (.bl false)))
    .nil) .nil)
    .nil))))))
    (.cons (.ret (.lit (.bl true)))
    .nil)))) }
def f_law_lists : FnD := { name := "_law_lists", ps := ["_law_thing"], N := ["_law_thing", "_law_one"], gc := true, body :=
    (.cons (.ret (.ife (.blt .isi false (.cons (.var 0) (.cons (.tup (.cons (.bty "list") (.cons (.bty "tuple") .nil))) .nil))) (.lc false [1] (.name 1) (.e (.var 0)) .no (.call 26 (.cons (.var 1) .nil))) (.var 0)))
    .nil) }
def f_law_right : FnD := { name := "_law_right", ps := ["_law_box_here"], N := ["_law_box_here", "_law_turn", "_law_game", "_law_again", "_law_ahead", "_law_way", "_law_standing"], gc := true, body :=
    (.cons (.for_ (.name 1) (.range1 (.lit (.int 3))) (.cons (.asg (.name 2) (.call 13 (.cons (.var 0) (.cons (.lit (.str [103])) (.cons (.lit (.int 7)) .nil)))))
    (.cons (.for_ (.name 3) (.range1 (.lit (.int 8))) (.cons (.par [5, 6] (.cons (.call 24 (.cons (.var 0) (.cons (.var 2) .nil))) (.cons (.call 15 (.cons (.var 0) (.cons (.var 2) .nil))) .nil)))
    (.cons (.asg (.name 4) (.blt .repr false (.cons (.lst false (.cons (.var 2) (.cons (.var 5) (.cons (.var 6) .nil)))) .nil)))
    (.cons (.ifs (.or (.not (.call 25 (.cons (.var 2) (.cons (.var 5) (.cons (.var 6) .nil))))) (.cmp .NotEq (.blt .repr false (.cons (.lst false (.cons (.var 2) (.cons (.var 5) (.cons (.var 6) .nil)))) .nil)) (.var 4))) (.cons (.ret (.lit (.bl false)))
    .nil) .nil)
    .nil))))
    .nil)))
    (.cons (.ret (.lit (.bl true)))
    .nil)) }
def f_law : FnD := { name := "law", ps := ["_law_script"], N := ["_law_script", "_law_cells", "_law_k"], gc := false, body :=
    (.cons (.asg (.name 1) (.call 7 (.cons (.var 0) (.cons (.lit (.int 3)) .nil))))
    (.cons (.ret (.blt .all false (.cons (.lc false [2] (.name 2) (.range1 (.blt .len false (.cons (.var 1) .nil))) .no (.call 27 (.cons (.call 5 (.cons (.var 1) (.cons (.var 2) .nil))) .nil))) .nil)))
    .nil)) }
def progF : List FnD := [f_beads_led, f_turned_text, f_turned_row, f_turned, f_turned_move, f_law_box, f_law_take, f_law_folded, f_law_same, f_law_of, f_law_text, f_law_rules, f_law_ends, f_law_any_game, f_law_turned_text, f_law_any_standing, f_law_beads_at, f_law_spots, f_law_steps_of, f_law_behind, f_law_led_place, f_law_led_beads, f_law_led, f_law_led_step, f_law_any_way, f_law_way_right, f_law_lists, f_law_right, f_law]
def globF : List AV := []
def globN : List String := []
def placesF : List Nat := [1, 2, 3, 4, 5, 7, 8, 9, 10, 11, 13, 14, 15, 16, 17, 18, 19, 20, 21, 24, 25, 26, 27, 28, 29, 30, 31, 32, 33]
end K56
end
section
set_option maxRecDepth 10000
namespace K56
open SP
theorem law_holds : LawOk (callN progF globF 20) 28 := by
  have tk : ∀ n, TakeOk (callN progF globF (n + 1)) 6 := fun n => take_ok rfl
  have oS : ∀ n, OfS (callN progF globF (n + 2)) 9 := fun n => ofS_ok rfl (tk n)
  have oL : ∀ n, OfL (callN progF globF (n + 2)) 9 := fun n => ofL_ok rfl (tk n)
  have tx : ∀ n, TextOk (callN progF globF (n + 3)) 10 := fun n => text_ok rfl (oS n)
  have ru : ∀ n, RulesOk (callN progF globF (n + 4)) 11 := fun n => rules_ok rfl (tk (n + 2)) (tx n)
  have tu : ∀ n, TurnedOk (callN progF globF (n + 1)) 14 := fun n => turned_ok rfl
  have en : ∀ n, EndsOk (callN progF globF (n + 4)) 12 := fun n => ends_ok rfl (tk (n + 2)) (oL (n + 1)) (tx n)
  have ag : ∀ n, AnyGame (callN progF globF (n + 5)) 13 := fun n => any_game_ok rfl (tk (n + 3)) (oL (n + 2)) (ru n) (tu (n + 3)) (en n)
  have as : ∀ n, AnyStanding (callN progF globF (n + 4)) 15 := fun n => any_standing_ok rfl (tk (n + 2)) (tx n)
  have aw : ∀ n, AnyWay (callN progF globF (n + 2)) 24 := fun n => any_way_ok rfl (tk n)
  have wr : ∀ n, WayRight (callN progF globF (n + 11)) 25 := fun n g K nm w side row h1 h2 h3 h4 h5 h6 h7 h8 =>
    way_right_ok (l := n) (jt := 3) (jr := 2) (jb := 0) (jm := 4) (jx := 1) (jsm := 8) (jba := 16) (jso := 18) (jsp := 17) (jbe := 19) (jl := 22) (jlp := 20) (jlb := 21) (jls := 23) (jli := 26) rfl rfl rfl rfl rfl rfl rfl rfl rfl rfl rfl rfl rfl rfl rfl rfl g K nm w side row h1 h2 h3 h4 h5 h6 h7 h8
  have ri : ∀ n, Right56 (callN progF globF (n + 12)) 27 := fun n => right56_ok (l := n + 11) rfl (ag (n + 6)) (as (n + 7)) (aw (n + 9)) (wr n)
  exact law56_ok (l := 19) rfl (box_ok (l := 18) rfl) (fold_ok (l := 18) rfl) (ri 7)
end K56
end
section
namespace K56
theorem lawful : SP.Lawful progF globF 20 28 := fun ns h _ => law_holds ns h
end K56
namespace K56
open PySem PySem.Spec PyProof.Rows L2 SP
def topS (i : Nat) : Stmt := PySem.Challenge.pw_solvedplay_k56_turned_standings_and_move.main.body.getD i (.Pass ⟨0, 0, 0, 0⟩)
abbrev fnsN : List Str := progF.map fun d => Str.ofString d.name
abbrev globsN : List Str := globN.map Str.ofString
theorem tx0 : textB fnsN globsN f_beads_led (topS 1) = true := by decide +kernel
theorem tx1 : textB fnsN globsN f_turned_text (topS 2) = true := by decide +kernel
theorem tx2 : textB fnsN globsN f_turned_row (topS 3) = true := by decide +kernel
theorem tx3 : textB fnsN globsN f_turned (topS 4) = true := by decide +kernel
theorem tx4 : textB fnsN globsN f_turned_move (topS 5) = true := by decide +kernel
theorem tx5 : textB fnsN globsN f_law_box (topS 7) = true := by decide +kernel
theorem tx6 : textB fnsN globsN f_law_take (topS 8) = true := by decide +kernel
theorem tx7 : textB fnsN globsN f_law_folded (topS 9) = true := by decide +kernel
theorem tx8 : textB fnsN globsN f_law_same (topS 10) = true := by decide +kernel
theorem tx9 : textB fnsN globsN f_law_of (topS 11) = true := by decide +kernel
theorem tx10 : textB fnsN globsN f_law_text (topS 13) = true := by decide +kernel
theorem tx11 : textB fnsN globsN f_law_rules (topS 14) = true := by decide +kernel
theorem tx12 : textB fnsN globsN f_law_ends (topS 15) = true := by decide +kernel
theorem tx13 : textB fnsN globsN f_law_any_game (topS 16) = true := by decide +kernel
theorem tx14 : textB fnsN globsN f_law_turned_text (topS 17) = true := by decide +kernel
theorem tx15 : textB fnsN globsN f_law_any_standing (topS 18) = true := by decide +kernel
theorem tx16 : textB fnsN globsN f_law_beads_at (topS 19) = true := by decide +kernel
theorem tx17 : textB fnsN globsN f_law_spots (topS 20) = true := by decide +kernel
theorem tx18 : textB fnsN globsN f_law_steps_of (topS 21) = true := by decide +kernel
theorem tx19 : textB fnsN globsN f_law_behind (topS 24) = true := by decide +kernel
theorem tx20 : textB fnsN globsN f_law_led_place (topS 25) = true := by decide +kernel
theorem tx21 : textB fnsN globsN f_law_led_beads (topS 26) = true := by decide +kernel
theorem tx22 : textB fnsN globsN f_law_led (topS 27) = true := by decide +kernel
theorem tx23 : textB fnsN globsN f_law_led_step (topS 28) = true := by decide +kernel
theorem tx24 : textB fnsN globsN f_law_any_way (topS 29) = true := by decide +kernel
theorem tx25 : textB fnsN globsN f_law_way_right (topS 30) = true := by decide +kernel
theorem tx26 : textB fnsN globsN f_law_lists (topS 31) = true := by decide +kernel
theorem tx27 : textB fnsN globsN f_law_right (topS 32) = true := by decide +kernel
theorem tx28 : textB fnsN globsN f_law (topS 33) = true := by decide +kernel
theorem all_mk {K : PySem.W.Frag} {h : Heap} {mg : Str → Option Value} (X : K.In h) (G : h.Ns mainGlobals mg)
    {od0 an0 : Option Addr} {sl0 : Array (Option Value)} {oc0 kV0 dc0 pm0 cd0 ct0 : Value} {q0 : Addr}
    {od1 an1 : Option Addr} {sl1 : Array (Option Value)} {oc1 kV1 dc1 pm1 cd1 ct1 : Value} {q1 : Addr}
    {od2 an2 : Option Addr} {sl2 : Array (Option Value)} {oc2 kV2 dc2 pm2 cd2 ct2 : Value} {q2 : Addr}
    {od3 an3 : Option Addr} {sl3 : Array (Option Value)} {oc3 kV3 dc3 pm3 cd3 ct3 : Value} {q3 : Addr}
    {od4 an4 : Option Addr} {sl4 : Array (Option Value)} {oc4 kV4 dc4 pm4 cd4 ct4 : Value} {q4 : Addr}
    {od5 an5 : Option Addr} {sl5 : Array (Option Value)} {oc5 kV5 dc5 pm5 cd5 ct5 : Value} {q5 : Addr}
    {od6 an6 : Option Addr} {sl6 : Array (Option Value)} {oc6 kV6 dc6 pm6 cd6 ct6 : Value} {q6 : Addr}
    {od7 an7 : Option Addr} {sl7 : Array (Option Value)} {oc7 kV7 dc7 pm7 cd7 ct7 : Value} {q7 : Addr}
    {od8 an8 : Option Addr} {sl8 : Array (Option Value)} {oc8 kV8 dc8 pm8 cd8 ct8 : Value} {q8 : Addr}
    {od9 an9 : Option Addr} {sl9 : Array (Option Value)} {oc9 kV9 dc9 pm9 cd9 ct9 : Value} {q9 : Addr}
    {od10 an10 : Option Addr} {sl10 : Array (Option Value)} {oc10 kV10 dc10 pm10 cd10 ct10 : Value} {q10 : Addr}
    {od11 an11 : Option Addr} {sl11 : Array (Option Value)} {oc11 kV11 dc11 pm11 cd11 ct11 : Value} {q11 : Addr}
    {od12 an12 : Option Addr} {sl12 : Array (Option Value)} {oc12 kV12 dc12 pm12 cd12 ct12 : Value} {q12 : Addr}
    {od13 an13 : Option Addr} {sl13 : Array (Option Value)} {oc13 kV13 dc13 pm13 cd13 ct13 : Value} {q13 : Addr}
    {od14 an14 : Option Addr} {sl14 : Array (Option Value)} {oc14 kV14 dc14 pm14 cd14 ct14 : Value} {q14 : Addr}
    {od15 an15 : Option Addr} {sl15 : Array (Option Value)} {oc15 kV15 dc15 pm15 cd15 ct15 : Value} {q15 : Addr}
    {od16 an16 : Option Addr} {sl16 : Array (Option Value)} {oc16 kV16 dc16 pm16 cd16 ct16 : Value} {q16 : Addr}
    {od17 an17 : Option Addr} {sl17 : Array (Option Value)} {oc17 kV17 dc17 pm17 cd17 ct17 : Value} {q17 : Addr}
    {od18 an18 : Option Addr} {sl18 : Array (Option Value)} {oc18 kV18 dc18 pm18 cd18 ct18 : Value} {q18 : Addr}
    {od19 an19 : Option Addr} {sl19 : Array (Option Value)} {oc19 kV19 dc19 pm19 cd19 ct19 : Value} {q19 : Addr}
    {od20 an20 : Option Addr} {sl20 : Array (Option Value)} {oc20 kV20 dc20 pm20 cd20 ct20 : Value} {q20 : Addr}
    {od21 an21 : Option Addr} {sl21 : Array (Option Value)} {oc21 kV21 dc21 pm21 cd21 ct21 : Value} {q21 : Addr}
    {od22 an22 : Option Addr} {sl22 : Array (Option Value)} {oc22 kV22 dc22 pm22 cd22 ct22 : Value} {q22 : Addr}
    {od23 an23 : Option Addr} {sl23 : Array (Option Value)} {oc23 kV23 dc23 pm23 cd23 ct23 : Value} {q23 : Addr}
    {od24 an24 : Option Addr} {sl24 : Array (Option Value)} {oc24 kV24 dc24 pm24 cd24 ct24 : Value} {q24 : Addr}
    {od25 an25 : Option Addr} {sl25 : Array (Option Value)} {oc25 kV25 dc25 pm25 cd25 ct25 : Value} {q25 : Addr}
    {od26 an26 : Option Addr} {sl26 : Array (Option Value)} {oc26 kV26 dc26 pm26 cd26 ct26 : Value} {q26 : Addr}
    {od27 an27 : Option Addr} {sl27 : Array (Option Value)} {oc27 kV27 dc27 pm27 cd27 ct27 : Value} {q27 : Addr}
    {od28 an28 : Option Addr} {sl28 : Array (Option Value)} {oc28 kV28 dc28 pm28 cd28 ct28 : Value} {q28 : Addr}
    (a0 : PySem.W.nsIn K mainGlobals "beads_led" = some (some (.ref q0))) (l0 : K.lookup q0 = some ⟨oc0, od0, .func (PySem.W.fnOf "beads_led" "beads_led" (defArgs (topS 1)) (defBody (topS 1)) (defScope (topS 1)) .none kV0 dc0 pm0 an0 cd0 ct0), sl0⟩) (c0 : PySem.W.codeIn K cd0 "beads_led" = true) (k0 : PySem.W.keepIn K (.ref q0) = true)
    (a1 : PySem.W.nsIn K mainGlobals "turned_text" = some (some (.ref q1))) (l1 : K.lookup q1 = some ⟨oc1, od1, .func (PySem.W.fnOf "turned_text" "turned_text" (defArgs (topS 2)) (defBody (topS 2)) (defScope (topS 2)) .none kV1 dc1 pm1 an1 cd1 ct1), sl1⟩) (c1 : PySem.W.codeIn K cd1 "turned_text" = true) (k1 : PySem.W.keepIn K (.ref q1) = true)
    (a2 : PySem.W.nsIn K mainGlobals "turned_row" = some (some (.ref q2))) (l2 : K.lookup q2 = some ⟨oc2, od2, .func (PySem.W.fnOf "turned_row" "turned_row" (defArgs (topS 3)) (defBody (topS 3)) (defScope (topS 3)) .none kV2 dc2 pm2 an2 cd2 ct2), sl2⟩) (c2 : PySem.W.codeIn K cd2 "turned_row" = true) (k2 : PySem.W.keepIn K (.ref q2) = true)
    (a3 : PySem.W.nsIn K mainGlobals "turned" = some (some (.ref q3))) (l3 : K.lookup q3 = some ⟨oc3, od3, .func (PySem.W.fnOf "turned" "turned" (defArgs (topS 4)) (defBody (topS 4)) (defScope (topS 4)) .none kV3 dc3 pm3 an3 cd3 ct3), sl3⟩) (c3 : PySem.W.codeIn K cd3 "turned" = true) (k3 : PySem.W.keepIn K (.ref q3) = true)
    (a4 : PySem.W.nsIn K mainGlobals "turned_move" = some (some (.ref q4))) (l4 : K.lookup q4 = some ⟨oc4, od4, .func (PySem.W.fnOf "turned_move" "turned_move" (defArgs (topS 5)) (defBody (topS 5)) (defScope (topS 5)) .none kV4 dc4 pm4 an4 cd4 ct4), sl4⟩) (c4 : PySem.W.codeIn K cd4 "turned_move" = true) (k4 : PySem.W.keepIn K (.ref q4) = true)
    (a5 : PySem.W.nsIn K mainGlobals "_law_box" = some (some (.ref q5))) (l5 : K.lookup q5 = some ⟨oc5, od5, .func (PySem.W.fnOf "_law_box" "_law_box" (defArgs (topS 7)) (defBody (topS 7)) (defScope (topS 7)) .none kV5 dc5 pm5 an5 cd5 ct5), sl5⟩) (c5 : PySem.W.codeIn K cd5 "_law_box" = true) (k5 : PySem.W.keepIn K (.ref q5) = true)
    (a6 : PySem.W.nsIn K mainGlobals "_law_take" = some (some (.ref q6))) (l6 : K.lookup q6 = some ⟨oc6, od6, .func (PySem.W.fnOf "_law_take" "_law_take" (defArgs (topS 8)) (defBody (topS 8)) (defScope (topS 8)) .none kV6 dc6 pm6 an6 cd6 ct6), sl6⟩) (c6 : PySem.W.codeIn K cd6 "_law_take" = true) (k6 : PySem.W.keepIn K (.ref q6) = true)
    (a7 : PySem.W.nsIn K mainGlobals "_law_folded" = some (some (.ref q7))) (l7 : K.lookup q7 = some ⟨oc7, od7, .func (PySem.W.fnOf "_law_folded" "_law_folded" (defArgs (topS 9)) (defBody (topS 9)) (defScope (topS 9)) .none kV7 dc7 pm7 an7 cd7 ct7), sl7⟩) (c7 : PySem.W.codeIn K cd7 "_law_folded" = true) (k7 : PySem.W.keepIn K (.ref q7) = true)
    (a8 : PySem.W.nsIn K mainGlobals "_law_same" = some (some (.ref q8))) (l8 : K.lookup q8 = some ⟨oc8, od8, .func (PySem.W.fnOf "_law_same" "_law_same" (defArgs (topS 10)) (defBody (topS 10)) (defScope (topS 10)) .none kV8 dc8 pm8 an8 cd8 ct8), sl8⟩) (c8 : PySem.W.codeIn K cd8 "_law_same" = true) (k8 : PySem.W.keepIn K (.ref q8) = true)
    (a9 : PySem.W.nsIn K mainGlobals "_law_of" = some (some (.ref q9))) (l9 : K.lookup q9 = some ⟨oc9, od9, .func (PySem.W.fnOf "_law_of" "_law_of" (defArgs (topS 11)) (defBody (topS 11)) (defScope (topS 11)) .none kV9 dc9 pm9 an9 cd9 ct9), sl9⟩) (c9 : PySem.W.codeIn K cd9 "_law_of" = true) (k9 : PySem.W.keepIn K (.ref q9) = true)
    (a10 : PySem.W.nsIn K mainGlobals "_law_text" = some (some (.ref q10))) (l10 : K.lookup q10 = some ⟨oc10, od10, .func (PySem.W.fnOf "_law_text" "_law_text" (defArgs (topS 13)) (defBody (topS 13)) (defScope (topS 13)) .none kV10 dc10 pm10 an10 cd10 ct10), sl10⟩) (c10 : PySem.W.codeIn K cd10 "_law_text" = true) (k10 : PySem.W.keepIn K (.ref q10) = true)
    (a11 : PySem.W.nsIn K mainGlobals "_law_rules" = some (some (.ref q11))) (l11 : K.lookup q11 = some ⟨oc11, od11, .func (PySem.W.fnOf "_law_rules" "_law_rules" (defArgs (topS 14)) (defBody (topS 14)) (defScope (topS 14)) .none kV11 dc11 pm11 an11 cd11 ct11), sl11⟩) (c11 : PySem.W.codeIn K cd11 "_law_rules" = true) (k11 : PySem.W.keepIn K (.ref q11) = true)
    (a12 : PySem.W.nsIn K mainGlobals "_law_ends" = some (some (.ref q12))) (l12 : K.lookup q12 = some ⟨oc12, od12, .func (PySem.W.fnOf "_law_ends" "_law_ends" (defArgs (topS 15)) (defBody (topS 15)) (defScope (topS 15)) .none kV12 dc12 pm12 an12 cd12 ct12), sl12⟩) (c12 : PySem.W.codeIn K cd12 "_law_ends" = true) (k12 : PySem.W.keepIn K (.ref q12) = true)
    (a13 : PySem.W.nsIn K mainGlobals "_law_any_game" = some (some (.ref q13))) (l13 : K.lookup q13 = some ⟨oc13, od13, .func (PySem.W.fnOf "_law_any_game" "_law_any_game" (defArgs (topS 16)) (defBody (topS 16)) (defScope (topS 16)) .none kV13 dc13 pm13 an13 cd13 ct13), sl13⟩) (c13 : PySem.W.codeIn K cd13 "_law_any_game" = true) (k13 : PySem.W.keepIn K (.ref q13) = true)
    (a14 : PySem.W.nsIn K mainGlobals "_law_turned_text" = some (some (.ref q14))) (l14 : K.lookup q14 = some ⟨oc14, od14, .func (PySem.W.fnOf "_law_turned_text" "_law_turned_text" (defArgs (topS 17)) (defBody (topS 17)) (defScope (topS 17)) .none kV14 dc14 pm14 an14 cd14 ct14), sl14⟩) (c14 : PySem.W.codeIn K cd14 "_law_turned_text" = true) (k14 : PySem.W.keepIn K (.ref q14) = true)
    (a15 : PySem.W.nsIn K mainGlobals "_law_any_standing" = some (some (.ref q15))) (l15 : K.lookup q15 = some ⟨oc15, od15, .func (PySem.W.fnOf "_law_any_standing" "_law_any_standing" (defArgs (topS 18)) (defBody (topS 18)) (defScope (topS 18)) .none kV15 dc15 pm15 an15 cd15 ct15), sl15⟩) (c15 : PySem.W.codeIn K cd15 "_law_any_standing" = true) (k15 : PySem.W.keepIn K (.ref q15) = true)
    (a16 : PySem.W.nsIn K mainGlobals "_law_beads_at" = some (some (.ref q16))) (l16 : K.lookup q16 = some ⟨oc16, od16, .func (PySem.W.fnOf "_law_beads_at" "_law_beads_at" (defArgs (topS 19)) (defBody (topS 19)) (defScope (topS 19)) .none kV16 dc16 pm16 an16 cd16 ct16), sl16⟩) (c16 : PySem.W.codeIn K cd16 "_law_beads_at" = true) (k16 : PySem.W.keepIn K (.ref q16) = true)
    (a17 : PySem.W.nsIn K mainGlobals "_law_spots" = some (some (.ref q17))) (l17 : K.lookup q17 = some ⟨oc17, od17, .func (PySem.W.fnOf "_law_spots" "_law_spots" (defArgs (topS 20)) (defBody (topS 20)) (defScope (topS 20)) .none kV17 dc17 pm17 an17 cd17 ct17), sl17⟩) (c17 : PySem.W.codeIn K cd17 "_law_spots" = true) (k17 : PySem.W.keepIn K (.ref q17) = true)
    (a18 : PySem.W.nsIn K mainGlobals "_law_steps_of" = some (some (.ref q18))) (l18 : K.lookup q18 = some ⟨oc18, od18, .func (PySem.W.fnOf "_law_steps_of" "_law_steps_of" (defArgs (topS 21)) (defBody (topS 21)) (defScope (topS 21)) .none kV18 dc18 pm18 an18 cd18 ct18), sl18⟩) (c18 : PySem.W.codeIn K cd18 "_law_steps_of" = true) (k18 : PySem.W.keepIn K (.ref q18) = true)
    (a19 : PySem.W.nsIn K mainGlobals "_law_behind" = some (some (.ref q19))) (l19 : K.lookup q19 = some ⟨oc19, od19, .func (PySem.W.fnOf "_law_behind" "_law_behind" (defArgs (topS 24)) (defBody (topS 24)) (defScope (topS 24)) .none kV19 dc19 pm19 an19 cd19 ct19), sl19⟩) (c19 : PySem.W.codeIn K cd19 "_law_behind" = true) (k19 : PySem.W.keepIn K (.ref q19) = true)
    (a20 : PySem.W.nsIn K mainGlobals "_law_led_place" = some (some (.ref q20))) (l20 : K.lookup q20 = some ⟨oc20, od20, .func (PySem.W.fnOf "_law_led_place" "_law_led_place" (defArgs (topS 25)) (defBody (topS 25)) (defScope (topS 25)) .none kV20 dc20 pm20 an20 cd20 ct20), sl20⟩) (c20 : PySem.W.codeIn K cd20 "_law_led_place" = true) (k20 : PySem.W.keepIn K (.ref q20) = true)
    (a21 : PySem.W.nsIn K mainGlobals "_law_led_beads" = some (some (.ref q21))) (l21 : K.lookup q21 = some ⟨oc21, od21, .func (PySem.W.fnOf "_law_led_beads" "_law_led_beads" (defArgs (topS 26)) (defBody (topS 26)) (defScope (topS 26)) .none kV21 dc21 pm21 an21 cd21 ct21), sl21⟩) (c21 : PySem.W.codeIn K cd21 "_law_led_beads" = true) (k21 : PySem.W.keepIn K (.ref q21) = true)
    (a22 : PySem.W.nsIn K mainGlobals "_law_led" = some (some (.ref q22))) (l22 : K.lookup q22 = some ⟨oc22, od22, .func (PySem.W.fnOf "_law_led" "_law_led" (defArgs (topS 27)) (defBody (topS 27)) (defScope (topS 27)) .none kV22 dc22 pm22 an22 cd22 ct22), sl22⟩) (c22 : PySem.W.codeIn K cd22 "_law_led" = true) (k22 : PySem.W.keepIn K (.ref q22) = true)
    (a23 : PySem.W.nsIn K mainGlobals "_law_led_step" = some (some (.ref q23))) (l23 : K.lookup q23 = some ⟨oc23, od23, .func (PySem.W.fnOf "_law_led_step" "_law_led_step" (defArgs (topS 28)) (defBody (topS 28)) (defScope (topS 28)) .none kV23 dc23 pm23 an23 cd23 ct23), sl23⟩) (c23 : PySem.W.codeIn K cd23 "_law_led_step" = true) (k23 : PySem.W.keepIn K (.ref q23) = true)
    (a24 : PySem.W.nsIn K mainGlobals "_law_any_way" = some (some (.ref q24))) (l24 : K.lookup q24 = some ⟨oc24, od24, .func (PySem.W.fnOf "_law_any_way" "_law_any_way" (defArgs (topS 29)) (defBody (topS 29)) (defScope (topS 29)) .none kV24 dc24 pm24 an24 cd24 ct24), sl24⟩) (c24 : PySem.W.codeIn K cd24 "_law_any_way" = true) (k24 : PySem.W.keepIn K (.ref q24) = true)
    (a25 : PySem.W.nsIn K mainGlobals "_law_way_right" = some (some (.ref q25))) (l25 : K.lookup q25 = some ⟨oc25, od25, .func (PySem.W.fnOf "_law_way_right" "_law_way_right" (defArgs (topS 30)) (defBody (topS 30)) (defScope (topS 30)) .none kV25 dc25 pm25 an25 cd25 ct25), sl25⟩) (c25 : PySem.W.codeIn K cd25 "_law_way_right" = true) (k25 : PySem.W.keepIn K (.ref q25) = true)
    (a26 : PySem.W.nsIn K mainGlobals "_law_lists" = some (some (.ref q26))) (l26 : K.lookup q26 = some ⟨oc26, od26, .func (PySem.W.fnOf "_law_lists" "_law_lists" (defArgs (topS 31)) (defBody (topS 31)) (defScope (topS 31)) .none kV26 dc26 pm26 an26 cd26 ct26), sl26⟩) (c26 : PySem.W.codeIn K cd26 "_law_lists" = true) (k26 : PySem.W.keepIn K (.ref q26) = true)
    (a27 : PySem.W.nsIn K mainGlobals "_law_right" = some (some (.ref q27))) (l27 : K.lookup q27 = some ⟨oc27, od27, .func (PySem.W.fnOf "_law_right" "_law_right" (defArgs (topS 32)) (defBody (topS 32)) (defScope (topS 32)) .none kV27 dc27 pm27 an27 cd27 ct27), sl27⟩) (c27 : PySem.W.codeIn K cd27 "_law_right" = true) (k27 : PySem.W.keepIn K (.ref q27) = true)
    (a28 : PySem.W.nsIn K mainGlobals "law" = some (some (.ref q28))) (l28 : K.lookup q28 = some ⟨oc28, od28, .func (PySem.W.fnOf "law" "law" (defArgs (topS 33)) (defBody (topS 33)) (defScope (topS 33)) .none kV28 dc28 pm28 an28 cd28 ct28), sl28⟩) (c28 : PySem.W.codeIn K cd28 "law" = true) (k28 : PySem.W.keepIn K (.ref q28) = true)
    (z0 : PySem.W.nsIn K mainGlobals "len" = some none) (z1 : PySem.W.nsIn K mainGlobals "abs" = some none) (z2 : PySem.W.nsIn K mainGlobals "min" = some none) (z3 : PySem.W.nsIn K mainGlobals "max" = some none) (z4 : PySem.W.nsIn K mainGlobals "int" = some none) (z5 : PySem.W.nsIn K mainGlobals "divmod" = some none) (z6 : PySem.W.nsIn K mainGlobals "all" = some none) (z7 : PySem.W.nsIn K mainGlobals "any" = some none) (z8 : PySem.W.nsIn K mainGlobals "sum" = some none) (z9 : PySem.W.nsIn K mainGlobals "sorted" = some none) (z10 : PySem.W.nsIn K mainGlobals "list" = some none) (z11 : PySem.W.nsIn K mainGlobals "tuple" = some none) (z12 : PySem.W.nsIn K mainGlobals "repr" = some none) (z13 : PySem.W.nsIn K mainGlobals "isinstance" = some none) (z14 : PySem.W.nsIn K mainGlobals "dict" = some none) (z15 : PySem.W.nsIn K mainGlobals "zip" = some none) (z16 : PySem.W.nsIn K mainGlobals "range" = some none) (z17 : PySem.W.nsIn K mainGlobals "enumerate" = some none) (z18 : PySem.W.nsIn K mainGlobals "str" = some none) (z19 : PySem.W.nsIn K mainGlobals "bool" = some none)
    : DefsOk K mg fnsN globsN progF ∧ NonesOk mg bltNames ∧ GlobsOk mg globsN globF :=
  ⟨⟨def_mk X G rfl tx0 (fun _ _ _ _ _ _ us hl => match us, hl with | [_, _, _], _ => rfl) a0 l0 c0 k0,
    def_mk X G rfl tx1 (fun _ _ _ _ _ _ us hl => match us, hl with | [_, _, _], _ => rfl) a1 l1 c1 k1,
    def_mk X G rfl tx2 (fun _ _ _ _ _ _ us hl => match us, hl with | [_, _, _], _ => rfl) a2 l2 c2 k2,
    def_mk X G rfl tx3 (fun _ _ _ _ _ _ us hl => match us, hl with | [_, _, _], _ => rfl) a3 l3 c3 k3,
    def_mk X G rfl tx4 (fun _ _ _ _ _ _ us hl => match us, hl with | [_, _, _], _ => rfl) a4 l4 c4 k4,
    def_mk X G rfl tx5 (fun _ _ _ _ _ _ us hl => match us, hl with | [_, _], _ => rfl) a5 l5 c5 k5,
    def_mk X G rfl tx6 (fun _ _ _ _ _ _ us hl => match us, hl with | [_, _], _ => rfl) a6 l6 c6 k6,
    def_mk X G rfl tx7 (fun _ _ _ _ _ _ us hl => match us, hl with | [_, _], _ => rfl) a7 l7 c7 k7,
    def_mk X G rfl tx8 (fun _ _ _ _ _ _ us hl => match us, hl with | [_, _], _ => rfl) a8 l8 c8 k8,
    def_mk X G rfl tx9 (fun _ _ _ _ _ _ us hl => match us, hl with | [_, _], _ => rfl) a9 l9 c9 k9,
    def_mk X G rfl tx10 (fun _ _ _ _ _ _ us hl => match us, hl with | [_, _, _], _ => rfl) a10 l10 c10 k10,
    def_mk X G rfl tx11 (fun _ _ _ _ _ _ us hl => match us, hl with | [_, _, _], _ => rfl) a11 l11 c11 k11,
    def_mk X G rfl tx12 (fun _ _ _ _ _ _ us hl => match us, hl with | [_, _, _], _ => rfl) a12 l12 c12 k12,
    def_mk X G rfl tx13 (fun _ _ _ _ _ _ us hl => match us, hl with | [_, _, _], _ => rfl) a13 l13 c13 k13,
    def_mk X G rfl tx14 (fun _ _ _ _ _ _ us hl => match us, hl with | [_, _], _ => rfl) a14 l14 c14 k14,
    def_mk X G rfl tx15 (fun _ _ _ _ _ _ us hl => match us, hl with | [_, _], _ => rfl) a15 l15 c15 k15,
    def_mk X G rfl tx16 (fun _ _ _ _ _ _ us hl => match us, hl with | [_, _, _, _], _ => rfl) a16 l16 c16 k16,
    def_mk X G rfl tx17 (fun _ _ _ _ _ _ us hl => match us, hl with | [_, _, _], _ => rfl) a17 l17 c17 k17,
    def_mk X G rfl tx18 (fun _ _ _ _ _ _ us hl => match us, hl with | [_, _], _ => rfl) a18 l18 c18 k18,
    def_mk X G rfl tx19 (fun _ _ _ _ _ _ us hl => match us, hl with | [_, _, _], _ => rfl) a19 l19 c19 k19,
    def_mk X G rfl tx20 (fun _ _ _ _ _ _ us hl => match us, hl with | [_, _, _], _ => rfl) a20 l20 c20 k20,
    def_mk X G rfl tx21 (fun _ _ _ _ _ _ us hl => match us, hl with | [_, _, _], _ => rfl) a21 l21 c21 k21,
    def_mk X G rfl tx22 (fun _ _ _ _ _ _ us hl => match us, hl with | [_, _, _], _ => rfl) a22 l22 c22 k22,
    def_mk X G rfl tx23 (fun _ _ _ _ _ _ us hl => match us, hl with | [_, _, _], _ => rfl) a23 l23 c23 k23,
    def_mk X G rfl tx24 (fun _ _ _ _ _ _ us hl => match us, hl with | [_, _], _ => rfl) a24 l24 c24 k24,
    def_mk X G rfl tx25 (fun _ _ _ _ _ _ us hl => match us, hl with | [_, _, _], _ => rfl) a25 l25 c25 k25,
    def_mk X G rfl tx26 (fun _ _ _ _ _ _ us hl => match us, hl with | [_], _ => rfl) a26 l26 c26 k26,
    def_mk X G rfl tx27 (fun _ _ _ _ _ _ us hl => match us, hl with | [_], _ => rfl) a27 l27 c27 k27,
    def_mk X G rfl tx28 (fun _ _ _ _ _ _ us hl => match us, hl with | [_], _ => rfl) a28 l28 c28 k28, trivial⟩,
   ⟨PySem.W.mg_none_of X G z0, PySem.W.mg_none_of X G z1, PySem.W.mg_none_of X G z2, PySem.W.mg_none_of X G z3, PySem.W.mg_none_of X G z4, PySem.W.mg_none_of X G z5, PySem.W.mg_none_of X G z6, PySem.W.mg_none_of X G z7, PySem.W.mg_none_of X G z8, PySem.W.mg_none_of X G z9, PySem.W.mg_none_of X G z10, PySem.W.mg_none_of X G z11, PySem.W.mg_none_of X G z12, PySem.W.mg_none_of X G z13, PySem.W.mg_none_of X G z14, PySem.W.mg_none_of X G z15, PySem.W.mg_none_of X G z16, PySem.W.mg_none_of X G z17, PySem.W.mg_none_of X G z18, PySem.W.mg_none_of X G z19, trivial⟩,
   trivial⟩
end K56
open PySem PySem.W PyProof.Rows
set_option maxHeartbeats 0 in
theorem PySem.Challenge.cw_solvedplay_k56_turned_standings_and_move_holds : PySem.Challenge.rw_solvedplay_k56_turned_standings_and_move.Holds := by
  w_on; o_law; k_head; (case hw => w_witness2)
  k_fill
  refine SP.walkG (l := PySem.Challenge.rw_solvedplay_k56_turned_standings_and_move) (n := 20) (f := 28) (Pd := K56.progF) (Gv := K56.globF) (globs := K56.globsN) (df := K56.f_law) rfl rfl ⟨rfl, by decide, by decide⟩ (fun w h Y => PySem.W.kIn_of Y) rfl rfl rfl ?F K56.lawful
  case F =>
    intro w mg h KX G
    refine' K56.all_mk KX G ?a0 ?l0 ?c0 ?k0 ?a1 ?l1 ?c1 ?k1 ?a2 ?l2 ?c2 ?k2 ?a3 ?l3 ?c3 ?k3 ?a4 ?l4 ?c4 ?k4 ?a5 ?l5 ?c5 ?k5 ?a6 ?l6 ?c6 ?k6 ?a7 ?l7 ?c7 ?k7 ?a8 ?l8 ?c8 ?k8 ?a9 ?l9 ?c9 ?k9 ?a10 ?l10 ?c10 ?k10 ?a11 ?l11 ?c11 ?k11 ?a12 ?l12 ?c12 ?k12 ?a13 ?l13 ?c13 ?k13 ?a14 ?l14 ?c14 ?k14 ?a15 ?l15 ?c15 ?k15 ?a16 ?l16 ?c16 ?k16 ?a17 ?l17 ?c17 ?k17 ?a18 ?l18 ?c18 ?k18 ?a19 ?l19 ?c19 ?k19 ?a20 ?l20 ?c20 ?k20 ?a21 ?l21 ?c21 ?k21 ?a22 ?l22 ?c22 ?k22 ?a23 ?l23 ?c23 ?k23 ?a24 ?l24 ?c24 ?k24 ?a25 ?l25 ?c25 ?k25 ?a26 ?l26 ?c26 ?k26 ?a27 ?l27 ?c27 ?k27 ?a28 ?l28 ?c28 ?k28 ?z0 ?z1 ?z2 ?z3 ?z4 ?z5 ?z6 ?z7 ?z8 ?z9 ?z10 ?z11 ?z12 ?z13 ?z14 ?z15 ?z16 ?z17 ?z18 ?z19
    (case a0 => k_is); (case l0 => k_is); (case c0 => k_is); (case k0 => k_is); (case a1 => k_is); (case l1 => k_is); (case c1 => k_is); (case k1 => k_is)
    (case a2 => k_is); (case l2 => k_is); (case c2 => k_is); (case k2 => k_is); (case a3 => k_is); (case l3 => k_is); (case c3 => k_is); (case k3 => k_is)
    (case a4 => k_is); (case l4 => k_is); (case c4 => k_is); (case k4 => k_is); (case a5 => k_is); (case l5 => k_is); (case c5 => k_is); (case k5 => k_is)
    (case a6 => k_is); (case l6 => k_is); (case c6 => k_is); (case k6 => k_is); (case a7 => k_is); (case l7 => k_is); (case c7 => k_is); (case k7 => k_is)
    (case a8 => k_is); (case l8 => k_is); (case c8 => k_is); (case k8 => k_is); (case a9 => k_is); (case l9 => k_is); (case c9 => k_is); (case k9 => k_is)
    (case a10 => k_is); (case l10 => k_is); (case c10 => k_is); (case k10 => k_is); (case a11 => k_is); (case l11 => k_is); (case c11 => k_is); (case k11 => k_is)
    (case a12 => k_is); (case l12 => k_is); (case c12 => k_is); (case k12 => k_is); (case a13 => k_is); (case l13 => k_is); (case c13 => k_is); (case k13 => k_is)
    (case a14 => k_is); (case l14 => k_is); (case c14 => k_is); (case k14 => k_is); (case a15 => k_is); (case l15 => k_is); (case c15 => k_is); (case k15 => k_is)
    (case a16 => k_is); (case l16 => k_is); (case c16 => k_is); (case k16 => k_is); (case a17 => k_is); (case l17 => k_is); (case c17 => k_is); (case k17 => k_is)
    (case a18 => k_is); (case l18 => k_is); (case c18 => k_is); (case k18 => k_is); (case a19 => k_is); (case l19 => k_is); (case c19 => k_is); (case k19 => k_is)
    (case a20 => k_is); (case l20 => k_is); (case c20 => k_is); (case k20 => k_is); (case a21 => k_is); (case l21 => k_is); (case c21 => k_is); (case k21 => k_is)
    (case a22 => k_is); (case l22 => k_is); (case c22 => k_is); (case k22 => k_is); (case a23 => k_is); (case l23 => k_is); (case c23 => k_is); (case k23 => k_is)
    (case a24 => k_is); (case l24 => k_is); (case c24 => k_is); (case k24 => k_is); (case a25 => k_is); (case l25 => k_is); (case c25 => k_is); (case k25 => k_is)
    (case a26 => k_is); (case l26 => k_is); (case c26 => k_is); (case k26 => k_is); (case a27 => k_is); (case l27 => k_is); (case c27 => k_is); (case k27 => k_is)
    (case a28 => k_is); (case l28 => k_is); (case c28 => k_is); (case k28 => k_is); (case z0 => k_is); (case z1 => k_is); (case z2 => k_is); (case z3 => k_is)
    (case z4 => k_is); (case z5 => k_is); (case z6 => k_is); (case z7 => k_is); (case z8 => k_is); (case z9 => k_is); (case z10 => k_is); (case z11 => k_is)
    (case z12 => k_is); (case z13 => k_is); (case z14 => k_is); (case z15 => k_is); (case z16 => k_is); (case z17 => k_is); (case z18 => k_is); (case z19 => k_is)
end
