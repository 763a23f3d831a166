import PyProof.Rows.All
import Wide.All
import OpenK.AllK
import Wide.FinOn
import HandS.ForMost
import HandS.ForExc
import HandS.Conv
import HandS.TupAny
import HandS.TupMul
import HandS.Deep
import HandS.NoneIn
import HandS.IsInst
import HandS.Zip
import HandS.SortInts
import HandS.Strs
import HandS.Style
import HandS.More
import KE.GoesZip
import KE.GoesMore
import PySem.Challenge.RW_threesides_k03_first_lies
set_option Elab.async false
set_option linter.all false
set_option maxRecDepth 100000
set_option maxHeartbeats 8000000
/-! A small interpreter of the part of Python that the program and the laws use: values as trees, mutable objects in a local heap of each call. Plain Lean. -/
namespace PI

/-- values: a frozen list or dict is a tree; a mutable one is a place in the local heap. ftup: a tuple that is known as an object, too -/
inductive Val where
  | non | bl (b : Bool) | int (i : Int) | str (s : List Nat)
  | tup (xs : List Val) | ftup (xs : List Val) | lst (xs : List Val) | dct (t : Bool) (ks vs : List Val)
  | ref (l : Nat) | fn (f : Nat) | exc (c : Nat)
  deriving Inhabited

inductive Ob where
  | lst (xs : List Val) | dct (t : Bool) (ks vs : List Val) | ins (c : Nat) (fs : List (Nat × Val)) | dead
  deriving Inhabited

abbrev LH := List Ob
abbrev Env := List (Option Val)

inductive R (α : Type) where
  | ok (a : α) (h : LH) | exc (c : Nat) (h : LH) | err

def R.bind {α β : Type} : R α → (α → LH → R β) → R β
  | .ok a h, f => f a h
  | .exc c h, _ => .exc c h
  | .err, _ => .err

def optR {α : Type} (h : LH) : Option α → R α
  | some a => .ok a h
  | none => .err

def onT {α : Type} : Val → (List Val → R α) → R α
  | .tup l, f => f l
  | _, _ => .err
def onB {α : Type} : Val → R α → R α → R α
  | .bl true, p, _ => p
  | .bl false, _, q => q
  | _, _, _ => .err
section
variable {α β : Type}
@[simp] theorem R.bind_ok (a : α) (h : LH) (f : α → LH → R β) : (R.ok a h).bind f = f a h := rfl
@[simp] theorem R.bind_exc (c : Nat) (h : LH) (f : α → LH → R β) : (R.exc c h).bind f = .exc c h := rfl
@[simp] theorem R.bind_err (f : α → LH → R β) : (R.err : R α).bind f = .err := rfl
@[simp] theorem optR_some (h : LH) (a : α) : optR h (some a) = .ok a h := rfl
@[simp] theorem optR_none (h : LH) : optR h (none : Option α) = .err := rfl
@[simp] theorem onT_tup (l : List Val) (f : List Val → R α) : onT (.tup l) f = f l := rfl
@[simp] theorem onB_true (p q : R α) : onB (.bl true) p q = p := rfl
@[simp] theorem onB_false (p q : R α) : onB (.bl false) p q = q := rfl
end
/-! ### values -/
mutual
def noRef : Val → Bool
  | .tup xs => noRefs xs
  | .ftup xs => noRefs xs
  | .lst xs => noRefs xs
  | .dct _ ks vs => noRefs ks && noRefs vs
  | .ref _ => false
  | _ => true
def noRefs : List Val → Bool
  | [] => true
  | x :: xs => noRef x && noRefs xs
end
mutual
/-- plain data: what == asks of -/
def isData : Val → Bool
  | .non => true
  | .bl _ => true
  | .int _ => true
  | .str s => s.all fun c => decide (c < 1114112)
  | .tup xs => isDatas xs
  | .ftup xs => isDatas xs
  | .lst xs => isDatas xs
  | _ => false
def isDatas : List Val → Bool
  | [] => true
  | x :: xs => isData x && isDatas xs
end
mutual
def veq : Val → Val → Bool
  | .non, .non => true
  | .bl a, .bl b => a == b
  | .bl a, .int b => (if a then 1 else 0) == b
  | .int a, .bl b => a == (if b then 1 else 0)
  | .int a, .int b => a == b
  | .str a, .str b => a == b
  | .tup a, .tup b => veqs a b
  | .tup a, .ftup b => veqs a b
  | .ftup a, .tup b => veqs a b
  | .ftup a, .ftup b => veqs a b
  | .lst a, .lst b => veqs a b
  | _, _ => false
def veqs : List Val → List Val → Bool
  | [], [] => true
  | x :: xs, y :: ys => veq x y && veqs xs ys
  | _, _ => false
end
mutual
def vdepth : Val → Nat
  | .tup xs => vdepths xs + 1
  | .ftup xs => vdepths xs + 1
  | .lst xs => vdepths xs + 1
  | _ => 0
def vdepths : List Val → Nat
  | [] => 0
  | x :: xs => max (vdepth x) (vdepths xs)
end
mutual
/-- the very same tree -/
def vsame : Val → Val → Bool
  | .non, .non => true
  | .bl a, .bl b => a == b
  | .int a, .int b => a == b
  | .str a, .str b => a == b
  | .tup a, .tup b => vsames a b
  | .ftup a, .ftup b => vsames a b
  | .lst a, .lst b => vsames a b
  | .dct s a a', .dct t b b' => s == t && vsames a b && vsames a' b'
  | .ref a, .ref b => a == b
  | .fn a, .fn b => a == b
  | .exc a, .exc b => a == b
  | _, _ => false
def vsames : List Val → List Val → Bool
  | [], [] => true
  | x :: xs, y :: ys => vsame x y && vsames xs ys
  | _, _ => false
end
mutual
def mapRef (f : Nat → Nat) : Val → Val
  | .tup xs => .tup (mapRefs f xs)
  | .ftup xs => .ftup (mapRefs f xs)
  | .lst xs => .lst (mapRefs f xs)
  | .dct t ks vs => .dct t (mapRefs f ks) (mapRefs f vs)
  | .ref l => .ref (f l)
  | v => v
def mapRefs (f : Nat → Nat) : List Val → List Val
  | [] => []
  | x :: xs => mapRef f x :: mapRefs f xs
end
mutual
def refsOf : Val → List Nat
  | .tup xs => refsOfs xs
  | .ftup xs => refsOfs xs
  | .lst xs => refsOfs xs
  | .dct _ ks vs => refsOfs ks ++ refsOfs vs
  | .ref l => [l]
  | _ => []
def refsOfs : List Val → List Nat
  | [] => []
  | x :: xs => refsOf x ++ refsOfs xs
end
def objRefs : Ob → List Nat
  | .lst xs => refsOfs xs
  | .dct _ ks vs => refsOfs ks ++ refsOfs vs
  | .ins _ fs => refsOfs (fs.map (·.2))
  | .dead => []
def mapObj (f : Nat → Nat) : Ob → Ob
  | .lst xs => .lst (mapRefs f xs)
  | .dct t ks vs => .dct t (mapRefs f ks) (mapRefs f vs)
  | .ins c fs => .ins c (fs.map fun p => (p.1, mapRef f p.2))
  | .dead => .dead

/-- the largest length of a list -/
abbrev SL : Nat := 16777216

/-- what may be compared: data, or a mutable list of data -/
def asData (h : LH) : Val → Option Val
  | .ref l => match h[l]? with
    | some (.lst xs) => if isDatas xs then some (.lst xs) else none
    | _ => none
  | v => if isData v then some v else none
@[simp] def asList (h : LH) : Val → Option (List Val)
  | .lst xs => some xs
  | .ref l => match h[l]? with
    | some (.lst xs) => some xs
    | _ => none
  | _ => none
@[simp] def asSeq (h : LH) : Val → Option (List Val)
  | .lst xs => some xs
  | .tup xs => some xs
  | .ftup xs => some xs
  | .ref l => match h[l]? with
    | some (.lst xs) => some xs
    | _ => none
  | _ => none
@[simp] def asDict (h : LH) : Val → Option (Bool × List Val × List Val)
  | .dct t ks vs => some (t, ks, vs)
  | .ref l => match h[l]? with
    | some (.dct t ks vs) => some (t, ks, vs)
    | _ => none
  | _ => none
/-- the value under a key -/
def dget (k : Val) : List Val → List Val → Option Val
  | x :: ks, v :: vs => if veq x k then some v else dget k ks vs
  | _, _ => none
def dhas (k : Val) (ks : List Val) : Bool := ks.any fun x => veq x k
def drepl (k v : Val) : List Val → List Val → List Val
  | x :: ks, w :: vs => (if veq x k then v else w) :: drepl k v ks vs
  | _, vs => vs
def keyBase : Val → Bool
  | .int _ => true
  | .str _ => true
  | _ => false
/-- a key: an int, a text -/
def keyK : Val → Bool := keyBase
/-- a key: a tuple of such -/
def keyT : Val → Bool
  | .tup xs => xs.all keyBase
  | _ => false
/-- a key of a dict of the one kind or the other -/
def keyOf (t : Bool) (k : Val) : Bool := if t then keyT k else keyK k

@[simp] def mkL (m : Bool) (xs : List Val) (h : LH) : R Val :=
  if xs.length ≤ SL then (if m then .ok (.ref h.length) (h ++ [.lst xs]) else .ok (.lst xs) h) else .err

/-! ### operators -/
inductive Bop | add | sub | mul | div | mod | pow
inductive Cop | eq | ne | lt | le | gt | ge | isIn | notIn | isC (neg : Bool)

def mulOk (i j : Int) : Bool := (decide (-18446744073709551616 < i) && decide (i < 18446744073709551616)) || (decide (-18446744073709551616 < j) && decide (j < 18446744073709551616))
@[simp] def binop (m : Bool) (op : Bop) (a b : Val) (h : LH) : R Val :=
  match op with
  | .add => match a, b with
    | .int i, .int j => .ok (.int (i + j)) h
    | .str s, .str t => if s.length + t.length ≤ SL then .ok (.str (s ++ t)) h else .err
    | .tup s, .tup t => if s.length + t.length ≤ SL then .ok (.tup (s ++ t)) h else .err
    | _, _ => match asList h a, asList h b with
      | some s, some t => mkL m (s ++ t) h
      | _, _ => .err
  | .sub => match a, b with
    | .int i, .int j => .ok (.int (i - j)) h
    | _, _ => .err
  | .mul => match a, b with
    | .int i, .int j => if mulOk i j then .ok (.int (i * j)) h else .err
    | .tup s, .int k => if 2 ≤ k ∧ k ≤ 1000 ∧ s.length ≤ 1000 ∧ s ≠ [] then .ok (.tup (List.replicate k.toNat s).flatten) h else .err
    | _, .int k => match asList h a with
      | some s => if -9223372036854775808 ≤ k ∧ k < 9223372036854775808 ∧ s.length * k.toNat ≤ SL then mkL m (List.replicate k.toNat s).flatten h else .err
      | _ => .err
    | _, _ => .err
  | .div => match a, b with
    | .int i, .int j => if 0 < j ∧ j < 1073741824 then .ok (.int (i / j)) h else .err
    | _, _ => .err
  | .mod => match a, b with
    | .int i, .int j => if 0 < j then .ok (.int (i % j)) h else .err
    | _, _ => .err
  | .pow => match a, b with
    | .int i, .int j => if 0 ≤ j ∧ j ≤ 1000 ∧ i.natAbs < 18446744073709551616 then .ok (.int (i ^ j.toNat)) h else .err
    | _, _ => .err

instance : DecidableEq (List Nat) := inferInstance
@[simp] def isConst : Val → Val → Option Bool
  | .non, .non => some true
  | .bl a, .bl b => some (a == b)
  | .ref _, _ => none
  | .fn _, _ => none
  | .exc _, _ => none
  | _, .non => some false
  | _, .bl _ => none
  | _, _ => none
@[simp] def cmpop (op : Cop) (a b : Val) (h : LH) : Option Bool :=
  match op with
  | .eq => match asData h a, asData h b with
    | some x, some y => if vdepth x ≤ 60 ∧ vdepth y ≤ 60 then some (veq x y) else none
    | _, _ => none
  | .ne => match asData h a, asData h b with
    | some x, some y => if vdepth x ≤ 60 ∧ vdepth y ≤ 60 then some (!veq x y) else none
    | _, _ => none
  | .lt => match a, b with
    | .int i, .int j => some (decide (i < j))
    | _, _ => none
  | .le => match a, b with
    | .int i, .int j => some (decide (i ≤ j))
    | _, _ => none
  | .gt => match a, b with
    | .int i, .int j => some (decide (j < i))
    | _, _ => none
  | .ge => match a, b with
    | .int i, .int j => some (decide (j ≤ i))
    | _, _ => none
  | .isIn => isIn a b h
  | .notIn => (isIn a b h).map (!·)
  | .isC neg => (isConst a b).map (fun r => if neg then !r else r)
where
  isIn (a b : Val) (h : LH) : Option Bool := match b with
    | .dct t ks vs => if keyOf t a then some (dget a ks vs).isSome else none
    | .str t => match a with
      | .str [c] => some (t.contains c)
      | _ => none
    | .ref l => match h[l]? with
      | some (.dct t ks vs) => if keyOf t a then some (dget a ks vs).isSome else none
      | some (.lst xs) => if isData a ∧ isDatas xs ∧ vdepth a ≤ 60 ∧ vdepths xs ≤ 59 then some (xs.any fun z => veq z a) else none
      | _ => none
    | .lst xs => if isData a ∧ isDatas xs ∧ vdepth a ≤ 60 ∧ vdepths xs ≤ 59 then some (xs.any fun z => veq z a) else none
    | .tup xs => if isData a ∧ isDatas xs ∧ vdepth a ≤ 60 ∧ vdepths xs ≤ 59 then some (xs.any fun z => veq z a) else none
    | .ftup xs => if isData a ∧ isDatas xs ∧ vdepth a ≤ 60 ∧ vdepths xs ≤ 59 then some (xs.any fun z => veq z a) else none
    | _ => none

/-- the place that an index of any sign means -/
def ixN (n : Nat) (i : Int) : Option Nat := if 0 ≤ i then (if i < n then some i.toNat else none) else if -(n : Int) ≤ i then some (i + n).toNat else none
def getIx (a i : Val) (h : LH) : Option Val :=
  match asDict h a with
  | some (t, ks, vs) => if keyOf t i then dget i ks vs else none
  | none => match i with
    | .int k => match a with
      | .str s => if s.length ≤ SL then (ixN s.length k).bind fun j => (s[j]?).map fun c => .str [c] else none
      | _ => (asSeq h a).bind fun xs => (ixN xs.length k).bind fun j => xs[j]?
    | _ => none
/-- a slice's ends -/
def sIx (n d : Nat) : Option Int → Nat
  | none => d
  | some v => if v < 0 then (v + (n : Int)).toNat else min v.toNat n
def cutL {α : Type} (xs : List α) (lo hi : Option Int) : List α := (xs.drop (sIx xs.length 0 lo)).take (sIx xs.length xs.length hi - sIx xs.length 0 lo)
@[simp] def slice (m : Bool) (a : Val) (lo hi : Option Int) (h : LH) : R Val :=
  match a with
  | .str s => if s.length ≤ SL then .ok (.str (cutL s lo hi)) h else .err
  | .tup xs => .ok (.tup (cutL xs lo hi)) h
  | .ftup xs => if sIx xs.length 0 lo = 0 ∧ sIx xs.length xs.length hi = xs.length then .err else .ok (.tup (cutL xs lo hi)) h
  | _ => match asList h a with
    | some xs => mkL m (cutL xs lo hi) h
    | none => .err
def revL (m : Bool) (a : Val) (h : LH) : R Val :=
  match asList h a with
  | some xs => mkL m xs.reverse h
  | none => .err

/-! ### built-in functions -/
inductive Bi
  | len | list | tuple | anyL | allL | sum | minL | maxL | max2 | min2 | abs | int | sorted | isinst (ks : List Nat) | lenSet | str1 | range | rangeL1 | rangeL2 | dictZip | dictL | sortedSet
/-- the kinds that isinstance is asked of: 0 int, 1 bool, 2 tuple, 3 list, 4 str -/
@[simp] def isKind (h : LH) : Val → Nat → Option Bool
  | .non, _ => some false
  | .bl _, k => some (k == 0 || k == 1)
  | .int _, k => some (k == 0)
  | .str _, k => some (k == 4)
  | .tup _, k => some (k == 2)
  | .ftup _, k => some (k == 2)
  | .lst _, k => some (k == 3)
  | .ref l, k => match h[l]? with
    | some (.lst _) => some (k == 3)
    | _ => none
  | _, _ => none
def boolsOf : List Val → Option (List Bool)
  | [] => some []
  | .bl b :: r => (boolsOf r).map (b :: ·)
  | _ :: _ => none
def intsOf : List Val → Option (List Int)
  | [] => some []
  | .int b :: r => (intsOf r).map (b :: ·)
  | _ :: _ => none
mutual
/-- the order of tuples of tuples of ints -/
def vlt : Val → Val → Bool
  | .int a, .int b => decide (a < b)
  | .tup a, .tup b => vlts a b
  | _, _ => false
def vlts : List Val → List Val → Bool
  | [], [] => false
  | [], _ :: _ => true
  | _ :: _, [] => false
  | x :: xs, y :: ys => if veq x y then vlts xs ys else vlt x y
end
def insI (x : Int) : List Int → List Int
  | [] => [x]
  | y :: r => if y < x then y :: insI x r else x :: y :: r
/-- whole numbers rising -/
def sortI : List Int → List Int
  | [] => []
  | x :: r => insI x (sortI r)
def rangeV (lo hi : Int) : List Val := (List.range (hi - lo).toNat).map fun i => .int (lo + (i : Nat))
def rangeOk (lo hi : Int) : Bool := decide (-4611686018427387904 ≤ lo) && decide (lo < 4611686018427387904) && decide (-4611686018427387904 ≤ hi) && decide (hi < 4611686018427387904) && decide ((hi - lo).toNat ≤ SL)
def maxI : Int → List Int → Int
  | m, [] => m
  | m, x :: r => maxI (if m < x then x else m) r
def minI : Int → List Int → Int
  | m, [] => m
  | m, x :: r => minI (if x < m then x else m) r
def noDup : List Val → Bool
  | [] => true
  | x :: r => !(r.any fun z => veq z x) && noDup r
def dedup : List Val → List Val
  | [] => []
  | x :: r => if r.any fun z => veq z x then dedup r else x :: dedup r
@[simp] def bi (m : Bool) (f : Bi) (as : List Val) (h : LH) : R Val :=
  match f, as with
  | .len, [a] => match a with
    | .str s => if s.length ≤ SL then .ok (.int s.length) h else .err
    | _ => optR h ((asSeq h a).map fun xs => .int xs.length)
  | .list, [a] => match asSeq h a with
    | some xs => mkL m xs h
    | none => .err
  | .tuple, [a] => match a with
    | .tup xs => .ok (.tup xs) h
    | .ftup xs => .ok (.ftup xs) h
    | _ => optR h ((asList h a).map fun xs => if m then .ftup xs else .tup xs)
  | .anyL, [a] => optR h ((asList h a).bind fun xs => (boolsOf xs).map fun bs => .bl (bs.any id))
  | .allL, [a] => optR h ((asList h a).bind fun xs => (boolsOf xs).map fun bs => .bl (bs.all id))
  | .sum, [a] => optR h ((asList h a).bind fun xs => (intsOf xs).map fun ns => .int ns.sum)
  | .maxL, [a] => match (asList h a).bind intsOf with
    | some (x :: r) => .ok (.int (maxI x r)) h
    | _ => .err
  | .minL, [a] => match (asList h a).bind intsOf with
    | some (x :: r) => .ok (.int (minI x r)) h
    | _ => .err
  | .max2, [.int i, .int j] => .ok (.int (if i < j then j else i)) h
  | .min2, [.int i, .int j] => .ok (.int (if j < i then j else i)) h
  | .abs, [.int i] => .ok (.int (if i < 0 then -i else i)) h
  | .int, [.int i] => .ok (.int i) h
  | .int, [.bl b] => .ok (.int (if b then 1 else 0)) h
  | .isinst ks, [a] => optR h ((ks.mapM (isKind h a)).map fun bs => .bl (bs.any id))
  | .sorted, [a] => match (asList h a).bind intsOf with
    | some ns => mkL m ((sortI ns).map .int) h
    | none => .err
  | .range, _ => .err
  | .rangeL1, [.int n] => if rangeOk 0 n then mkL m (rangeV 0 n) h else .err
  | .rangeL2, [.int i, .int j] => if rangeOk i j then mkL m (rangeV i j) h else .err
  | _, _ => .err

/-! ### methods of built-in types -/
inductive Mth | append | extend | insert | remove | pop | popAt | index | join | split
def indexOf (x : Val) : List Val → Option Nat
  | [] => none
  | y :: r => if veq y x then some 0 else (indexOf x r).map (· + 1)
@[simp] def mth (f : Mth) (o : Val) (as : List Val) (h : LH) : R Val :=
  match f, as with
  | .index, [x] => optR h ((asSeq h o).bind fun xs => if isData x ∧ isDatas xs ∧ vdepth x ≤ 60 ∧ vdepths xs ≤ 59 then (indexOf x xs).map fun j => .int (j : Nat) else none)
  | .append, [x] => match o with
    | .ref l => match h[l]? with
      | some (.lst xs) => if xs.length < SL then .ok .non (h.set l (.lst (xs ++ [x]))) else .err
      | _ => .err
    | _ => .err
  | .extend, [x] => match o with
    | .ref l => match h[l]?, x with
      | some (.lst xs), .lst ys => if xs.length + ys.length ≤ SL then .ok .non (h.set l (.lst (xs ++ ys))) else .err
      | _, _ => .err
    | _ => .err
  | .insert, [.int i, x] => match o with
    | .ref l => match h[l]? with
      | some (.lst xs) => if xs.length < SL ∧ 0 ≤ i ∧ i ≤ xs.length then .ok .non (h.set l (.lst (xs.take i.toNat ++ x :: xs.drop i.toNat))) else .err
      | _ => .err
    | _ => .err
  | .remove, [x] => match o with
    | .ref l => match h[l]? with
      | some (.lst xs) => if isData x ∧ isDatas xs ∧ vdepth x ≤ 60 ∧ vdepths xs ≤ 59 then (match indexOf x xs with
        | some j => .ok .non (h.set l (.lst (xs.eraseIdx j)))
        | none => .err) else .err
      | _ => .err
    | _ => .err
  | .pop, [] => match o with
    | .ref l => match h[l]? with
      | some (.lst xs) => match xs[xs.length - 1]? with
        | some y => .ok y (h.set l (.lst xs.dropLast))
        | none => .err
      | _ => .err
    | _ => .err
  | .popAt, [.int i] => match o with
    | .ref l => match h[l]? with
      | some (.lst xs) => if 0 ≤ i ∧ i < 9223372036854775808 then (match xs[i.toNat]? with
        | some y => .ok y (h.set l (.lst (xs.eraseIdx i.toNat)))
        | none => .err) else .err
      | _ => .err
    | _ => .err
  | _, _ => .err
/-- has the receiver this method, by what it is? -/
@[simp] def rcvB (f : Mth) (o : Val) (h : LH) : Bool :=
  match o with
  | .lst _ => true
  | .ref l => match h[l]? with
    | some (.lst _) => true
    | _ => false
  | .ftup _ => match f with
    | .index => true
    | _ => false
  | _ => false
/-- a[i] = v -/
def setIx (a i v : Val) (h : LH) : R Unit :=
  match a with
  | .ref l => match h[l]?, i with
    | some (.lst xs), .int k => match ixN xs.length k with
      | some j => .ok () (h.set l (.lst (xs.set j v)))
      | none => .err
    | some (.dct t ks vs), k => if ks.length < SL ∧ keyOf t k then (if dhas k ks then .ok () (h.set l (.dct t ks (drepl k v ks vs))) else .ok () (h.set l (.dct t (ks ++ [k]) (vs ++ [v])))) else .err
    | _, _ => .err
  | _ => .err

/-! ### the text -/
/-- expressions, lists of them, targets, what a for walks -/
inductive E where
  | var (i : Nat) | int (z : Int) | bl (b : Bool) | non | str (s : List Nat) | glob (g : Nat)
  | nil | cons (e es : E)
  | tup (es : E) | lst (m : Bool) (es : E) | dnew (t : Bool)
  | bin (m : Bool) (op : Bop) (a b : E) | cmp (op : Cop) (a b : E) | chain (op op' : Cop) (a b c : E)
  | and (a b : E) | or (a b : E) | not (a : E) | neg (a : E) | ite (c a b : E)
  | call (f : Nat) (es : E) | bi (m : Bool) (f : Bi) (es : E) | mth (f : Mth) (o es : E)
  | idx (a i : E) | slc (m : Bool) (a lo hi : E) | rev (m : Bool) (a : E)
  | comp (m : Bool) (own : List Nat) (tg it cond elt : E)
  | frz (e : E)
  | tName (i : Nat) | tTup (ts : E) | tSub (o i : E)
  | iSeq (e : E) | iRange1 (a : E) | iRange2 (a b : E) | iEnum (a : E) | iZip (a b : E) | iKeys (a : E)

inductive S where
  | nil | seq (s t : S)
  | asg (tg e : E) | expr (e : E) | ret (e : E) | retN
  | ife (c : E) (a b : S) | whl (c : E) (b : S) | for (tg it : E) (b : S)
  | never
  | scoped (b : S)

structure Def where
  np : Nat
  ns : Nat
  body : S

abbrev CallT := Nat → List Val → LH → R Val

/-! ### calls: the callee sees the objects that it can reach, and no other -/
def reach (h : LH) : Nat → List Nat → List Nat → Option (List Nat)
  | _, [], acc => some acc
  | 0, _ :: _, _ => none
  | n + 1, l :: t, acc => if acc.contains l then reach h n t acc else match h[l]? with
    | some o => reach h n (objRefs o ++ t) (acc ++ [l])
    | none => none
def place (L : List Nat) (l : Nat) : Nat := L.findIdx (· == l)
def backPlace (L : List Nat) (n : Nat) (j : Nat) : Nat := match L[j]? with
  | some l => l
  | none => n + (j - L.length)
def putAll {α : Type} : List Nat → List α → List α → List α
  | l :: L, x :: xs, h => putAll L xs (h.set l x)
  | _, _, h => h
def merge {α : Type} (L : List Nat) (xs h : List α) : List α := putAll L xs h ++ xs.drop L.length
def sub (h : LH) (L : List Nat) : Option LH := L.mapM fun l => (h[l]?).map (mapObj (place L))
def callIn (C : CallT) (f : Nat) (as : List Val) (h : LH) : R Val :=
  match reach h 400 (refsOfs as) [] with
  | none => .err
  | some L => match sub h L with
    | none => .err
    | some h0 => match C f (mapRefs (place L) as) h0 with
      | .ok v h1 => .ok (mapRef (backPlace L h.length) v) (merge L (h1.map (mapObj (backPlace L h.length))) h)
      | .exc c h1 => .exc c (merge L (h1.map (mapObj (backPlace L h.length))) h)
      | .err => .err
def below (n : Nat) (ls : List Nat) : Bool := ls.all fun l => decide (l < n)
/-- behind a body: what came new and is not reached is let go -/
def trimTo (n : Nat) (h : LH) : LH := if (h.take n).all fun o => below n (objRefs o) then h.take n else h

/-! ### expressions -/
def wipe (σ : Env) : List Nat → Env
  | [] => σ
  | v :: vs => (wipe σ vs).set v none
def R.nox {α : Type} : R α → R α
  | .ok a h => .ok a h
  | _ => .err
@[simp] theorem R.nox_ok {α : Type} (a : α) (h : LH) : (R.ok a h).nox = .ok a h := rfl
@[simp] theorem R.nox_exc {α : Type} (c : Nat) (h : LH) : (R.exc c h : R α).nox = .err := rfl
@[simp] theorem R.nox_err {α : Type} : (R.err : R α).nox = .err := rfl
/-- the slots that a target binds -/
def tslots : E → List Nat
  | .tName i => [i]
  | .tTup ts => tslots ts
  | .cons t ts => tslots t ++ tslots ts
  | _ => []
/-- how many targets -/
@[simp] def tlen : E → Nat
  | .cons _ ts => tlen ts + 1
  | _ => 0
def compGo (ok : LH → Bool) (f : Val → LH → R (Option Val)) : List Val → LH → R (List Val)
  | [], h => if ok h then .ok [] h else .err
  | x :: xs, h => if ok h then (f x h).bind fun o h1 => (compGo ok f xs h1).bind fun r h2 => .ok (match o with | some y => y :: r | none => r) h2 else .err
def freeze (v : Val) (h : LH) : R Val :=
  match v with
  | .ref l => match h[l]? with
    | some (.lst xs) => if noRefs xs then .ok (.lst xs) (h.set l .dead) else .err
    | some (.dct t ks vs) => if noRefs ks && noRefs vs then .ok (.dct t ks vs) (h.set l .dead) else .err
    | _ => .err
  | v => .ok v h
def setAll : List Nat → List Val → Env → Option Env
  | [], [], σ => some σ
  | i :: is, v :: vs, σ => setAll is vs (σ.set i (some v))
  | _, _, _ => none
@[simp] def optInt : E → Val → Option (Option Int)
  | .non, _ => some none
  | _, .int i => some (some i)
  | _, _ => none
@[simp] def zipV : List Val → List Val → List Val
  | x :: xs, y :: ys => .tup [x, y] :: zipV xs ys
  | _, _ => []
@[simp] def enumV : Nat → List Val → List Val
  | _, [] => []
  | n, x :: xs => .tup [.int (n : Nat), x] :: enumV (n + 1) xs
/-- where a walked list that may change stands, and how it has to stand at each turn -/
@[simp] def srcOf (v : Val) (xs : List Val) : List Val := match v with
  | .ref l => [.tup [.ref l, .lst xs]]
  | _ => []
def stays (w : List Val) (h : LH) : Bool := w.all fun s => match s with
  | .tup [.ref l, .lst xs] => match h[l]? with
    | some (.lst ys) => vsames ys xs
    | _ => false
  | _ => false

section
variable (C : CallT) (G : Nat → Val)
def ev : E → Env → LH → R Val
  | .var i, σ, h => match σ[i]? with
    | some (some v) => .ok v h
    | _ => .err
  | .int z, _, h => .ok (.int z) h
  | .bl b, _, h => .ok (.bl b) h
  | .non, _, h => .ok .non h
  | .str s, _, h => .ok (.str s) h
  | .glob g, _, h => .ok (G g) h
  | .nil, _, h => .ok (.tup []) h
  | .cons e es, σ, h => (ev e σ h).bind fun v h => (ev es σ h).bind fun vs h => onT vs fun l => .ok (.tup (v :: l)) h
  | .tup es, σ, h => (ev es σ h).bind fun vs h => onT vs fun l => if l.length ≤ SL then .ok (.tup l) h else .err
  | .lst m es, σ, h => (ev es σ h).bind fun vs h => onT vs fun l => mkL m l h
  | .dnew t, _, h => .ok (.ref h.length) (h ++ [.dct t [] []])
  | .bin m op a b, σ, h => (ev a σ h).bind fun x h => (ev b σ h).bind fun y h => binop m op x y h
  | .cmp op a b, σ, h => (ev a σ h).bind fun x h => (ev b σ h).bind fun y h => optR h ((cmpop op x y h).map .bl)
  | .chain op op' a b c, σ, h => (ev a σ h).bind fun x h => (ev b σ h).bind fun y h => match cmpop op x y h with
    | some true => (ev c σ h).bind fun z h => optR h ((cmpop op' y z h).map .bl)
    | some false => .ok (.bl false) h
    | none => .err
  | .and a b, σ, h => (ev a σ h).bind fun x h => onB x (ev b σ h) (.ok (.bl false) h)
  | .or a b, σ, h => (ev a σ h).bind fun x h => onB x (.ok (.bl true) h) (ev b σ h)
  | .not a, σ, h => (ev a σ h).bind fun x h => onB x (.ok (.bl false) h) (.ok (.bl true) h)
  | .neg a, σ, h => (ev a σ h).bind fun x h => match x with
    | .int i => .ok (.int (-i)) h
    | _ => .err
  | .ite c a b, σ, h => (ev c σ h).bind fun x h => onB x (ev a σ h) (ev b σ h)
  | .call f es, σ, h => (ev es σ h).bind fun vs h => onT vs fun l => callIn C f l h
  | .bi m f es, σ, h => (ev es σ h).bind fun vs h => onT vs fun l => PI.bi m f l h
  | .mth f o es, σ, h => (ev o σ h).bind fun x h => if rcvB f x h then (ev es σ h).bind fun vs h => onT vs fun l => PI.mth f x l h else .err
  | .idx a i, σ, h => (ev a σ h).bind fun x h => (ev i σ h).bind fun y h => optR h (getIx x y h)
  | .slc m a lo hi, σ, h => (ev a σ h).bind fun x h => (ev lo σ h).bind fun l h => match optInt lo l with
    | some l => (ev hi σ h).bind fun u h => match optInt hi u with
      | some u => slice m x l u h
      | none => .err
    | none => .err
  | .rev m a, σ, h => (ev a σ h).bind fun x h => revL m x h
  | .comp m own tg it cond elt, σ, h => (ev it σ h).bind fun w h => match w with
    | .dct _ src items => if items.length ≤ SL then (compGo (stays src) (fun x h => match asgN tg x (wipe σ own) with
        | some σ' => (ev cond σ' h).nox.bind fun c h => onB c ((ev elt σ' h).nox.bind fun y h => .ok (some y) h) (.ok none h)
        | none => .err) items h).bind fun r h => mkL m r h else .err
    | _ => .err
  | .frz e, σ, h => (ev e σ h).bind fun x h => freeze x h
  | .tName _, _, _ => .err
  | .tTup _, _, _ => .err
  | .tSub _ _, _, _ => .err
  | .iSeq e, σ, h => (ev e σ h).bind fun x h => match asSeq h x with
    | some xs => .ok (.dct false (srcOf x xs) xs) h
    | none => .err
  | .iRange1 a, σ, h => (ev a σ h).bind fun x h => match x with
    | .int n => if rangeOk 0 n then .ok (.dct false [] (rangeV 0 n)) h else .err
    | _ => .err
  | .iRange2 a b, σ, h => (ev a σ h).bind fun x h => (ev b σ h).bind fun y h => match x, y with
    | .int i, .int j => if rangeOk i j then .ok (.dct false [] (rangeV i j)) h else .err
    | _, _ => .err
  | .iEnum a, σ, h => (ev a σ h).bind fun x h => match asSeq h x with
    | some xs => .ok (.dct false (srcOf x xs) (enumV 0 xs)) h
    | none => .err
  | .iZip a b, σ, h => (ev a σ h).bind fun x h => (ev b σ h).bind fun y h => match asSeq h x, asSeq h y with
    | some xs, some ys => .ok (.dct false (srcOf x xs ++ srcOf y ys) (zipV xs ys)) h
    | _, _ => .err
  | .iKeys a, σ, h => (ev a σ h).bind fun x h => match x with
    | .dct _ ks _ => .ok (.dct false [] ks) h
    | _ => .err
where
  /-- names bound by a target without subscripts -/
  asgN : E → Val → Env → Option Env
    | .tName i, v, σ => some (σ.set i (some v))
    | .tTup ts, v, σ => match v with
      | .tup l => if l.length = tlen ts then asgN ts (.tup l) σ else none
      | .ftup l => if l.length = tlen ts then asgN ts (.tup l) σ else none
      | .lst l => if l.length = tlen ts then asgN ts (.tup l) σ else none
      | _ => none
    | .nil, v, σ => match v with
      | .tup [] => some σ
      | _ => none
    | .cons t ts, v, σ => match v with
      | .tup (x :: l) => (asgN t x σ).bind fun σ => asgN ts (.tup l) σ
      | _ => none
    | _, _, _ => none
/-! ### statements -/
inductive RS where
  | nx (σ : Env) (h : LH) | rt (v : Val) (h : LH) | exc (c : Nat) (σ : Env) (h : LH) | err
def RS.bind : RS → (Env → LH → RS) → RS
  | .nx σ h, f => f σ h
  | .rt v h, _ => .rt v h
  | .exc c σ h, _ => .exc c σ h
  | .err, _ => .err
def onBS : Val → RS → RS → RS
  | .bl true, p, _ => p
  | .bl false, _, q => q
  | _, _, _ => .err
def R.then {α : Type} (σ : Env) : R α → (α → LH → RS) → RS
  | .ok a h, f => f a h
  | .exc c h, _ => .exc c σ h
  | .err, _ => .err
@[simp] theorem RS.bind_nx (σ : Env) (h : LH) (f : Env → LH → RS) : (RS.nx σ h).bind f = f σ h := rfl
@[simp] theorem RS.bind_rt (v : Val) (h : LH) (f : Env → LH → RS) : (RS.rt v h).bind f = .rt v h := rfl
@[simp] theorem RS.bind_exc (c : Nat) (σ : Env) (h : LH) (f : Env → LH → RS) : (RS.exc c σ h).bind f = .exc c σ h := rfl
@[simp] theorem RS.bind_err (f : Env → LH → RS) : RS.err.bind f = .err := rfl
@[simp] theorem onBS_true (p q : RS) : onBS (.bl true) p q = p := rfl
@[simp] theorem onBS_false (p q : RS) : onBS (.bl false) p q = q := rfl
@[simp] theorem R.then_ok {α : Type} (σ : Env) (a : α) (h : LH) (f : α → LH → RS) : (R.ok a h).then σ f = f a h := rfl
@[simp] theorem R.then_exc {α : Type} (σ : Env) (c : Nat) (h : LH) (f : α → LH → RS) : (R.exc c h).then σ f = .exc c σ h := rfl
@[simp] theorem R.then_err {α : Type} (σ : Env) (f : α → LH → RS) : (R.err : R α).then σ f = .err := rfl
/-- a target is stored to -/
def asgT : E → Val → Env → LH → RS
  | .tName i, v, σ, h => .nx (σ.set i (some v)) h
  | .tTup ts, v, σ, h => match asSeq h v with
    | some l => if l.length = tlen ts then asgT ts (.tup l) σ h else .err
    | none => .err
  | .nil, v, σ, h => match v with
    | .tup [] => .nx σ h
    | _ => .err
  | .cons t ts, v, σ, h => match v with
    | .tup (x :: l) => (asgT t x σ h).bind fun σ h => asgT ts (.tup l) σ h
    | _ => .err
  | .tSub o i, v, σ, h => (ev C G o σ h).then σ fun a h => (ev C G i σ h).then σ fun k h => (setIx a k v h).then σ fun _ h => .nx σ h
  | _, _, _, _ => .err
def forGo (ok : LH → Bool) (f : Val → Env → LH → RS) : List Val → Env → LH → RS
  | [], σ, h => if ok h then .nx σ h else .err
  | x :: xs, σ, h => if ok h then (f x σ h).bind fun σ h => forGo ok f xs σ h else .err
def whileGo (f : Env → LH → RS) (c : Env → LH → R Val) : Nat → Env → LH → RS
  | 0, _, _ => .err
  | n + 1, σ, h => (c σ h).then σ fun x h => onBS x ((f σ h).bind fun σ h => whileGo f c n σ h) (.nx σ h)
/-- at a scoped block's end: what it made is let go, and forgotten where a name holds it -/
def leave (n : Nat) (σ : Env) (h : LH) : RS :=
  if (h.take n).all fun o => below n (objRefs o) then .nx (σ.map fun o => o.bind fun v => if below n (refsOf v) then some v else none) (h.take n) else .err
/-- more turns than any while has -/
abbrev WF : Nat := 1000000
def ex : S → Env → LH → RS
  | .nil, σ, h => .nx σ h
  | .seq s t, σ, h => (ex s σ h).bind fun σ h => ex t σ h
  | .asg tg e, σ, h => (ev C G e σ h).then σ fun v h => asgT C G tg v σ h
  | .expr e, σ, h => (ev C G e σ h).then σ fun _ h => .nx σ h
  | .ret e, σ, h => (ev C G e σ h).then σ fun v h => .rt v h
  | .retN, _, h => .rt .non h
  | .ife c a b, σ, h => (ev C G c σ h).then σ fun x h => onBS x (ex a σ h) (ex b σ h)
  | .whl c b, σ, h => whileGo (ex b) (ev C G c) WF σ h
  | .for tg it b, σ, h => (ev C G it σ h).then σ fun w h => match w with
    | .dct _ src items => forGo (stays src) (fun x σ h => (asgT C G tg x σ h).bind fun σ h => ex b σ h) items σ h
    | _ => .err
  | .never, _, _ => .err
  | .scoped b, σ, h => (ex b σ h).bind fun σ' h' => leave h.length σ' h'
end
@[simp] def start (d : Def) (as : List Val) : Env := as.map some ++ List.replicate (d.ns - as.length) none
/-- a body's end -/
def fin (n : Nat) : RS → R Val
  | .nx _ h => .ok .non (trimTo n h)
  | .rt v h => if below n (refsOf v) then .ok v (trimTo n h) else .ok v h
  | .exc c _ h => .exc c (trimTo n h)
  | .err => .err
/-- the defs, called at most so deep -/
def callN (T : Nat → Option Def) (G : Nat → Val) : Nat → CallT
  | 0 => fun _ _ _ => .err
  | n + 1 => fun f as h => match T f with
    | some d => if as.length = d.np then fin h.length (ex (callN T G n) G d.body (start d as) h) else .err
    | none => .err
end PI

/-! How the interpreter's values and heap stand for the hand layer's. -/
namespace PIS
open PySem PySem.Spec PyProof.Rows L2
open PI (Val Ob LH)
variable {Z : Addr → Prop}
abbrev SV := L2.St

abbrev Mu := List (Option Addr)
/-- the address of a mutable object of the local heap -/
def Live (μ : Mu) (a : Addr) : Prop := ∃ l : Nat, μ[l]? = some (some a)
/-- neither of the local heap nor of the callers' (Z) -/
def Fz (Z : Addr → Prop) (μ : Mu) (a : Addr) : Prop := ¬ Live μ a ∧ ¬ Z a
def keyV : Key → Val
  | .inl i => .int i
  | .inr s => .str s.cps.toList
def KeysK (ks : List Val) (kvs : List (Key × V)) : Prop := ks = kvs.map fun p => keyV p.1
def KeysT (ks : List Val) (kvs : List (List Key × V)) : Prop := ks = kvs.map fun p => Val.tup (p.1.map keyV)

mutual
def Rep (Z : Addr → Prop) (μ : Mu) (H : L2.Hp) : Val → V → Prop
  | .non, v => v = .non
  | .bl b, v => v = .bl b
  | .int i, v => v = .int i
  | .str s, v => v = .str ⟨s.toArray⟩
  | .tup xs, v => ∃ p vs, v = .ref p ∧ Fz Z μ p ∧ H p = some (.tup vs) ∧ Reps Z μ H xs vs
  | .ftup xs, v => ∃ p o vs, v = .ref p ∧ Fz Z μ p ∧ H p = some (.frz o (.tup vs)) ∧ o.dict = none ∧ Reps Z μ H xs vs
  | .lst xs, v => ∃ p vs, v = .ref p ∧ Fz Z μ p ∧ Rd H p (.lst vs) ∧ Reps Z μ H xs vs
  | .dct t ks vs, v => ∃ p, v = .ref p ∧ Fz Z μ p ∧
      ((t = false ∧ ∃ o kvs, H p = some (.frz o (.dK kvs)) ∧ KeysK ks kvs ∧ Reps Z μ H vs (kvs.map (·.2))) ∨ (t = true ∧ ∃ o kvs, H p = some (.frz o (.dT kvs)) ∧ KeysT ks kvs ∧ Reps Z μ H vs (kvs.map (·.2))))
  | .ref l, v => ∃ o, μ[l]? = some o ∧ ∀ a, o = some a → v = .ref a
  | .fn _, _ => False
  | .exc _, _ => False
def Reps (Z : Addr → Prop) (μ : Mu) (H : L2.Hp) : List Val → List V → Prop
  | [], vs => vs = []
  | x :: xs, vs => ∃ v r, vs = v :: r ∧ Rep Z μ H x v ∧ Reps Z μ H xs r
end
def RepO (Z : Addr → Prop) (μ : Mu) (H : L2.Hp) : Ob → Addr → Prop
  | .lst xs, a => ∃ vs, H a = some (.lst vs) ∧ Reps Z μ H xs vs
  | .dct t ks vs, a => (t = false ∧ ∃ kvs, H a = some (.dK kvs) ∧ KeysK ks kvs ∧ Reps Z μ H vs (kvs.map (·.2))) ∨ (t = true ∧ ∃ kvs, H a = some (.dT kvs) ∧ KeysT ks kvs ∧ Reps Z μ H vs (kvs.map (·.2)))
  | .ins _ _, _ => False
  | .dead, _ => False
structure RelH (Z : Addr → Prop) (μ : Mu) (h : LH) (H : L2.Hp) : Prop where
  len : μ.length = h.length
  at_ : ∀ (l : Nat) (a : Addr), μ[l]? = some (some a) → ∃ o, h[l]? = some o ∧ RepO Z μ H o a
  inj : ∀ (l l' : Nat) (a : Addr), μ[l]? = some (some a) → μ[l']? = some (some a) → l = l'
  dead : ∀ l : Nat, μ[l]? = some none → h[l]? = some .dead
  apart : ∀ a, Live μ a → ¬ Z a
  kept : ∀ a, Z a → ∃ o, H a = some o ∧ ∀ vs, o ≠ .tup vs
def RelS (Z : Addr → Prop) (μ : Mu) (H : L2.Hp) (σ : PI.Env) (σV : SV) : Prop := σ.length = σV.length ∧ ∀ (i : Nat) (v : Val), σ[i]? = some (some v) → ∃ x, σV[i]? = some (some x) ∧ Rep Z μ H v x
structure Ext (μ : Mu) (H : L2.Hp) (μ' : Mu) (H' : L2.Hp) : Prop where
  len : μ.length ≤ μ'.length
  old : ∀ (l : Nat) (a : Addr), l < μ.length → μ'[l]? = some (some a) → μ[l]? = some (some a)
  new : ∀ (l : Nat) (a : Addr), μ.length ≤ l → μ'[l]? = some (some a) → H a = none
  frame : ∀ a o, H a = some o → ¬ Live μ a → H' a = some o
  dom : ∀ a, H' a = none → H a = none

theorem lt_of_get {α : Type} {xs : List α} {l : Nat} {o : α} (e : xs[l]? = some o) : l < xs.length := by
  rcases List.getElem?_eq_some_iff.mp e with ⟨h, _⟩
  exact h
theorem Ext.refl (μ : Mu) (H : L2.Hp) : Ext μ H μ H := ⟨Nat.le_refl _, fun _ _ _ e => e, fun l a hl e => absurd (lt_of_get e) (Nat.not_lt.mpr hl), fun _ _ e _ => e, fun _ e => e⟩
theorem Ext.live {μ μ' : Mu} {H H' : L2.Hp} (E : Ext μ H μ' H') {a : Addr} {o : HO} (e : H a = some o) (n : ¬ Live μ a) : ¬ Live μ' a := fun ⟨l, q⟩ => by
  by_cases hl : l < μ.length
  · exact n ⟨l, E.old l a hl q⟩
  · have := E.new l a (Nat.not_lt.mp hl) q
    rw [e] at this; cases this
theorem Ext.trans {μ μ1 μ2 : Mu} {H H1 H2 : L2.Hp} (A : Ext μ H μ1 H1) (B : Ext μ1 H1 μ2 H2) : Ext μ H μ2 H2 where
  len := Nat.le_trans A.len B.len
  old := fun l a hl e => A.old l a hl (B.old l a (Nat.lt_of_lt_of_le hl A.len) e)
  new := fun l a hl e => by
    by_cases h1 : l < μ1.length
    · exact A.new l a hl (B.old l a h1 e)
    · exact A.dom a (B.new l a (Nat.not_lt.mp h1) e)
  frame := fun a o e n => B.frame a o (A.frame a o e n) (A.live e n)
  dom := fun a e => A.dom a (B.dom a e)
theorem Ext.fz {μ μ' : Mu} {H H' : L2.Hp} (E : Ext μ H μ' H') {a : Addr} {o : HO} (e : H a = some o) (n : Fz Z μ a) : Fz Z μ' a := ⟨E.live e n.1, n.2⟩
theorem Ext.rd {μ μ' : Mu} {H H' : L2.Hp} (E : Ext μ H μ' H') {a : Addr} {u : HO} (r : Rd H a u) (n : Fz Z μ a) : Rd H' a u ∧ Fz Z μ' a := by
  rcases r with e | ⟨o, e⟩
  · exact ⟨.inl (E.frame _ _ e n.1), E.fz e n⟩
  · exact ⟨.inr ⟨o, E.frame _ _ e n.1⟩, E.fz e n⟩

mutual
theorem Rep.ext {μ μ' : Mu} {H H' : L2.Hp} (E : Ext μ H μ' H') : ∀ (v : Val) (x : V), Rep Z μ H v x → Rep Z μ' H' v x
  | .non, x, r => by simp only [Rep] at r ⊢; exact r
  | .bl b, x, r => by simp only [Rep] at r ⊢; exact r
  | .int b, x, r => by simp only [Rep] at r ⊢; exact r
  | .str b, x, r => by simp only [Rep] at r ⊢; exact r
  | .tup xs, x, r => by
    simp only [Rep] at r ⊢
    obtain ⟨p, vs, e, n, h, q⟩ := r
    exact ⟨p, vs, e, E.fz h n, E.frame _ _ h n.1, Reps.ext E xs vs q⟩
  | .ftup xs, x, r => by
    simp only [Rep] at r ⊢
    obtain ⟨p, o, vs, e, n, h, d, q⟩ := r
    exact ⟨p, o, vs, e, E.fz h n, E.frame _ _ h n.1, d, Reps.ext E xs vs q⟩
  | .lst xs, x, r => by
    simp only [Rep] at r ⊢
    obtain ⟨p, vs, e, n, h, q⟩ := r
    exact ⟨p, vs, e, (E.rd h n).2, (E.rd h n).1, Reps.ext E xs vs q⟩
  | .dct t ks vs, x, r => by
    simp only [Rep] at r ⊢
    obtain ⟨p, e, n, h⟩ := r
    rcases h with ⟨ht, o, kvs, h, k, q⟩ | ⟨ht, o, kvs, h, k, q⟩
    · exact ⟨p, e, E.fz h n, .inl ⟨ht, o, kvs, E.frame _ _ h n.1, k, Reps.ext E vs _ q⟩⟩
    · exact ⟨p, e, E.fz h n, .inr ⟨ht, o, kvs, E.frame _ _ h n.1, k, Reps.ext E vs _ q⟩⟩
  | .ref l, x, r => by
    simp only [Rep] at r ⊢
    obtain ⟨o, e, q⟩ := r
    have hl := lt_of_get e
    have hl' : l < μ'.length := Nat.lt_of_lt_of_le hl E.len
    refine ⟨μ'[l], List.getElem?_eq_getElem hl', fun a ea => ?_⟩
    have e2 : μ'[l]? = some (some a) := by rw [List.getElem?_eq_getElem hl', ea]
    have e3 := E.old l a hl e2
    rw [e] at e3
    exact q a (Option.some.inj e3)
  | .fn _, x, r => by simp only [Rep] at r
  | .exc _, x, r => by simp only [Rep] at r
theorem Reps.ext {μ μ' : Mu} {H H' : L2.Hp} (E : Ext μ H μ' H') : ∀ (v : List Val) (x : List V), Reps Z μ H v x → Reps Z μ' H' v x
  | [], x, r => by simp only [Reps] at r ⊢; exact r
  | v :: vs, x, r => by
    simp only [Reps] at r ⊢
    obtain ⟨y, t, e, a, b⟩ := r
    exact ⟨y, t, e, Rep.ext E v y a, Reps.ext E vs t b⟩
end
theorem RelS.ext {μ μ' : Mu} {H H' : L2.Hp} {σ : PI.Env} {σV : SV} (r : RelS Z μ H σ σV) (E : Ext μ H μ' H') : RelS Z μ' H' σ σV :=
  ⟨r.1, fun i v e => let ⟨x, a, b⟩ := r.2 i v e; ⟨x, a, Rep.ext E v x b⟩⟩
/-! ### lists -/
theorem Reps.length {μ : Mu} {H : L2.Hp} : ∀ {vs : List Val} {xs : List V}, Reps Z μ H vs xs → vs.length = xs.length
  | [], xs, r => by simp only [Reps] at r; subst r; rfl
  | v :: vs, xs, r => by
    simp only [Reps] at r
    obtain ⟨y, t, rfl, _, b⟩ := r
    simp only [List.length_cons, Reps.length b]
theorem Reps.nil {μ : Mu} {H : L2.Hp} : Reps Z μ H [] [] := by simp only [Reps]
theorem Reps.cons {μ : Mu} {H : L2.Hp} {v : Val} {vs : List Val} {x : V} {xs : List V} (a : Rep Z μ H v x) (b : Reps Z μ H vs xs) : Reps Z μ H (v :: vs) (x :: xs) := by
  simp only [Reps]; exact ⟨x, xs, rfl, a, b⟩
theorem Reps.cases {μ : Mu} {H : L2.Hp} {v : Val} {vs : List Val} {xs : List V} (r : Reps Z μ H (v :: vs) xs) : ∃ y t, xs = y :: t ∧ Rep Z μ H v y ∧ Reps Z μ H vs t := by
  simp only [Reps] at r; exact r
theorem Reps.nil_eq {μ : Mu} {H : L2.Hp} {xs : List V} (r : Reps Z μ H [] xs) : xs = [] := by simp only [Reps] at r; exact r
theorem Reps.get {μ : Mu} {H : L2.Hp} : ∀ {vs : List Val} {xs : List V} {i : Nat} {v : Val}, Reps Z μ H vs xs → vs[i]? = some v → ∃ x, xs[i]? = some x ∧ Rep Z μ H v x
  | [], _, _, _, _, e => by simp at e
  | w :: vs, xs, i, v, r, e => by
    obtain ⟨y, t, rfl, a, b⟩ := r.cases
    cases i with
    | zero => simp at e; subst e; exact ⟨y, rfl, a⟩
    | succ i => simp at e; obtain ⟨x, h1, h2⟩ := Reps.get b e; exact ⟨x, by simpa using h1, h2⟩
theorem Reps.get' {μ : Mu} {H : L2.Hp} : ∀ {vs : List Val} {xs : List V} {i : Nat} {x : V}, Reps Z μ H vs xs → xs[i]? = some x → ∃ v, vs[i]? = some v ∧ Rep Z μ H v x := fun {vs xs i x} r e => by
  have hl : i < vs.length := by rw [r.length]; exact lt_of_get e
  obtain ⟨y, h1, h2⟩ := r.get (List.getElem?_eq_getElem hl)
  rw [e] at h1; cases h1
  exact ⟨_, List.getElem?_eq_getElem hl, h2⟩
theorem Reps.append {μ : Mu} {H : L2.Hp} : ∀ {vs ws : List Val} {xs ys : List V}, Reps Z μ H vs xs → Reps Z μ H ws ys → Reps Z μ H (vs ++ ws) (xs ++ ys)
  | [], _, _, _, r, q => by rw [r.nil_eq]; exact q
  | v :: vs, ws, xs, ys, r, q => by
    obtain ⟨y, t, rfl, a, b⟩ := r.cases
    exact .cons a (b.append q)
theorem Reps.take {μ : Mu} {H : L2.Hp} : ∀ {vs : List Val} {xs : List V} (n : Nat), Reps Z μ H vs xs → Reps Z μ H (vs.take n) (xs.take n)
  | _, _, 0, _ => by simp only [List.take_zero]; exact .nil
  | [], xs, n + 1, r => by rw [r.nil_eq]; exact .nil
  | v :: vs, xs, n + 1, r => by
    obtain ⟨y, t, rfl, a, b⟩ := r.cases
    exact .cons a (b.take n)
theorem Reps.drop {μ : Mu} {H : L2.Hp} : ∀ {vs : List Val} {xs : List V} (n : Nat), Reps Z μ H vs xs → Reps Z μ H (vs.drop n) (xs.drop n)
  | _, _, 0, r => r
  | [], xs, n + 1, r => by rw [r.nil_eq]; exact .nil
  | v :: vs, xs, n + 1, r => by
    obtain ⟨y, t, rfl, a, b⟩ := r.cases
    exact b.drop n
theorem Reps.set {μ : Mu} {H : L2.Hp} : ∀ {vs : List Val} {xs : List V} (n : Nat) {v : Val} {x : V}, Reps Z μ H vs xs → Rep Z μ H v x → Reps Z μ H (vs.set n v) (xs.set n x)
  | [], xs, n, _, _, r, _ => by rw [r.nil_eq]; exact .nil
  | w :: vs, xs, 0, _, _, r, q => by
    obtain ⟨y, t, rfl, a, b⟩ := r.cases
    exact .cons q b
  | w :: vs, xs, n + 1, _, _, r, q => by
    obtain ⟨y, t, rfl, a, b⟩ := r.cases
    exact .cons a (b.set n q)
theorem Reps.eraseIdx {μ : Mu} {H : L2.Hp} : ∀ {vs : List Val} {xs : List V} (n : Nat), Reps Z μ H vs xs → Reps Z μ H (vs.eraseIdx n) (xs.eraseIdx n)
  | [], xs, n, r => by rw [r.nil_eq]; exact .nil
  | w :: vs, xs, 0, r => by
    obtain ⟨y, t, rfl, a, b⟩ := r.cases
    exact b
  | w :: vs, xs, n + 1, r => by
    obtain ⟨y, t, rfl, a, b⟩ := r.cases
    exact .cons a (b.eraseIdx n)
theorem Reps.reverse {μ : Mu} {H : L2.Hp} : ∀ {vs : List Val} {xs : List V}, Reps Z μ H vs xs → Reps Z μ H vs.reverse xs.reverse
  | [], xs, r => by rw [r.nil_eq]; exact .nil
  | v :: vs, xs, r => by
    obtain ⟨y, t, rfl, a, b⟩ := r.cases
    rw [List.reverse_cons, List.reverse_cons]
    exact b.reverse.append (.cons a .nil)
theorem Reps.dropLast {μ : Mu} {H : L2.Hp} {vs : List Val} {xs : List V} (r : Reps Z μ H vs xs) : Reps Z μ H vs.dropLast xs.dropLast := by
  rw [List.dropLast_eq_take, List.dropLast_eq_take, r.length]
  exact r.take _
theorem Reps.replicate {μ : Mu} {H : L2.Hp} {vs : List Val} {xs : List V} (r : Reps Z μ H vs xs) : ∀ k : Nat, Reps Z μ H (List.replicate k vs).flatten (List.replicate k xs).flatten
  | 0 => .nil
  | k + 1 => by
    rw [List.replicate_succ, List.replicate_succ, List.flatten_cons, List.flatten_cons]
    exact r.append (r.replicate k)
theorem Reps.ints {μ : Mu} {H : L2.Hp} : ∀ {ns : List Int} {xs : List V}, Reps Z μ H (ns.map Val.int) xs → xs = ns.map V.int
  | [], xs, r => r.nil_eq
  | n :: ns, xs, r => by
    obtain ⟨y, t, rfl, a, b⟩ := r.cases
    have a' : y = V.int n := by simpa only [Rep] using a
    rw [a', b.ints]; rfl
theorem Reps.ofInts {μ : Mu} {H : L2.Hp} : ∀ (ns : List Int), Reps Z μ H (ns.map Val.int) (ns.map V.int)
  | [] => .nil
  | n :: ns => .cons (by simp only [Rep]) (Reps.ofInts ns)

/-! ### fresh objects, changed ones -/
theorem ext_upd {μ : Mu} {H : L2.Hp} {p : Addr} {o : HO} (n : H p = none) : Ext μ H μ (upd H p o) :=
  ⟨Nat.le_refl _, fun _ _ _ e => e, fun l a hl e => absurd (lt_of_get e) (Nat.not_lt.mpr hl), fun a u e _ => by rw [upd_ne (ne_of_none e n)]; exact e, fun a e => by
    by_cases h : a = p
    · subst h; exact n
    · rw [upd_ne h] at e; exact e⟩
theorem RelH.fz {μ : Mu} {h : LH} {H : L2.Hp} (r : RelH Z μ h H) {a : Addr} (n : H a = none) : Fz Z μ a := ⟨fun l => by
  obtain ⟨l, e⟩ := l
  obtain ⟨o, _, q⟩ := r.at_ l a e
  cases o with
  | lst xs => obtain ⟨vs, e, _⟩ := q; rw [n] at e; cases e
  | dct t ks vs => rcases q with ⟨_, _, e, _⟩ | ⟨_, _, e, _⟩ <;> (rw [n] at e; cases e)
  | ins _ _ => exact q.elim
  | dead => exact q.elim, fun z => by
  obtain ⟨u, e, _⟩ := r.kept a z
  rw [n] at e; cases e⟩
theorem RelH.there {μ : Mu} {h : LH} {H : L2.Hp} (r : RelH Z μ h H) {a : Addr} (l : Live μ a) : ∃ o, H a = some o := by
  obtain ⟨l, e⟩ := l
  obtain ⟨o, _, q⟩ := r.at_ l a e
  cases o with
  | lst xs => obtain ⟨vs, e, _⟩ := q; exact ⟨_, e⟩
  | dct t ks vs => rcases q with ⟨_, _, e, _⟩ | ⟨_, _, e, _⟩ <;> exact ⟨_, e⟩
  | ins _ _ => exact q.elim
  | dead => exact q.elim
theorem RelH.thereN {μ : Mu} {h : LH} {H : L2.Hp} (r : RelH Z μ h H) {a : Addr} (l : Live μ a) : ∃ o, H a = some o ∧ ∀ vs, o ≠ .tup vs := by
  obtain ⟨l, e⟩ := l
  obtain ⟨o, _, q⟩ := r.at_ l a e
  cases o with
  | lst xs => obtain ⟨vs, e, _⟩ := q; exact ⟨_, e, fun _ z => nomatch z⟩
  | dct t ks vs => rcases q with ⟨_, _, e, _⟩ | ⟨_, _, e, _⟩ <;> exact ⟨_, e, fun _ z => nomatch z⟩
  | ins _ _ => exact q.elim
  | dead => exact q.elim
theorem RelH.notLive {μ : Mu} {h : LH} {H : L2.Hp} (r : RelH Z μ h H) {a : Addr} (n : H a = none) : ¬ Live μ a := fun l => by
  obtain ⟨o, e⟩ := r.there l
  rw [n] at e; cases e
theorem RepO.ext {μ μ' : Mu} {H H' : L2.Hp} (E : Ext μ H μ' H') {o : Ob} {a : Addr} (e : H' a = H a) : RepO Z μ H o a → RepO Z μ' H' o a := fun r => by
  cases o with
  | lst xs => obtain ⟨vs, q, s⟩ := r; exact ⟨vs, by rw [e]; exact q, Reps.ext E _ _ s⟩
  | dct t ks vs =>
    rcases r with ⟨ht, kvs, q, k, s⟩ | ⟨ht, kvs, q, k, s⟩
    · exact .inl ⟨ht, kvs, by rw [e]; exact q, k, Reps.ext E _ _ s⟩
    · exact .inr ⟨ht, kvs, by rw [e]; exact q, k, Reps.ext E _ _ s⟩
  | ins _ _ => exact r
  | dead => exact r
/-- a fresh object that is not of the local heap -/
theorem RelH.fresh {μ : Mu} {h : LH} {H : L2.Hp} (r : RelH Z μ h H) {p : Addr} {o : HO} (n : H p = none) : RelH Z μ h (upd H p o) where
  len := r.len
  at_ := fun l a e => by
    obtain ⟨u, e1, q⟩ := r.at_ l a e
    refine ⟨u, e1, RepO.ext (ext_upd n) (upd_ne fun z => ?_) q⟩
    subst z
    exact r.notLive n ⟨l, e⟩
  inj := r.inj
  dead := r.dead
  apart := r.apart
  kept := fun a z => by
    obtain ⟨u, e, eu⟩ := r.kept a z
    exact ⟨u, by rw [upd_ne (ne_of_none e n)]; exact e, eu⟩
theorem get_snoc {α : Type} {xs : List α} {x : α} {l : Nat} {y : α} (e : (xs ++ [x])[l]? = some y) : xs[l]? = some y ∨ (l = xs.length ∧ y = x) := by
  by_cases h : l < xs.length
  · rw [List.getElem?_append_left h] at e; exact .inl e
  · have hl := lt_of_get e
    rw [List.length_append, List.length_singleton] at hl
    have : l = xs.length := by omega
    subst this
    rw [List.getElem?_append_right (Nat.le_refl _), Nat.sub_self] at e
    exact .inr ⟨rfl, (Option.some.inj e).symm⟩
theorem ext_push {μ : Mu} {H : L2.Hp} {p : Addr} {o : HO} (n : H p = none) : Ext μ H (μ ++ [some p]) (upd H p o) where
  len := by simp
  old := fun l a hl e => by rw [List.getElem?_append_left hl] at e; exact e
  new := fun l a hl e => by
    rcases get_snoc e with e | ⟨_, e⟩
    · exact absurd (lt_of_get e) (Nat.not_lt.mpr hl)
    · cases e; exact n
  frame := fun a u e _ => by rw [upd_ne (ne_of_none e n)]; exact e
  dom := (ext_upd (μ := μ) n).dom
/-- a fresh object of the local heap -/
theorem RelH.push {μ : Mu} {h : LH} {H : L2.Hp} (r : RelH Z μ h H) {p : Addr} {o : HO} {ob : Ob} (n : H p = none) (q : RepO Z (μ ++ [some p]) (upd H p o) ob p) : RelH Z (μ ++ [some p]) (h ++ [ob]) (upd H p o) where
  len := by simp [r.len]
  at_ := fun l a e0 => by
    rcases get_snoc e0 with e | ⟨e, e2⟩
    · obtain ⟨u, e1, q1⟩ := r.at_ l a e
      refine ⟨u, by rw [List.getElem?_append_left (lt_of_get e1)]; exact e1, RepO.ext (ext_push n) (upd_ne fun z => ?_) q1⟩
      subst z
      exact r.notLive n ⟨l, e⟩
    · cases e2
      clear e0
      subst e
      exact ⟨ob, by rw [List.getElem?_append_right (by rw [r.len]; exact Nat.le_refl _), r.len, Nat.sub_self]; rfl, q⟩
  inj := fun l l' a e e' => by
    rcases get_snoc e with e | ⟨z, e2⟩ <;> rcases get_snoc e' with e' | ⟨z', e2'⟩
    · exact r.inj l l' a e e'
    · cases e2'; exact absurd ⟨l, e⟩ (r.notLive n)
    · cases e2; exact absurd ⟨l', e'⟩ (r.notLive n)
    · rw [z, z']
  dead := fun l e => by
    rcases get_snoc e with e | ⟨_, e⟩
    · have := r.dead l e
      rw [List.getElem?_append_left (lt_of_get this)]; exact this
    · cases e
  apart := fun a ⟨l, e0⟩ z => by
    obtain ⟨u, e1, _⟩ := r.kept a z
    rcases get_snoc e0 with e | ⟨_, e⟩
    · exact r.apart a ⟨l, e⟩ z
    · cases e; rw [n] at e1; cases e1
  kept := fun a z => by
    obtain ⟨u, e, eu⟩ := r.kept a z
    exact ⟨u, by rw [upd_ne (ne_of_none e n)]; exact e, eu⟩
theorem Rep.pushed {μ : Mu} {h : LH} {H : L2.Hp} (r : RelH Z μ h H) {p : Addr} {H' : L2.Hp} : Rep Z (μ ++ [some p]) H' (.ref h.length) (.ref p) := by
  simp only [Rep]
  refine ⟨some p, by rw [List.getElem?_append_right (by rw [r.len]; exact Nat.le_refl _), r.len, Nat.sub_self]; rfl, fun a e => by cases e; rfl⟩
theorem ext_write {μ : Mu} {H : L2.Hp} {l : Nat} {p : Addr} {o u : HO} (e : μ[l]? = some (some p)) (hp : H p = some u) : Ext μ H μ (upd H p o) :=
  ⟨Nat.le_refl _, fun _ _ _ e => e, fun l a hl e => absurd (lt_of_get e) (Nat.not_lt.mpr hl), fun a w q n => by
    rw [upd_ne]
    · exact q
    · rintro rfl; exact n ⟨l, e⟩, fun a q => by
    by_cases h : a = p
    · subst h; rw [upd_same] at q; cases q
    · rw [upd_ne h] at q; exact q⟩
/-- an object of the local heap is changed -/
theorem RelH.write {μ : Mu} {h : LH} {H : L2.Hp} (r : RelH Z μ h H) {l : Nat} {p : Addr} {o u : HO} {ob : Ob} (e : μ[l]? = some (some p)) (hp : H p = some u) (q : RepO Z μ (L2.upd H p o) ob p) : RelH Z μ (h.set l ob) (L2.upd H p o) where
  len := by simp [r.len]
  at_ := fun m a e1 => by
    have hm : m < h.length := by rw [← r.len]; exact lt_of_get e1
    by_cases z : m = l
    · subst z
      rw [e] at e1; cases e1
      exact ⟨ob, by rw [List.getElem?_set_self hm], q⟩
    · obtain ⟨w, e2, q2⟩ := r.at_ m a e1
      refine ⟨w, by rw [List.getElem?_set_ne (Ne.symm z)]; exact e2, RepO.ext (ext_write e hp) (upd_ne fun z2 => ?_) q2⟩
      subst z2
      exact z (r.inj m l a e1 e)
  inj := r.inj
  dead := fun m e1 => by
    have z : m ≠ l := by rintro rfl; rw [e] at e1; cases e1
    rw [List.getElem?_set_ne (Ne.symm z)]; exact r.dead m e1
  apart := r.apart
  kept := fun a z => by
    obtain ⟨u, e1, eu⟩ := r.kept a z
    have ne : a ≠ p := fun q => r.apart p ⟨l, e⟩ (by rw [← q]; exact z)
    exact ⟨u, by rw [upd_ne ne]; exact e1, eu⟩
theorem get_set_none {μ : Mu} {l m : Nat} {a : Addr} (e : (μ.set l none)[m]? = some (some a)) : m ≠ l ∧ μ[m]? = some (some a) := by
  by_cases z : m = l
  · subst z
    have hl := lt_of_get e
    rw [List.length_set] at hl
    rw [List.getElem?_set_self hl] at e
    cases e
  · rw [List.getElem?_set_ne (Ne.symm z)] at e
    exact ⟨z, e⟩
theorem ext_kill {μ : Mu} {H : L2.Hp} (l : Nat) : Ext μ H (μ.set l none) H :=
  ⟨by simp, fun m a _ e => (get_set_none e).2, fun m a hm e => absurd (lt_of_get (get_set_none e).2) (Nat.not_lt.mpr hm), fun _ _ e _ => e, fun _ e => e⟩
theorem RelH.kill {μ : Mu} {h : LH} {H : L2.Hp} (r : RelH Z μ h H) (l : Nat) : RelH Z (μ.set l none) (h.set l .dead) H where
  len := by simp [r.len]
  at_ := fun m a e => by
    obtain ⟨ne, e1⟩ := get_set_none e
    obtain ⟨o, e2, q⟩ := r.at_ m a e1
    exact ⟨o, by rw [List.getElem?_set_ne (Ne.symm ne)]; exact e2, RepO.ext (ext_kill l) rfl q⟩
  inj := fun m m' a e e' => r.inj m m' a (get_set_none e).2 (get_set_none e').2
  dead := fun m e => by
    by_cases z : m = l
    · subst z
      have hl := lt_of_get e
      rw [List.length_set, r.len] at hl
      exact List.getElem?_set_self hl
    · rw [List.getElem?_set_ne (Ne.symm z)] at e ⊢; exact r.dead m e
  apart := fun a ⟨m, e⟩ => r.apart a ⟨m, (get_set_none e).2⟩
  kept := r.kept
/-- what a name holds, by the local heap -/
theorem RelH.ref {μ : Mu} {h : LH} {H : L2.Hp} (r : RelH Z μ h H) {l : Nat} {x : V} {o : Ob} (q : Rep Z μ H (.ref l) x) (e : h[l]? = some o) (n : o ≠ .dead) : ∃ a, x = .ref a ∧ μ[l]? = some (some a) ∧ RepO Z μ H o a := by
  simp only [Rep] at q
  obtain ⟨w, e1, q⟩ := q
  cases w with
  | none =>
    have := r.dead l e1
    rw [e] at this; exact absurd (Option.some.inj this) n
  | some a =>
    obtain ⟨o', e2, q2⟩ := r.at_ l a e1
    rw [e] at e2; cases e2
    exact ⟨a, q a rfl, e1, q2⟩
/-! ### another heap, other reserved places -/
mutual
theorem Rep.move {Z' : Addr → Prop} {μ μ' : Mu} {H H' : L2.Hp} (hz : ∀ p o, H p = some o → Fz Z μ p → H' p = some o ∧ Fz Z' μ' p) (hr : ∀ (l : Nat) (o : Option Addr), μ[l]? = some o → ∃ o' : Option Addr, μ'[l]? = some o' ∧ ∀ a, o' = some a → o = some a) : ∀ (v : Val) (x : V), Rep Z μ H v x → Rep Z' μ' H' v x
  | .non, x, r => by simp only [Rep] at r ⊢; exact r
  | .bl b, x, r => by simp only [Rep] at r ⊢; exact r
  | .int b, x, r => by simp only [Rep] at r ⊢; exact r
  | .str b, x, r => by simp only [Rep] at r ⊢; exact r
  | .tup xs, x, r => by
    simp only [Rep] at r ⊢
    obtain ⟨p, vs, e, n, h, q⟩ := r
    exact ⟨p, vs, e, (hz _ _ h n).2, (hz _ _ h n).1, Reps.move hz hr xs vs q⟩
  | .ftup xs, x, r => by
    simp only [Rep] at r ⊢
    obtain ⟨p, o, vs, e, n, h, d, q⟩ := r
    exact ⟨p, o, vs, e, (hz _ _ h n).2, (hz _ _ h n).1, d, Reps.move hz hr xs vs q⟩
  | .lst xs, x, r => by
    simp only [Rep] at r ⊢
    obtain ⟨p, vs, e, n, h, q⟩ := r
    rcases h with h | ⟨o, h⟩
    · exact ⟨p, vs, e, (hz _ _ h n).2, .inl (hz _ _ h n).1, Reps.move hz hr xs vs q⟩
    · exact ⟨p, vs, e, (hz _ _ h n).2, .inr ⟨o, (hz _ _ h n).1⟩, Reps.move hz hr xs vs q⟩
  | .dct t ks vs, x, r => by
    simp only [Rep] at r ⊢
    obtain ⟨p, e, n, h⟩ := r
    rcases h with ⟨ht, o, kvs, h, k, q⟩ | ⟨ht, o, kvs, h, k, q⟩
    · exact ⟨p, e, (hz _ _ h n).2, .inl ⟨ht, o, kvs, (hz _ _ h n).1, k, Reps.move hz hr vs _ q⟩⟩
    · exact ⟨p, e, (hz _ _ h n).2, .inr ⟨ht, o, kvs, (hz _ _ h n).1, k, Reps.move hz hr vs _ q⟩⟩
  | .ref l, x, r => by
    simp only [Rep] at r ⊢
    obtain ⟨o, e, q⟩ := r
    obtain ⟨o', e', q'⟩ := hr l o e
    exact ⟨o', e', fun a ea => q a (q' a ea)⟩
  | .fn _, x, r => by simp only [Rep] at r
  | .exc _, x, r => by simp only [Rep] at r
theorem Reps.move {Z' : Addr → Prop} {μ μ' : Mu} {H H' : L2.Hp} (hz : ∀ p o, H p = some o → Fz Z μ p → H' p = some o ∧ Fz Z' μ' p) (hr : ∀ (l : Nat) (o : Option Addr), μ[l]? = some o → ∃ o' : Option Addr, μ'[l]? = some o' ∧ ∀ a, o' = some a → o = some a) : ∀ (v : List Val) (x : List V), Reps Z μ H v x → Reps Z' μ' H' v x
  | [], x, r => by rw [r.nil_eq]; exact .nil
  | v :: vs, x, r => by
    obtain ⟨y, t, rfl, a, b⟩ := r.cases
    exact .cons (Rep.move hz hr v y a) (Reps.move hz hr vs t b)
end
theorem RepO.move {Z' : Addr → Prop} {μ μ' : Mu} {H H' : L2.Hp} (hz : ∀ p o, H p = some o → Fz Z μ p → H' p = some o ∧ Fz Z' μ' p) (hr : ∀ (l : Nat) (o : Option Addr), μ[l]? = some o → ∃ o' : Option Addr, μ'[l]? = some o' ∧ ∀ a, o' = some a → o = some a) {o : Ob} {a : Addr} (e : H' a = H a) (r : RepO Z μ H o a) : RepO Z' μ' H' o a := by
  cases o with
  | lst xs => obtain ⟨vs, q, s⟩ := r; exact ⟨vs, by rw [e]; exact q, Reps.move hz hr _ _ s⟩
  | dct t ks vs =>
    rcases r with ⟨ht, kvs, q, k, s⟩ | ⟨ht, kvs, q, k, s⟩
    · exact .inl ⟨ht, kvs, by rw [e]; exact q, k, Reps.move hz hr _ _ s⟩
    · exact .inr ⟨ht, kvs, by rw [e]; exact q, k, Reps.move hz hr _ _ s⟩
  | ins _ _ => exact r
  | dead => exact r
theorem Ext.refs {μ μ' : Mu} {H H' : L2.Hp} (E : Ext μ H μ' H') (l : Nat) (o : Option Addr) (e : μ[l]? = some o) : ∃ o' : Option Addr, μ'[l]? = some o' ∧ ∀ a, o' = some a → o = some a := by
  have hl := lt_of_get e
  have hl' : l < μ'.length := Nat.lt_of_lt_of_le hl E.len
  refine ⟨μ'[l], List.getElem?_eq_getElem hl', fun a ea => ?_⟩
  have e3 := E.old l a hl (by rw [List.getElem?_eq_getElem hl', ea])
  rw [e] at e3
  exact Option.some.inj e3
/-- more is reserved: only what was not there -/
def ZNew (Z Z' : Addr → Prop) (H0 : L2.Hp) : Prop := ∀ a, Z' a → Z a ∨ H0 a = none
theorem ext_z {Z' : Addr → Prop} {μ μ' : Mu} {H H' : L2.Hp} (E : Ext μ H μ' H') (hZ : ZNew Z Z' H) (p : Addr) (o : HO) (e : H p = some o) (n : Fz Z μ p) : H' p = some o ∧ Fz Z' μ' p :=
  ⟨E.frame _ _ e n.1, E.live e n.1, fun z => (hZ p z).elim n.2 fun q => by rw [e] at q; cases q⟩
theorem Rep.extZ {Z' : Addr → Prop} {μ μ' : Mu} {H H' : L2.Hp} (E : Ext μ H μ' H') (hZ : ZNew Z Z' H) {v : Val} {x : V} (r : Rep Z μ H v x) : Rep Z' μ' H' v x := Rep.move (ext_z E hZ) E.refs v x r
theorem Reps.extZ {Z' : Addr → Prop} {μ μ' : Mu} {H H' : L2.Hp} (E : Ext μ H μ' H') (hZ : ZNew Z Z' H) {v : List Val} {x : List V} (r : Reps Z μ H v x) : Reps Z' μ' H' v x := Reps.move (ext_z E hZ) E.refs v x r
theorem ZNew.refl {H : L2.Hp} : ZNew Z Z H := fun _ z => .inl z
end PIS

/-! The operators and built-ins, by values. -/
namespace PIS
open PySem PySem.Spec PyProof.Rows L2
open PI (Val Ob LH R)
variable {Z : Addr → Prop}
/-- a result that no exception leaves -/
def GoV (Z : Addr → Prop) (μ : Mu) (H : L2.Hp) (Q : VK) : R Val → Prop
  | .ok v h' => ∀ x H' μ', RelH Z μ' h' H' → Ext μ H μ' H' → Rep Z μ' H' v x → Q x H'
  | _ => False
theorem GoV.ok {μ : Mu} {h : LH} {H : L2.Hp} {Q : VK} {v : Val} {x : V} (rh : RelH Z μ h H) (g : GoV Z μ H Q (.ok v h)) (r : Rep Z μ H v x) : Q x H := g x H μ rh (Ext.refl _ _) r
/-- a fresh frozen object -/
theorem GoV.new {μ : Mu} {h : LH} {H : L2.Hp} {Q : VK} {v : Val} {p : Addr} {o : HO} (rh : RelH Z μ h H) (g : GoV Z μ H Q (.ok v h)) (n : H p = none) (r : Rep Z μ (upd H p o) v (.ref p)) : Q (.ref p) (upd H p o) :=
  g _ _ μ (rh.fresh n) (ext_upd n) r
theorem rep_lst {μ : Mu} {h : LH} {H : L2.Hp} (rh : RelH Z μ h H) {p : Addr} (n : H p = none) {xs : List Val} {vs : List V} (r : Reps Z μ H xs vs) : Rep Z μ (upd H p (.lst vs)) (.lst xs) (.ref p) := by
  simp only [Rep]
  exact ⟨p, vs, rfl, rh.fz n, .inl upd_same, Reps.ext (ext_upd n) _ _ r⟩
theorem rep_tup {μ : Mu} {h : LH} {H : L2.Hp} (rh : RelH Z μ h H) {p : Addr} (n : H p = none) {xs : List Val} {vs : List V} (r : Reps Z μ H xs vs) : Rep Z μ (upd H p (.tup vs)) (.tup xs) (.ref p) := by
  simp only [Rep]
  exact ⟨p, vs, rfl, rh.fz n, upd_same, Reps.ext (ext_upd n) _ _ r⟩
/-- a fresh list, frozen or mutable -/
theorem GoV.mkL {μ : Mu} {h : LH} {H : L2.Hp} {Q : VK} {m : Bool} {xs : List Val} {vs : List V} (rh : RelH Z μ h H) (r : Reps Z μ H xs vs) (g : GoV Z μ H Q (PI.mkL m xs h)) : xs.length ≤ sizeLine ∧ ∀ p, H p = none → Q (.ref p) (upd H p (.lst vs)) := by
  unfold PI.mkL at g
  by_cases hl : xs.length ≤ PI.SL
  · rw [if_pos hl] at g
    refine ⟨by rw [sizeLine_eq]; exact hl, fun p n => ?_⟩
    cases m with
    | false => exact GoV.new rh g n (rep_lst rh n r)
    | true =>
      refine g _ _ (μ ++ [some p]) (rh.push n ⟨vs, upd_same, Reps.ext (ext_push n) _ _ r⟩) (ext_push n) ?_
      exact Rep.pushed rh
  · rw [if_neg hl] at g; exact g.elim
theorem rep_int {μ : Mu} {H : L2.Hp} {i : Int} {x : V} : Rep Z μ H (.int i) x ↔ x = .int i := by simp only [Rep]
theorem rep_bl {μ : Mu} {H : L2.Hp} {i : Bool} {x : V} : Rep Z μ H (.bl i) x ↔ x = .bl i := by simp only [Rep]
theorem rep_str {μ : Mu} {H : L2.Hp} {s : List Nat} {x : V} : Rep Z μ H (.str s) x ↔ x = .str ⟨s.toArray⟩ := by simp only [Rep]
theorem rep_non {μ : Mu} {H : L2.Hp} {x : V} : Rep Z μ H .non x ↔ x = .non := by simp only [Rep]
/-- a list is read -/
theorem asList_rd {μ : Mu} {h : LH} {H : L2.Hp} (rh : RelH Z μ h H) {a : Val} {x : V} {xs : List Val} (r : Rep Z μ H a x) (e : PI.asList h a = some xs) : ∃ p vs, x = .ref p ∧ Rd H p (.lst vs) ∧ Reps Z μ H xs vs := by
  unfold PI.asList at e
  cases a with
  | lst ys => simp only [Option.some.injEq] at e; subst e; simp only [Rep] at r; obtain ⟨p, vs, e, _, q, s⟩ := r; exact ⟨p, vs, e, q, s⟩
  | ref l =>
    simp only at e
    split at e
    · rename_i ys hl
      simp only [Option.some.injEq] at e; subst e
      obtain ⟨a, rfl, _, q⟩ := rh.ref r hl (by intro z; cases z)
      obtain ⟨vs, q, s⟩ := q
      exact ⟨a, vs, rfl, .inl q, s⟩
    · cases e
  | _ => simp at e
theorem asSeq_rd {μ : Mu} {h : LH} {H : L2.Hp} (rh : RelH Z μ h H) {a : Val} {x : V} {xs : List Val} (r : Rep Z μ H a x) (e : PI.asSeq h a = some xs) :
    ∃ p vs, x = .ref p ∧ (Rd H p (.lst vs) ∨ Rd H p (.tup vs)) ∧ Reps Z μ H xs vs := by
  cases a with
  | lst ys => obtain ⟨p, vs, e1, q, s⟩ := asList_rd (xs := xs) rh r (by simpa [PI.asSeq, PI.asList] using e); exact ⟨p, vs, e1, .inl q, s⟩
  | ref l => obtain ⟨p, vs, e1, q, s⟩ := asList_rd (xs := xs) rh r (by simpa [PI.asSeq, PI.asList] using e); exact ⟨p, vs, e1, .inl q, s⟩
  | tup ys => simp only [PI.asSeq, Option.some.injEq] at e; subst e; simp only [Rep] at r; obtain ⟨p, vs, e, _, q, s⟩ := r; exact ⟨p, vs, e, .inr (.inl q), s⟩
  | ftup ys => simp only [PI.asSeq, Option.some.injEq] at e; subst e; simp only [Rep] at r; obtain ⟨p, o, vs, e, _, q, _, s⟩ := r; exact ⟨p, vs, e, .inr (.inr ⟨o, q⟩), s⟩
  | _ => simp [PI.asSeq] at e
section
variable {X : Cx} {pins : List (Addr × Obj)} {σ : L2.St} {H : L2.Hp} {s : Shared} {l b : Addr} {xs ys zs : List V}
theorem lstR (I : Inv X pins σ H s) (r : Rd H l (.lst xs)) : xs.length ≤ sizeLine ∧ ∃ (its : List Value) (n : Nat), Vals xs its ∧ xs.length = its.length ∧ s.heap.get? l = some { cls := .type "list", data := .seq its.toArray n } := by
  obtain ⟨z, its, n, rv, e⟩ := r.ok I.hok
  exact ⟨z, its, n, rv, rv.length, e⟩
end
section
variable {X : Cx}
/-! ### + - * // % ** -/
def rCatR : R2 := fun x y H Q => ∃ l b xs zs, x = .ref l ∧ y = .ref b ∧ Rd H l (.lst xs) ∧ Rd H b (.lst zs) ∧ xs.length + zs.length ≤ sizeLine ∧ ∀ p, H p = none → Q (.ref p) (upd H p (.lst (xs ++ zs)))
theorem op_catR : OpR X (binaryOp .Add) rCatR := by
  intro pins s σ H x y v u Q I rx ry h
  obtain ⟨l, b, xs, zs, rfl, rfl, hH, hB, hz, q⟩ := h
  cases rx
  cases ry
  obtain ⟨z, its, n, r, hl, e⟩ := lstR I hH
  obtain ⟨z2, its2, n2, r2, hl2, e2⟩ := lstR I hB
  refine PySem.P.add_list e e2 ?_ (by rw [List.size_toArray, List.size_toArray]; omega)
  have ea : its.toArray ++ its2.toArray = (its ++ its2).toArray := by simp
  rw [ea]
  exact ⟨.ref _, _, I.lnew (t' := s.toks) (r.append r2) (by rw [List.length_append]; omega), rfl, q _ I.fresh⟩
theorem str_app (s t : List Nat) : (⟨s.toArray⟩ : Str) ++ ⟨t.toArray⟩ = ⟨(s ++ t).toArray⟩ := by
  show (⟨s.toArray ++ t.toArray⟩ : Str) = _
  simp
theorem str_len (s : List Nat) : (⟨s.toArray⟩ : Str).length = s.length := by
  show s.toArray.size = s.length
  simp
def opOf : PI.Bop → Operator
  | .add => .Add | .sub => .Sub | .mul => .Mult | .div => .FloorDiv | .mod => .Mod | .pow => .Pow
def rBin (m : Bool) (op : PI.Bop) : R2 := fun x y H Q => ∃ Z μ h a b, RelH Z μ h H ∧ Rep Z μ H a x ∧ Rep Z μ H b y ∧ GoV Z μ H Q (PI.binop m op a b h)
theorem op_add_go (m : Bool) : OpR X (binaryOp .Add) (rBin m .add) := by
  intro pins s σ H x y v u Q I rx ry hh
  obtain ⟨Z, μ, h, a, b, rh, ra, rb, g⟩ := hh
  have lists : ∀ sx tx, PI.asList h a = some sx → PI.asList h b = some tx → GoV Z μ H Q (PI.mkL m (sx ++ tx) h) → wpAny (model X.prog X.w) X.A (binaryOp .Add v u) (EP X pins σ Q) X.xe s := by
    intro sx tx e1 e2 g
    obtain ⟨p, vs, rfl, q1, s1⟩ := asList_rd rh ra e1
    obtain ⟨p2, vs2, rfl, q2, s2⟩ := asList_rd rh rb e2
    obtain ⟨hl, q⟩ := GoV.mkL rh (s1.append s2) g
    refine op_catR pins s σ H _ _ v u Q I rx ry ⟨p, p2, vs, vs2, rfl, rfl, q1, q2, ?_, q⟩
    rw [List.length_append, s1.length, s2.length] at hl
    exact hl
  unfold PI.binop at g
  simp only at g
  split at g
  · rw [rep_int] at ra rb
    exact op_add pins s σ H x y v u Q I rx ry ⟨_, _, ra, rb, GoV.ok rh g (rep_int.mpr rfl)⟩
  · rename_i sa sb
    rw [rep_str] at ra rb
    split at g
    · rename_i hl
      refine op_add_str pins s σ H x y v u Q I rx ry ⟨_, _, ra, rb, by rw [str_len, str_len, sizeLine_eq]; exact hl, ?_⟩
      rw [str_app]
      exact GoV.ok rh g (rep_str.mpr rfl)
    · exact g.elim
  · rename_i sa sb
    split at g
    · rename_i hl
      simp only [Rep] at ra rb
      obtain ⟨p, vs, rfl, n1, h1, s1⟩ := ra
      obtain ⟨p2, vs2, rfl, n2, h2, s2⟩ := rb
      refine op_catA pins s σ H _ _ v u Q I rx ry ⟨p, p2, vs, vs2, rfl, rfl, .inl (.inl h1), .inl (.inl h2), ?_, fun e => ?_, fun ne e => ?_, fun ne ne2 q n => ?_⟩
      · rw [← s1.length, ← s2.length, sizeLine_eq]; exact hl
      · subst e
        have : sa = [] := by
          have := s1.length
          simpa using this
        subst this
        refine GoV.ok rh g ?_
        simp only [Rep, List.nil_append]
        exact ⟨p2, vs2, rfl, n2, h2, s2⟩
      · subst e
        have : sb = [] := by
          have := s2.length
          simpa using this
        subst this
        refine GoV.ok rh g ?_
        simp only [Rep, List.append_nil]
        exact ⟨p, vs, rfl, n1, h1, s1⟩
      · exact GoV.new rh g n (rep_tup rh n (s1.append s2))
    · exact g.elim
  · split at g
    · rename_i e1 e2
      exact lists _ _ e1 e2 g
    · exact g.elim
theorem mulOk_of {i j : Int} (h : PI.mulOk i j = true) : CMul i j := by
  unfold PI.mulOk at h
  simp only [Bool.or_eq_true, Bool.and_eq_true, decide_eq_true_eq] at h
  unfold CMul
  exact h
def rRepR : R2 := fun x y H Q => ∃ l k xs, x = .ref l ∧ y = .int k ∧ Rd H l (.lst xs) ∧ -(2 ^ 63) ≤ k ∧ k < 2 ^ 63 ∧ xs.length * k.toNat ≤ sizeLine ∧
  ∀ p, H p = none → Q (.ref p) (upd H p (.lst (List.replicate k.toNat xs).flatten))
theorem op_repR : OpR X (binaryOp .Mult) rRepR := by
  intro pins s σ H x y v u Q I rx ry h
  obtain ⟨l, k, xs, rfl, rfl, hH, h1, h2, hz, q⟩ := h
  cases rx
  obtain ⟨t, rfl⟩ := ry
  obtain ⟨z, its, n, r, hl, e⟩ := lstR I hH
  have hlen : its.toArray.size * k.toNat ≤ sizeLine := by rw [List.size_toArray, ← hl]; exact hz
  have hcap : ¬ its.toArray.size * k.toNat > (2 ^ 63 - 1) / 8 := by
    have : (sizeLine : Nat) ≤ (2 ^ 63 - 1) / 8 := by decide
    omega
  have hfit : ¬ (!Builtin.List.listFitsIndex k) = true := by
    rw [fitsIndex_both h1 h2]
    exact Bool.false_ne_true
  have hlong : ¬ Builtin.List.listTooLong (its.toArray.size * k.toNat) = true := by
    rw [notLongL hlen]
    exact Bool.false_ne_true
  have hnew : List.foldl (fun x1 x2 => x1 ++ x2) #[] (List.replicate (if its.toArray.isEmpty = true then 0 else k.toNat) its.toArray) = (List.replicate k.toNat its).flatten.toArray := by
    have f0 : ∀ m : Nat, List.foldl (fun x1 x2 => x1 ++ x2) #[] (List.replicate m its.toArray) = (List.replicate m its).flatten.toArray := fun m => by
      have := foldl_rep its m []
      rw [List.nil_append] at this
      exact this
    rw [f0]
    cases its with
    | nil => simp
    | cons a r' => rw [if_neg (by simp)]
  refine wpAny_binaryOp_repeat_ref (T := "list") (U := "int") (by decide) ⟨_, e, rfl⟩ (fun s' => typeIs_int s' k t) noFill_list_mul F.fills_int_mul F.slot_int_rmul repeat_list F.slot_int_index.lookup
    (call_meets F.slot_int_rmul (typeIs_int s k t) F.entry_int_rmul (F.args_int_rmul_2 _ _) (int___rmul___int_list k t l its.toArray n)
      ⟨e, rfl, ⟨_, e, rfl⟩, call_meets F.slot_list_mul ⟨_, e, rfl⟩ F.entry_list_mul (F.args_list_mul_2 _ _) (AutoListH.list___mul___list_int_3 l its.toArray n k t hfit hcap hlong) ⟨e, ?_⟩⟩)
  rw [hnew]
  exact ⟨.ref _, _, I.lnew (t' := s.toks) (r.rep k.toNat) (by rw [PyProof.Rows.lm_len_rep_flat, Nat.mul_comm]; exact hz), rfl, q _ I.fresh⟩
theorem op_sub_go (m : Bool) : OpR X (binaryOp .Sub) (rBin m .sub) := by
  intro pins s σ H x y v u Q I rx ry hh
  obtain ⟨Z, μ, h, a, b, rh, ra, rb, g⟩ := hh
  unfold PI.binop at g
  simp only at g
  split at g
  · rw [rep_int] at ra rb
    exact op_sub pins s σ H x y v u Q I rx ry ⟨_, _, ra, rb, GoV.ok rh g (rep_int.mpr rfl)⟩
  · exact g.elim
theorem op_div_go (m : Bool) : OpR X (binaryOp .FloorDiv) (rBin m .div) := by
  intro pins s σ H x y v u Q I rx ry hh
  obtain ⟨Z, μ, h, a, b, rh, ra, rb, g⟩ := hh
  unfold PI.binop at g
  simp only at g
  split at g
  · rw [rep_int] at ra rb
    split at g
    · rename_i c
      exact op_fdiv pins s σ H x y v u Q I rx ry ⟨_, _, ra, rb, c, GoV.ok rh g (rep_int.mpr rfl)⟩
    · exact g.elim
  · exact g.elim
theorem op_mod_go (m : Bool) : OpR X (binaryOp .Mod) (rBin m .mod) := by
  intro pins s σ H x y v u Q I rx ry hh
  obtain ⟨Z, μ, h, a, b, rh, ra, rb, g⟩ := hh
  unfold PI.binop at g
  simp only at g
  split at g
  · rw [rep_int] at ra rb
    split at g
    · rename_i c
      exact op_mod pins s σ H x y v u Q I rx ry ⟨_, _, ra, rb, c, GoV.ok rh g (rep_int.mpr rfl)⟩
    · exact g.elim
  · exact g.elim
theorem op_pow_go (m : Bool) : OpR X (binaryOp .Pow) (rBin m .pow) := by
  intro pins s σ H x y v u Q I rx ry hh
  obtain ⟨Z, μ, h, a, b, rh, ra, rb, g⟩ := hh
  unfold PI.binop at g
  simp only at g
  split at g
  · rw [rep_int] at ra rb
    split at g
    · rename_i c
      exact op_pow pins s σ H x y v u Q I rx ry ⟨_, _, ra, rb, ⟨c.1, by omega, c.2.2⟩, GoV.ok rh g (rep_int.mpr rfl)⟩
    · exact g.elim
  · exact g.elim
theorem op_mul_go (m : Bool) : OpR X (binaryOp .Mult) (rBin m .mul) := by
  intro pins s σ H x y v u Q I rx ry hh
  obtain ⟨Z, μ, h, a, b, rh, ra, rb, g⟩ := hh
  unfold PI.binop at g
  simp only at g
  split at g
  · rw [rep_int] at ra rb
    split at g
    · rename_i c
      exact op_mul pins s σ H x y v u Q I rx ry ⟨_, _, ra, rb, mulOk_of c, GoV.ok rh g (rep_int.mpr rfl)⟩
    · exact g.elim
  · rename_i sa k
    split at g
    · rename_i c
      obtain ⟨c1, c2, c3, c4⟩ := c
      rw [rep_int] at rb
      simp only [Rep] at ra
      obtain ⟨p, vs, rfl, n1, h1, s1⟩ := ra
      refine op_repT pins s σ H _ _ v u Q I rx ry ⟨p, _, vs, rfl, rb, .inl (.inl h1), fun e => ?_, c1, c2, ?_, fun q n => GoV.new rh g n (rep_tup rh n (s1.replicate _))⟩
      · subst e
        exact c4 (by simpa using s1.length)
      · rw [← s1.length]; exact c3
    · exact g.elim
  · rename_i k _ _
    split at g
    · rename_i sx e1
      split at g
      · rename_i c
        obtain ⟨c1, c2, c3⟩ := c
        rw [rep_int] at rb
        obtain ⟨p, vs, rfl, q1, s1⟩ := asList_rd rh ra e1
        obtain ⟨hl, q⟩ := GoV.mkL rh (s1.replicate k.toNat) g
        refine op_repR pins s σ H _ _ v u Q I rx ry ⟨p, _, vs, rfl, rb, q1, by omega, by omega, ?_, q⟩
        rw [← s1.length, sizeLine_eq]; exact c3
      · exact g.elim
    · exact g.elim
  · exact g.elim
theorem op_bin (m : Bool) (op : PI.Bop) : OpR X (binaryOp (opOf op)) (rBin m op) := by
  cases op with
  | add => exact op_add_go m
  | sub => exact op_sub_go m
  | mul => exact op_mul_go m
  | div => exact op_div_go m
  | mod => exact op_mod_go m
  | pow => exact op_pow_go m
end

/-! ### data -/
mutual
def toD : Val → PyData
  | .non => .none
  | .bl b => .bool b
  | .int i => .int i
  | .str s => .str ⟨s.toArray⟩
  | .tup xs => .tuple (toDs xs)
  | .ftup xs => .tuple (toDs xs)
  | .lst xs => .list (toDs xs)
  | _ => .none
def toDs : List Val → List PyData
  | [] => []
  | x :: xs => toD x :: toDs xs
end
theorem toDs_map : ∀ xs : List Val, toDs xs = xs.map toD
  | [] => by simp [toDs]
  | x :: xs => by simp [toDs, toDs_map xs]
mutual
theorem dp_of {K : PySem.W.Frag} {μ : Mu} {H : L2.Hp} : ∀ (v : Val) (x : V), PI.isData v = true → Rep Z μ H v x → Dp K H x (toD v)
  | .non, x, _, r => by simp only [Rep] at r; subst r; simp only [toD]; exact .non
  | .bl b, x, _, r => by simp only [Rep] at r; subst r; simp only [toD]; exact .bl b
  | .int b, x, _, r => by simp only [Rep] at r; subst r; simp only [toD]; exact .int b
  | .str b, x, _, r => by simp only [Rep] at r; subst r; simp only [toD]; exact .str _
  | .tup xs, x, d, r => by
    simp only [Rep] at r; simp only [PI.isData] at d
    obtain ⟨p, vs, rfl, _, h, s⟩ := r
    simp only [toD]
    exact .tup (.inl (.inl h)) (dps_of xs vs d s)
  | .ftup xs, x, d, r => by
    simp only [Rep] at r; simp only [PI.isData] at d
    obtain ⟨p, o, vs, rfl, _, h, _, s⟩ := r
    simp only [toD]
    exact .tup (.inl (.inr ⟨o, h⟩)) (dps_of xs vs d s)
  | .lst xs, x, d, r => by
    simp only [Rep] at r; simp only [PI.isData] at d
    obtain ⟨p, vs, rfl, _, h, s⟩ := r
    simp only [toD]
    exact .lst (.inl h) (dps_of xs vs d s)
  | .dct _ _ _, x, d, _ => by simp [PI.isData] at d
  | .ref _, x, d, _ => by simp [PI.isData] at d
  | .fn _, x, d, _ => by simp [PI.isData] at d
  | .exc _, x, d, _ => by simp [PI.isData] at d
theorem dps_of {K : PySem.W.Frag} {μ : Mu} {H : L2.Hp} : ∀ (v : List Val) (x : List V), PI.isDatas v = true → Reps Z μ H v x → DpAll K H x (toDs v)
  | [], x, _, r => by rw [r.nil_eq]; simp only [toDs]; exact .nil
  | v :: vs, x, d, r => by
    obtain ⟨y, t, rfl, a, b⟩ := r.cases
    simp only [PI.isDatas, Bool.and_eq_true] at d
    simp only [toDs]
    exact .cons (dp_of v y d.1 a) (dps_of vs t d.2 b)
end
theorem strOk_of {s : List Nat} (h : (s.all fun c => decide (c < 1114112)) = true) : PyData.strOk ⟨s.toArray⟩ = true := by
  show s.toArray.all (· < 0x110000) = true
  rw [← Array.all_toList]
  simpa using h
mutual
theorem lay_of : ∀ v : Val, PI.isData v = true → (toD v).canLay0 = true ∧ (toD v).depth ≤ PI.vdepth v
  | .non, _ => by simp [toD, PyData.canLay0, PyData.depth]
  | .bl b, _ => by simp [toD, PyData.canLay0, PyData.depth]
  | .int b, _ => by simp [toD, PyData.canLay0, PyData.depth]
  | .str b, d => by simp only [PI.isData] at d; simp [toD, PyData.canLay0, PyData.depth, strOk_of d]
  | .tup xs, d => by simp only [PI.isData] at d; have := lays_of xs d; simp [toD, PyData.canLay0, PyData.depth, PI.vdepth, this.1, this.2]
  | .ftup xs, d => by simp only [PI.isData] at d; have := lays_of xs d; simp [toD, PyData.canLay0, PyData.depth, PI.vdepth, this.1, this.2]
  | .lst xs, d => by simp only [PI.isData] at d; have := lays_of xs d; simp [toD, PyData.canLay0, PyData.depth, PI.vdepth, this.1, this.2]
  | .dct _ _ _, d => by simp [PI.isData] at d
  | .ref _, d => by simp [PI.isData] at d
  | .fn _, d => by simp [PI.isData] at d
  | .exc _, d => by simp [PI.isData] at d
theorem lays_of : ∀ v : List Val, PI.isDatas v = true → PyData.canLayAll0 (toDs v) = true ∧ PyData.depthAll (toDs v) ≤ PI.vdepths v
  | [], _ => by simp [toDs, PyData.canLayAll0, PyData.depthAll]
  | v :: vs, d => by
    simp only [PI.isDatas, Bool.and_eq_true] at d
    have a := lay_of v d.1
    have b := lays_of vs d.2
    simp only [toDs, PyData.canLayAll0, PyData.depthAll, PI.vdepths, a.1, b.1, Bool.and_self, true_and]
    omega
end
theorem shaped_of {v : Val} (d : PI.isData v = true) (n : PI.vdepth v ≤ 60) : SeqAt.shaped (toD v) = true := by
  have := lay_of v d
  unfold SeqAt.shaped
  rw [this.1, Bool.true_and, decide_eq_true_eq]
  omega
theorem str_beq (a b : List Nat) : ((⟨a.toArray⟩ : Str) == ⟨b.toArray⟩) = (a == b) := by
  by_cases h : a = b
  · subst h; simp
  · have : ¬ (⟨a.toArray⟩ : Str) = ⟨b.toArray⟩ := fun e => by
      injection e with e
      exact h (by simpa using e)
    rw [beq_eq_false_iff_ne.mpr this, beq_eq_false_iff_ne.mpr h]
mutual
theorem eqv_of : ∀ a b : Val, PI.isData a = true → PI.isData b = true → PyData.eqv (toD a) (toD b) = PI.veq a b
  | .non, b, _, d => by cases b <;> simp_all [toD, PyData.eqv, PI.veq, PI.isData]
  | .bl x, b, _, d => by cases b <;> simp_all [toD, PyData.eqv, PI.veq, PI.isData]
  | .int x, b, _, d => by cases b <;> simp_all [toD, PyData.eqv, PI.veq, PI.isData]
  | .str x, b, _, d => by cases b <;> simp_all [toD, PyData.eqv, PI.veq, PI.isData, str_beq]
  | .tup xs, b, c, d => by
    cases b with
    | tup ys => simp only [PI.isData] at c d; simp only [toD, PyData.eqv, PI.veq]; exact eqvs_of xs ys c d
    | ftup ys => simp only [PI.isData] at c d; simp only [toD, PyData.eqv, PI.veq]; exact eqvs_of xs ys c d
    | _ => simp_all [toD, PyData.eqv, PI.veq, PI.isData]
  | .ftup xs, b, c, d => by
    cases b with
    | tup ys => simp only [PI.isData] at c d; simp only [toD, PyData.eqv, PI.veq]; exact eqvs_of xs ys c d
    | ftup ys => simp only [PI.isData] at c d; simp only [toD, PyData.eqv, PI.veq]; exact eqvs_of xs ys c d
    | _ => simp_all [toD, PyData.eqv, PI.veq, PI.isData]
  | .lst xs, b, c, d => by
    cases b with
    | lst ys => simp only [PI.isData] at c d; simp only [toD, PyData.eqv, PI.veq]; exact eqvs_of xs ys c d
    | _ => simp_all [toD, PyData.eqv, PI.veq, PI.isData]
  | .dct _ _ _, b, d, _ => by simp [PI.isData] at d
  | .ref _, b, d, _ => by simp [PI.isData] at d
  | .fn _, b, d, _ => by simp [PI.isData] at d
  | .exc _, b, d, _ => by simp [PI.isData] at d
theorem eqvs_of : ∀ a b : List Val, PI.isDatas a = true → PI.isDatas b = true → PyData.eqvAll (toDs a) (toDs b) = PI.veqs a b
  | [], [], _, _ => by simp [toDs, PyData.eqvAll, PI.veqs]
  | [], y :: ys, _, _ => by simp [toDs, PyData.eqvAll, PI.veqs]
  | x :: xs, [], _, _ => by simp [toDs, PyData.eqvAll, PI.veqs]
  | x :: xs, y :: ys, c, d => by
    simp only [PI.isDatas, Bool.and_eq_true] at c d
    simp only [toDs, PyData.eqvAll, PI.veqs]
    rw [eqv_of x y c.1 d.1, eqvs_of xs ys c.2 d.2]
end
theorem asData_dp {K : PySem.W.Frag} {μ : Mu} {h : LH} {H : L2.Hp} (rh : RelH Z μ h H) {a a' : Val} {x : V} (r : Rep Z μ H a x) (e : PI.asData h a = some a') : PI.isData a' = true ∧ Dp K H x (toD a') := by
  unfold PI.asData at e
  split at e
  · rename_i l
    split at e
    · rename_i xs hl
      split at e
      · rename_i d
        simp only [Option.some.injEq] at e; subst e
        obtain ⟨a, rfl, _, q⟩ := rh.ref r hl (by intro z; cases z)
        obtain ⟨vs, q, s⟩ := q
        refine ⟨by simpa [PI.isData] using d, ?_⟩
        simp only [toD]
        exact .lst (.inl (.inl q)) (dps_of xs vs d s)
      · cases e
    · cases e
  · split at e
    · rename_i d
      simp only [Option.some.injEq] at e; subst e
      exact ⟨d, dp_of _ x d r⟩
    · cases e
end PIS

/-! Comparisons, items, slices, built-in functions and methods, by values. -/
namespace PIS
open PySem PySem.Spec PyProof.Rows L2
open PI (Val Ob LH R)
variable {Z : Addr → Prop}
section
variable {X : Cx}
def rCmp (op : PI.Cop) : R2 := fun x y H Q => ∃ Z μ h a b c, RelH Z μ h H ∧ Rep Z μ H a x ∧ Rep Z μ H b y ∧ PI.cmpop op a b h = some c ∧ Q (.bl c) H
def cmpOf : PI.Cop → CmpOp
  | .eq => .Eq | .ne => .NotEq | .lt => .Lt | .le => .LtE | .gt => .Gt | .ge => .GtE | .isIn => .In | .notIn => .NotIn | .isC b => if b then .IsNot else .Is
theorem op_eq_go (hu : X.A.units + 64 < cLine) : OpR X (compareOp .Eq) (rCmp .eq) := by
  intro pins s σ H x y v u Q I rx ry hh
  obtain ⟨Z, μ, h, a, b, c, rh, ra, rb, e, q⟩ := hh
  unfold PI.cmpop at e
  simp only at e
  split at e
  · rename_i a' b' ea eb
    split at e
    · rename_i d
      obtain ⟨da, pa⟩ := asData_dp (K := X.K) rh ra ea
      obtain ⟨db, pb⟩ := asData_dp (K := X.K) rh rb eb
      simp only [Option.some.injEq] at e
      subst e
      refine op_eqD hu pins s σ H x y v u Q I rx ry ⟨_, _, pa, pb, shaped_of da d.1, shaped_of db d.2, ?_⟩
      rw [eqv_of _ _ da db]; exact q
    · cases e
  · cases e
theorem op_ne_go (hu : X.A.units + 64 < cLine) : OpR X (compareOp .NotEq) (rCmp .ne) := by
  intro pins s σ H x y v u Q I rx ry hh
  obtain ⟨Z, μ, h, a, b, c, rh, ra, rb, e, q⟩ := hh
  unfold PI.cmpop at e
  simp only at e
  split at e
  · rename_i a' b' ea eb
    split at e
    · rename_i d
      obtain ⟨da, pa⟩ := asData_dp (K := X.K) rh ra ea
      obtain ⟨db, pb⟩ := asData_dp (K := X.K) rh rb eb
      simp only [Option.some.injEq] at e
      subst e
      refine op_neD hu pins s σ H x y v u Q I rx ry ⟨_, _, pa, pb, shaped_of da d.1, shaped_of db d.2, ?_⟩
      rw [eqv_of _ _ da db]; exact q
    · cases e
  · cases e
theorem op_lt_go : OpR X (compareOp .Lt) (rCmp .lt) := by
  intro pins s σ H x y v u Q I rx ry hh
  obtain ⟨Z, μ, h, a, b, c, rh, ra, rb, e, q⟩ := hh
  unfold PI.cmpop at e
  simp only at e
  split at e
  · simp only [Option.some.injEq] at e; subst e
    exact op_lt pins s σ H x y v u Q I rx ry ⟨_, _, rep_int.mp ra, rep_int.mp rb, q⟩
  · cases e
theorem op_le_go : OpR X (compareOp .LtE) (rCmp .le) := by
  intro pins s σ H x y v u Q I rx ry hh
  obtain ⟨Z, μ, h, a, b, c, rh, ra, rb, e, q⟩ := hh
  unfold PI.cmpop at e
  simp only at e
  split at e
  · simp only [Option.some.injEq] at e; subst e
    exact op_le pins s σ H x y v u Q I rx ry ⟨_, _, rep_int.mp ra, rep_int.mp rb, q⟩
  · cases e
theorem op_gt_go : OpR X (compareOp .Gt) (rCmp .gt) := by
  intro pins s σ H x y v u Q I rx ry hh
  obtain ⟨Z, μ, h, a, b, c, rh, ra, rb, e, q⟩ := hh
  unfold PI.cmpop at e
  simp only at e
  split at e
  · simp only [Option.some.injEq] at e; subst e
    exact op_gt pins s σ H x y v u Q I rx ry ⟨_, _, rep_int.mp ra, rep_int.mp rb, q⟩
  · cases e
theorem op_ge_go : OpR X (compareOp .GtE) (rCmp .ge) := by
  intro pins s σ H x y v u Q I rx ry hh
  obtain ⟨Z, μ, h, a, b, c, rh, ra, rb, e, q⟩ := hh
  unfold PI.cmpop at e
  simp only at e
  split at e
  · simp only [Option.some.injEq] at e; subst e
    exact op_ge pins s σ H x y v u Q I rx ry ⟨_, _, rep_int.mp ra, rep_int.mp rb, q⟩
  · cases e
theorem isConst_of {μ : Mu} {H : L2.Hp} {a b : Val} {x y : V} {r : Bool} (ra : Rep Z μ H a x) (rb : Rep Z μ H b y) (e : PI.isConst a b = some r) :
    (y = .non ∧ r = decide (x = .non)) ∨ ∃ p q : Bool, x = .bl p ∧ y = .bl q ∧ r = decide (p = q) := by
  unfold PI.isConst at e
  split at e
  · simp only [Option.some.injEq] at e; subst e
    exact .inl ⟨rep_non.mp rb, by rw [rep_non.mp ra]; simp⟩
  · simp only [Option.some.injEq] at e; subst e
    exact .inr ⟨_, _, rep_bl.mp ra, rep_bl.mp rb, by rename_i p q; cases p <;> cases q <;> rfl⟩
  · cases e
  · cases e
  · cases e
  · simp only [Option.some.injEq] at e; subst e
    refine .inl ⟨rep_non.mp rb, ?_⟩
    rw [eq_comm, decide_eq_false_iff_not]
    rintro rfl
    cases a <;> simp_all [Rep]
  · cases e
  · cases e
theorem op_is_go : OpR X (compareOp .Is) (rCmp (.isC false)) := by
  intro pins s σ H x y v u Q I rx ry hh
  obtain ⟨Z, μ, h, a, b, c, rh, ra, rb, e, q⟩ := hh
  unfold PI.cmpop at e
  simp only [Option.map_eq_some_iff] at e
  obtain ⟨r, e, e2⟩ := e
  simp only [Bool.false_eq_true, if_false] at e2
  subst e2
  rcases isConst_of ra rb e with ⟨rfl, rfl⟩ | ⟨p, t, rfl, rfl, rfl⟩
  · exact op_isN pins s σ H x _ v u Q I rx ry ⟨rfl, q⟩
  · exact op_isBl pins s σ H _ _ v u Q I rx ry ⟨_, _, rfl, rfl, q⟩
theorem op_isnot_go : OpR X (compareOp .IsNot) (rCmp (.isC true)) := by
  intro pins s σ H x y v u Q I rx ry hh
  obtain ⟨Z, μ, h, a, b, c, rh, ra, rb, e, q⟩ := hh
  unfold PI.cmpop at e
  simp only [Option.map_eq_some_iff] at e
  obtain ⟨r, e, e2⟩ := e
  simp only [if_true] at e2
  subst e2
  rcases isConst_of ra rb e with ⟨rfl, rfl⟩ | ⟨p, t, rfl, rfl, rfl⟩
  · exact op_notN pins s σ H x _ v u Q I rx ry ⟨rfl, q⟩
  · exact op_notBl pins s σ H _ _ v u Q I rx ry ⟨_, _, rfl, rfl, q⟩

/-! ### dicts -/
theorem keyV_base (k : Key) : PI.keyBase (keyV k) = true := by cases k <;> rfl
theorem veq_keyV (a b : Key) : PI.veq (keyV a) (keyV b) = decide (a = b) := by
  cases a <;> cases b
  · rename_i i j
    simp only [keyV, PI.veq]
    by_cases h : i = j
    · subst h; simp
    · have : ¬ (Sum.inl i : Key) = Sum.inl j := fun e => h (Sum.inl.inj e)
      rw [decide_eq_false this, beq_eq_false_iff_ne.mpr h]
  · simp [keyV, PI.veq]
  · simp [keyV, PI.veq]
  · rename_i i j
    simp only [keyV, PI.veq]
    by_cases h : i = j
    · subst h; simp
    · have h1 : ¬ (Sum.inr i : Key) = Sum.inr j := fun e => h (Sum.inr.inj e)
      have h2 : ¬ i.cps.toList = j.cps.toList := fun e => h (by
        have e' := congrArg List.toArray e
        simp only [Array.toArray_toList] at e'
        cases i; cases j; simpa using e')
      rw [decide_eq_false h1, beq_eq_false_iff_ne.mpr h2]
theorem veqs_keyV : ∀ a b : List Key, PI.veqs (a.map keyV) (b.map keyV) = decide (a = b)
  | [], [] => by simp [PI.veqs]
  | [], _ :: _ => by simp [PI.veqs]
  | _ :: _, [] => by simp [PI.veqs]
  | x :: xs, y :: ys => by
    simp only [List.map_cons, PI.veqs, veq_keyV, veqs_keyV xs ys, List.cons.injEq]
    by_cases h1 : x = y <;> by_cases h2 : xs = ys <;> simp [h1, h2]
/-- a key that is an int or a text -/
theorem key_of_rep {μ : Mu} {H : L2.Hp} {k : Val} {y : V} (r : Rep Z μ H k y) (b : PI.keyBase k = true) : ∃ key, k = keyV key ∧ y = kV key := by
  cases k <;> simp [PI.keyBase] at b
  · rename_i i; exact ⟨.inl i, rfl, rep_int.mp r⟩
  · rename_i s; exact ⟨.inr ⟨s.toArray⟩, by simp [keyV], rep_str.mp r⟩
theorem keys_of_reps {μ : Mu} {H : L2.Hp} : ∀ {ks : List Val} {ys : List V}, Reps Z μ H ks ys → (ks.all PI.keyBase) = true → ∃ keys : List Key, ks = keys.map keyV ∧ ys = keys.map kV
  | [], ys, r, _ => ⟨[], rfl, r.nil_eq⟩
  | k :: ks, ys, r, b => by
    obtain ⟨y, t, rfl, a, q⟩ := r.cases
    simp only [List.all_cons, Bool.and_eq_true] at b
    obtain ⟨key, rfl, rfl⟩ := key_of_rep a b.1
    obtain ⟨keys, rfl, rfl⟩ := keys_of_reps q b.2
    exact ⟨key :: keys, rfl, rfl⟩
theorem dget_K {μ : Mu} {H : L2.Hp} (key : Key) : ∀ {kvs : List (Key × V)} {vs : List Val}, Reps Z μ H vs (kvs.map (·.2)) →
    (∀ v, PI.dget (keyV key) (kvs.map fun p => keyV p.1) vs = some v → ∃ x, valV kvs key = some x ∧ Rep Z μ H v x) ∧ (PI.dget (keyV key) (kvs.map fun p => keyV p.1) vs = none → valV kvs key = none)
  | [], vs, r => by
    rw [List.map_nil] at r
    have : vs = [] := by simpa using r.length
    subst this
    simp [PI.dget, valV_nil]
  | p :: kvs, [], r => by have := r.nil_eq; simp at this
  | p :: kvs, w :: vs, r => by
    simp only [List.map_cons] at r
    obtain ⟨y, t, e, a, q⟩ := r.cases
    injection e with e1 e2
    subst e1 e2
    simp only [List.map_cons, PI.dget, veq_keyV]
    by_cases h : p.1 = key
    · simp only [h, decide_true, if_true, Option.some.injEq]
      exact ⟨fun v ev => ⟨p.2, by rw [valV_pos h], ev ▸ a⟩, fun ev => by cases ev⟩
    · simp only [h, decide_false, Bool.false_eq_true, if_false]
      rw [valV_neg h]
      exact dget_K key q
theorem dget_T {μ : Mu} {H : L2.Hp} (key : List Key) : ∀ {kvs : List (List Key × V)} {vs : List Val}, Reps Z μ H vs (kvs.map (·.2)) →
    (∀ v, PI.dget (.tup (key.map keyV)) (kvs.map fun p => Val.tup (p.1.map keyV)) vs = some v → ∃ x, valV kvs key = some x ∧ Rep Z μ H v x) ∧ (PI.dget (.tup (key.map keyV)) (kvs.map fun p => Val.tup (p.1.map keyV)) vs = none → valV kvs key = none)
  | [], vs, r => by
    rw [List.map_nil] at r
    have : vs = [] := by simpa using r.length
    subst this
    simp [PI.dget, valV_nil]
  | p :: kvs, [], r => by have := r.nil_eq; simp at this
  | p :: kvs, w :: vs, r => by
    simp only [List.map_cons] at r
    obtain ⟨y, t, e, a, q⟩ := r.cases
    injection e with e1 e2
    subst e1 e2
    simp only [List.map_cons, PI.dget, PI.veq, veqs_keyV]
    by_cases h : p.1 = key
    · simp only [h, decide_true, if_true, Option.some.injEq]
      exact ⟨fun v ev => ⟨p.2, by rw [valV_pos h], ev ▸ a⟩, fun ev => by cases ev⟩
    · simp only [h, decide_false, Bool.false_eq_true, if_false]
      rw [valV_neg h]
      exact dget_T key q
/-- where a dict stands -/
def DictAt (Z : Addr → Prop) (μ : Mu) (H : L2.Hp) (p : Addr) (t : Bool) (ks vs : List Val) : Prop :=
  (t = false ∧ ∃ kvs, Rd H p (.dK kvs) ∧ KeysK ks kvs ∧ Reps Z μ H vs (kvs.map (·.2))) ∨ (t = true ∧ ∃ kvs, Rd H p (.dT kvs) ∧ KeysT ks kvs ∧ Reps Z μ H vs (kvs.map (·.2)))
theorem asDict_rd {μ : Mu} {h : LH} {H : L2.Hp} (rh : RelH Z μ h H) {a : Val} {x : V} {t : Bool} {ks vs : List Val} (r : Rep Z μ H a x) (e : PI.asDict h a = some (t, ks, vs)) : ∃ p, x = .ref p ∧ DictAt Z μ H p t ks vs := by
  unfold PI.asDict at e
  split at e
  · simp only [Option.some.injEq, Prod.mk.injEq] at e
    obtain ⟨rfl, rfl, rfl⟩ := e
    simp only [Rep] at r
    obtain ⟨p, e, _, q⟩ := r
    refine ⟨p, e, ?_⟩
    rcases q with ⟨z, o, kvs, q, k, s⟩ | ⟨z, o, kvs, q, k, s⟩
    · exact .inl ⟨z, kvs, .inr ⟨o, q⟩, k, s⟩
    · exact .inr ⟨z, kvs, .inr ⟨o, q⟩, k, s⟩
  · split at e
    · rename_i t' ks' vs' hl
      simp only [Option.some.injEq, Prod.mk.injEq] at e
      obtain ⟨rfl, rfl, rfl⟩ := e
      obtain ⟨a, rfl, _, q⟩ := rh.ref r hl (by intro z; cases z)
      refine ⟨a, rfl, ?_⟩
      rcases q with ⟨z, kvs, q, k, s⟩ | ⟨z, kvs, q, k, s⟩
      · exact .inl ⟨z, kvs, .inl q, k, s⟩
      · exact .inr ⟨z, kvs, .inl q, k, s⟩
    · cases e
  · cases e
theorem tup_rep {μ : Mu} {H : L2.Hp} {k : Val} {y : V} (r : Rep Z μ H k y) (b : PI.keyT k = true) : ∃ keys : List Key, k = .tup (keys.map keyV) ∧ ∃ p, y = .ref p ∧ H p = some (.tup (keys.map kV)) := by
  cases k <;> simp [PI.keyT] at b
  rename_i xs
  simp only [Rep] at r
  obtain ⟨p, vs, rfl, _, h, s⟩ := r
  obtain ⟨keys, rfl, rfl⟩ := keys_of_reps s (by simpa using b)
  exact ⟨keys, rfl, p, rfl, h⟩
theorem dict_get {μ : Mu} {H : L2.Hp} {k : Val} {y : V} {p : Addr} {t : Bool} {ks vs : List Val} (d : DictAt Z μ H p t ks vs) (r : Rep Z μ H k y) (f : PI.keyOf t k = true) :
    ∃ o, DGet H p y o ∧ (∀ v, PI.dget k ks vs = some v → ∃ x, o = some x ∧ Rep Z μ H v x) ∧ (PI.dget k ks vs = none → o = none) := by
  rcases d with ⟨rfl, kvs, q, hk, s⟩ | ⟨rfl, kvs, q, hk, s⟩
  · unfold KeysK at hk
    subst hk
    obtain ⟨key, rfl, rfl⟩ := key_of_rep r f
    exact ⟨_, .inl ⟨kvs, key, q, rfl, rfl⟩, (dget_K key s).1, (dget_K key s).2⟩
  · unfold KeysT at hk
    subst hk
    obtain ⟨keys, rfl, b, rfl, hb⟩ := tup_rep r f
    exact ⟨_, .inr ⟨kvs, keys, b, q, rfl, hb, rfl⟩, (dget_T keys s).1, (dget_T keys s).2⟩
end
end PIS

namespace PIS
open PySem PySem.Spec PyProof.Rows L2
open PI (Val Ob LH R)
variable {Z : Addr → Prop}
section
variable {X : Cx}
theorem toDs_any (a : Val) (da : PI.isData a = true) : ∀ xs : List Val, PI.isDatas xs = true → ((toDs xs).any fun z => PyData.eqv z (toD a)) = xs.any fun z => PI.veq z a
  | [], _ => by simp [toDs]
  | x :: xs, d => by
    simp only [PI.isDatas, Bool.and_eq_true] at d
    simp only [toDs, List.any_cons, eqv_of x a d.1 da, toDs_any a da xs d.2]
/-- x in a list or tuple -/
theorem in_seq_go (neg : Bool) (hu : X.A.units + 65 < cLine) {pins : List (Addr × PySem.Obj)} {σ : L2.St} {H : L2.Hp} {s : Shared} {x y : V} {v u : Value} {Q : VK} (I : Inv X pins σ H s) (rx : RelV x v) (ry : RelV y u)
    {μ : Mu} {a : Val} {xs : List Val} {p : Addr} {vs : List V} (ra : Rep Z μ H a x) (e : y = .ref p) (hp : Rd H p (.lst vs) ∨ Rd H p (.tup vs)) (rs : Reps Z μ H xs vs)
    (da : PI.isData a = true) (ds : PI.isDatas xs = true) (na : PI.vdepth a ≤ 60) (q : Q (.bl (if neg then !(xs.any fun z => PI.veq z a) else xs.any fun z => PI.veq z a)) H) :
    wpAny (model X.prog X.w) X.A (compareOp (if neg then .NotIn else .In) v u) (EP X pins σ Q) X.xe s := by
  subst e
  obtain ⟨as, r1⟩ := Dp.reads I _ x v (dp_of (K := X.K) a x da ra) rx
  have sa := shaped_of da na
  have lay := (lays_of xs ds).1
  have all := dps_of (K := X.K) xs vs ds rs
  rw [← toDs_any a da xs ds] at q
  rcases hp with hp | hp
  · obtain ⟨bs, r2⟩ := Dp.reads I (.list (toDs xs)) _ u (.lst (.inl hp) all) ry
    cases neg with
    | false => exact SeqAt.in_list_reads r2 r1 lay (SeqAt.canLay_of_shaped sa) (room_in_shaped sa hu) ⟨.bl _, H, I, rfl, q⟩
    | true => exact SeqAt.notIn_list_reads r2 r1 lay (SeqAt.canLay_of_shaped sa) (room_in_shaped sa hu) ⟨.bl _, H, I, rfl, q⟩
  · obtain ⟨bs, r2⟩ := Dp.reads I (.tuple (toDs xs)) _ u (.tup (.inl hp) all) ry
    cases neg with
    | false => exact SeqAt.in_tuple_reads r2 r1 lay (SeqAt.canLay_of_shaped sa) (room_in_shaped sa hu) ⟨.bl _, H, I, rfl, q⟩
    | true => exact SeqAt.notIn_tuple_reads r2 r1 lay (SeqAt.canLay_of_shaped sa) (room_in_shaped sa hu) ⟨.bl _, H, I, rfl, q⟩
theorem in_go (neg : Bool) (hu : X.A.units + 65 < cLine) {pins : List (Addr × PySem.Obj)} {σ : L2.St} {H : L2.Hp} {s : Shared} {x y : V} {v u : Value} {Q : VK} (I : Inv X pins σ H s) (rx : RelV x v) (ry : RelV y u)
    {μ : Mu} {h : LH} {a b : Val} {c : Bool} (rh : RelH Z μ h H) (ra : Rep Z μ H a x) (rb : Rep Z μ H b y) (e : PI.cmpop.isIn a b h = some c) (q : Q (.bl (if neg then !c else c)) H) :
    wpAny (model X.prog X.w) X.A (compareOp (if neg then .NotIn else .In) v u) (EP X pins σ Q) X.xe s := by
  have dict : ∀ {t ks vs}, PI.asDict h b = some (t, ks, vs) → PI.keyOf t a = true → (PI.dget a ks vs).isSome = c → wpAny (model X.prog X.w) X.A (compareOp (if neg then .NotIn else .In) v u) (EP X pins σ Q) X.xe s := by
    intro t ks vs e f z
    obtain ⟨p, rfl, d⟩ := asDict_rd rh rb e
    obtain ⟨o, g, g1, g2⟩ := dict_get d ra f
    have : o.isSome = c := by
      rw [← z]
      cases hd : PI.dget a ks vs with
      | none => rw [g2 hd]; rfl
      | some w => obtain ⟨x', e1, _⟩ := g1 w hd; rw [e1]; rfl
    rw [← this] at q
    cases ry
    cases neg with
    | false => exact d_in (by omega) I g rx fun s' I' => ⟨.bl _, H, I', rfl, q⟩
    | true => exact d_notIn (by omega) I g rx fun s' I' => ⟨.bl _, H, I', rfl, q⟩
  unfold PI.cmpop.isIn at e
  split at e
  · rename_i t ks vs
    split at e
    · rename_i f
      exact dict (t := t) (ks := ks) (vs := vs) rfl f (Option.some.inj e)
    · cases e
  · split at e
    · rename_i tt _ cc
      have e2 : c = decide (cc ∈ (⟨tt.toArray⟩ : Str).cps.toList) := by
        rw [← Option.some.inj e]
        simp
      subst e2
      have hx := rep_str.mp ra
      have hy := rep_str.mp rb
      cases neg with
      | false => exact op_in_sign pins s σ H x y v u Q I rx ry ⟨cc, _, hx, hy, q⟩
      | true => exact op_notIn_sign pins s σ H x y v u Q I rx ry ⟨cc, _, hx, hy, q⟩
    · cases e
  · rename_i l
    split at e
    · rename_i t ks vs hl
      split at e
      · rename_i f
        exact dict (t := t) (ks := ks) (vs := vs) (by simp [PI.asDict, hl]) f (Option.some.inj e)
      · cases e
    · rename_i xs hl
      split at e
      · rename_i f
        obtain ⟨p, vs, e1, e2, e3⟩ := asSeq_rd (xs := xs) rh rb (by simp [PI.asSeq, hl])
        refine in_seq_go neg hu I rx ry ra e1 e2 e3 f.1 f.2.1 f.2.2.1 ?_
        rw [Option.some.inj e]; exact q
      · cases e
    · cases e
  · rename_i xs
    split at e
    · rename_i f
      obtain ⟨p, vs, e1, e2, e3⟩ := asSeq_rd (xs := xs) rh rb rfl
      refine in_seq_go neg hu I rx ry ra e1 e2 e3 f.1 f.2.1 f.2.2.1 ?_
      rw [Option.some.inj e]; exact q
    · cases e
  · rename_i xs
    split at e
    · rename_i f
      obtain ⟨p, vs, e1, e2, e3⟩ := asSeq_rd (xs := xs) rh rb rfl
      refine in_seq_go neg hu I rx ry ra e1 e2 e3 f.1 f.2.1 f.2.2.1 ?_
      rw [Option.some.inj e]; exact q
    · cases e
  · rename_i xs
    split at e
    · rename_i f
      obtain ⟨p, vs, e1, e2, e3⟩ := asSeq_rd (xs := xs) rh rb rfl
      refine in_seq_go neg hu I rx ry ra e1 e2 e3 f.1 f.2.1 f.2.2.1 ?_
      rw [Option.some.inj e]; exact q
    · cases e
  · cases e
theorem op_cmp (hu : X.A.units + 65 < cLine) (op : PI.Cop) : OpR X (compareOp (cmpOf op)) (rCmp op) := by
  cases op with
  | eq => exact op_eq_go (by omega)
  | ne => exact op_ne_go (by omega)
  | lt => exact op_lt_go
  | le => exact op_le_go
  | gt => exact op_gt_go
  | ge => exact op_ge_go
  | isC b => cases b with
    | false => exact op_is_go
    | true => exact op_isnot_go
  | isIn =>
    intro pins s σ H x y v u Q I rx ry hh
    obtain ⟨Z, μ, h, a, b, c, rh, ra, rb, e, q⟩ := hh
    exact in_go false hu I rx ry rh ra rb e q
  | notIn =>
    intro pins s σ H x y v u Q I rx ry hh
    obtain ⟨Z, μ, h, a, b, c, rh, ra, rb, e, q⟩ := hh
    simp only [PI.cmpop, Option.map_eq_some_iff] at e
    obtain ⟨c', e, e2⟩ := e
    refine in_go true hu I rx ry rh ra rb e ?_
    simp only [if_true]
    rw [e2]; exact q

/-! ### items -/
theorem ixN_eq (n : Nat) (i : Int) : PI.ixN n i = L2.ixN n i := rfl
theorem atI_of {α : Type} {xs : List α} {i : Int} {j : Nat} {x : α} (h1 : PI.ixN xs.length i = some j) (h2 : xs[j]? = some x) : atI xs i = some x := by
  unfold atI
  rw [ixN_eq] at h1
  rw [h1]; exact h2
def rIxGo : R2 := fun x y H Q => ∃ Z μ h a i v, RelH Z μ h H ∧ Rep Z μ H a x ∧ Rep Z μ H i y ∧ PI.asDict h a = none ∧ PI.getIx a i h = some v ∧ ∀ x', Rep Z μ H v x' → Q x' H
theorem ix_go : IxR X rIxGo := by
  intro value slice pins s σ H x y v u Q I rx ry hh hs
  obtain ⟨Z, μ, h, a, i, w, rh, ra, ri, nd, e, q⟩ := hh
  unfold PI.getIx at e
  rw [nd] at e
  simp only at e
  cases i <;> simp only [reduceCtorEq] at e
  rename_i k
  split at e
  · rename_i sx
    split at e
    · rename_i hl
      simp only [Option.bind_eq_some_iff, Option.map_eq_some_iff] at e
      obtain ⟨j, e1, c, e2, e3⟩ := e
      subst e3
      refine ix_str value slice pins s σ H x y v u Q I rx ry ⟨_, _, c, rep_str.mp ra, rep_int.mp ri, by rw [str_len, sizeLine_eq]; exact hl, atI_of (j := j) (by simpa using e1) (by simpa using e2), q _ (rep_str.mpr (by simp))⟩ hs
    · cases e
  · simp only [Option.bind_eq_some_iff] at e
    obtain ⟨xs, e1, j, e2, e3⟩ := e
    obtain ⟨p, vs, hx, hp, rs⟩ := asSeq_rd rh ra e1
    obtain ⟨x', hx', rx'⟩ := rs.get e3
    have at' : atI vs k = some x' := atI_of (j := j) (by rw [← rs.length]; exact e2) hx'
    rcases hp with hp | hp
    · exact ix_list value slice pins s σ H x y v u Q I rx ry ⟨p, vs, k, x', hx, rep_int.mp ri, .inl hp, at', q x' rx'⟩ hs
    · exact ix_tup value slice pins s σ H x y v u Q I rx ry ⟨p, vs, k, x', hx, rep_int.mp ri, .inl hp, at', q x' rx'⟩ hs

/-! ### slices -/
theorem sIx_eq (n d : Nat) (o : Option Int) : PI.sIx n d o = HT.sIx n d o := by cases o <;> rfl
theorem cut_reps {μ : Mu} {H : L2.Hp} {xs : List Val} {vs : List V} (r : Reps Z μ H xs vs) (lo hi : Option Int) : Reps Z μ H (PI.cutL xs lo hi) (cutV vs lo hi) := by
  unfold PI.cutL cutV
  rw [sIx_eq, sIx_eq, r.length]
  exact (r.drop _).take _
theorem cut_str (s : List Nat) (lo hi : Option Int) : cutS ⟨s.toArray⟩ lo hi = ⟨(PI.cutL s lo hi).toArray⟩ := by
  unfold cutS PI.cutL
  rw [str_len, sIx_eq, sIx_eq]
def rSlGo (m : Bool) : V → Option Int → Option Int → L2.Hp → VK → Prop := fun x lo hi H Q => ∃ Z μ h a, RelH Z μ h H ∧ Rep Z μ H a x ∧ GoV Z μ H Q (PI.slice m a lo hi h)
theorem sl_go (m : Bool) : SlR X (rSlGo m) := by
  intro pins s σ H x v vl vu lo hi sl Q I rx hsl pl pu hh
  obtain ⟨Z, μ, h, a, rh, ra, g⟩ := hh
  unfold PI.slice at g
  split at g
  · rename_i sx
    split at g
    · rename_i hl
      refine sl_str pins s σ H x v vl vu lo hi sl Q I rx hsl pl pu ⟨_, rep_str.mp ra, by rw [str_len, sizeLine_eq]; exact hl, ?_⟩
      rw [cut_str]
      exact GoV.ok rh g (rep_str.mpr rfl)
    · exact g.elim
  · rename_i xs
    simp only [Rep] at ra
    obtain ⟨p, vs, rfl, n1, h1, s1⟩ := ra
    refine sl_tupA pins s σ H _ v vl vu lo hi sl Q I rx hsl pl pu ⟨p, vs, rfl, .inl (.inl h1), fun w => ?_, fun w q n => ?_⟩
    · refine GoV.ok rh g ?_
      have : PI.cutL xs lo hi = xs := by
        unfold PI.cutL
        rw [sIx_eq, sIx_eq, s1.length, w.1, w.2, List.drop_zero, Nat.sub_zero, ← s1.length]
        exact List.take_length
      rw [this]
      simp only [Rep]
      exact ⟨p, vs, rfl, n1, h1, s1⟩
    · exact GoV.new rh g n (rep_tup rh n (cut_reps s1 lo hi))
  · rename_i xs
    split at g
    · exact g.elim
    · rename_i w0
      simp only [Rep] at ra
      obtain ⟨p, o, vs, rfl, n1, h1, _, s1⟩ := ra
      refine sl_tupA pins s σ H _ v vl vu lo hi sl Q I rx hsl pl pu ⟨p, vs, rfl, .inl (.inr ⟨o, h1⟩), fun w => ?_, fun w q n => ?_⟩
      · rw [sIx_eq, sIx_eq, s1.length] at w0
        exact absurd w w0
      · exact GoV.new rh g n (rep_tup rh n (cut_reps s1 lo hi))
  · split at g
    · rename_i xs e1
      obtain ⟨p, vs, rfl, q1, s1⟩ := asList_rd rh ra e1
      obtain ⟨hl, q⟩ := GoV.mkL rh (cut_reps s1 lo hi) g
      exact sl_list pins s σ H _ v vl vu lo hi sl Q I rx hsl pl pu ⟨p, vs, rfl, .inl q1, q⟩
    · exact g.elim
end
end PIS

namespace PIS
open PySem PySem.Spec PyProof.Rows L2
open PI (Val Ob LH R)
variable {Z : Addr → Prop}
section
variable {X : Cx}
theorem boolsOf_eq : ∀ {xs : List Val} {bs : List Bool}, PI.boolsOf xs = some bs → xs = bs.map Val.bl
  | [], bs, e => by simp [PI.boolsOf] at e; subst e; rfl
  | .bl b :: r, bs, e => by
    simp only [PI.boolsOf, Option.map_eq_some_iff] at e
    obtain ⟨t, e1, e2⟩ := e
    subst e2
    rw [boolsOf_eq e1]; rfl
  | .non :: _, _, e => by simp [PI.boolsOf] at e
  | .int _ :: _, _, e => by simp [PI.boolsOf] at e
  | .str _ :: _, _, e => by simp [PI.boolsOf] at e
  | .tup _ :: _, _, e => by simp [PI.boolsOf] at e
  | .ftup _ :: _, _, e => by simp [PI.boolsOf] at e
  | .lst _ :: _, _, e => by simp [PI.boolsOf] at e
  | .dct _ _ _ :: _, _, e => by simp [PI.boolsOf] at e
  | .ref _ :: _, _, e => by simp [PI.boolsOf] at e
  | .fn _ :: _, _, e => by simp [PI.boolsOf] at e
  | .exc _ :: _, _, e => by simp [PI.boolsOf] at e
theorem intsOf_eq : ∀ {xs : List Val} {bs : List Int}, PI.intsOf xs = some bs → xs = bs.map Val.int
  | [], bs, e => by simp [PI.intsOf] at e; subst e; rfl
  | .int b :: r, bs, e => by
    simp only [PI.intsOf, Option.map_eq_some_iff] at e
    obtain ⟨t, e1, e2⟩ := e
    subst e2
    rw [intsOf_eq e1]; rfl
  | .non :: _, _, e => by simp [PI.intsOf] at e
  | .bl _ :: _, _, e => by simp [PI.intsOf] at e
  | .str _ :: _, _, e => by simp [PI.intsOf] at e
  | .tup _ :: _, _, e => by simp [PI.intsOf] at e
  | .ftup _ :: _, _, e => by simp [PI.intsOf] at e
  | .lst _ :: _, _, e => by simp [PI.intsOf] at e
  | .dct _ _ _ :: _, _, e => by simp [PI.intsOf] at e
  | .ref _ :: _, _, e => by simp [PI.intsOf] at e
  | .fn _ :: _, _, e => by simp [PI.intsOf] at e
  | .exc _ :: _, _, e => by simp [PI.intsOf] at e
theorem Reps.bls {μ : Mu} {H : L2.Hp} : ∀ {ns : List Bool} {xs : List V}, Reps Z μ H (ns.map Val.bl) xs → xs = ns.map V.bl
  | [], xs, r => r.nil_eq
  | n :: ns, xs, r => by
    obtain ⟨y, t, rfl, a, b⟩ := r.cases
    rw [rep_bl.mp a, b.bls]; rfl
theorem maxI_spec : ∀ (r : List Int) (m : Int), PI.maxI m r ∈ m :: r ∧ ∀ y ∈ m :: r, y ≤ PI.maxI m r
  | [], m => by simp [PI.maxI]
  | x :: r, m => by
    have ih := maxI_spec r (if m < x then x else m)
    simp only [PI.maxI]
    have h4 : m ≤ (if m < x then x else m) := by split <;> omega
    have h5 : x ≤ (if m < x then x else m) := by split <;> omega
    have h6 : (if m < x then x else m) = x ∨ (if m < x then x else m) = m := by split <;> simp
    generalize (if m < x then x else m) = k at *
    obtain ⟨h1, h2⟩ := ih
    have h3 := h2 _ List.mem_cons_self
    refine ⟨?_, fun y hy => ?_⟩
    · rcases List.mem_cons.mp h1 with e | h
      · rw [e]
        rcases h6 with rfl | rfl <;> simp
      · exact List.mem_cons_of_mem _ (List.mem_cons_of_mem _ h)
    · rcases List.mem_cons.mp hy with rfl | hy
      · exact Int.le_trans h4 h3
      · rcases List.mem_cons.mp hy with rfl | hy
        · exact Int.le_trans h5 h3
        · exact h2 y (List.mem_cons_of_mem _ hy)
theorem minI_spec : ∀ (r : List Int) (m : Int), PI.minI m r ∈ m :: r ∧ ∀ y ∈ m :: r, PI.minI m r ≤ y
  | [], m => by simp [PI.minI]
  | x :: r, m => by
    have ih := minI_spec r (if x < m then x else m)
    simp only [PI.minI]
    have h4 : (if x < m then x else m) ≤ m := by split <;> omega
    have h5 : (if x < m then x else m) ≤ x := by split <;> omega
    have h6 : (if x < m then x else m) = x ∨ (if x < m then x else m) = m := by split <;> simp
    generalize (if x < m then x else m) = k at *
    obtain ⟨h1, h2⟩ := ih
    have h3 := h2 _ List.mem_cons_self
    refine ⟨?_, fun y hy => ?_⟩
    · rcases List.mem_cons.mp h1 with e | h
      · rw [e]
        rcases h6 with rfl | rfl <;> simp
      · exact List.mem_cons_of_mem _ (List.mem_cons_of_mem _ h)
    · rcases List.mem_cons.mp hy with rfl | hy
      · exact Int.le_trans h3 h4
      · rcases List.mem_cons.mp hy with rfl | hy
        · exact Int.le_trans h3 h5
        · exact h2 y (List.mem_cons_of_mem _ hy)
theorem insI_perm (x : Int) : ∀ l : List Int, (PI.insI x l).Perm (x :: l)
  | [] => by simp [PI.insI]
  | y :: r => by
    simp only [PI.insI]
    split
    · exact ((insI_perm x r).cons y).trans (List.Perm.swap x y r)
    · exact List.Perm.refl _
theorem sortI_perm : ∀ l : List Int, (PI.sortI l).Perm l
  | [] => by simp [PI.sortI]
  | x :: r => by
    simp only [PI.sortI]
    exact (insI_perm x _).trans ((sortI_perm r).cons x)
theorem insI_sorted (x : Int) : ∀ l : List Int, l.Pairwise (· ≤ ·) → (PI.insI x l).Pairwise (· ≤ ·)
  | [], _ => by simp [PI.insI]
  | y :: r, h => by
    simp only [PI.insI]
    obtain ⟨h1, h2⟩ := List.pairwise_cons.mp h
    split
    · rename_i c
      refine List.pairwise_cons.mpr ⟨fun z hz => ?_, insI_sorted x r h2⟩
      rcases List.mem_cons.mp ((insI_perm x r).mem_iff.mp hz) with rfl | hz
      · exact Int.le_of_lt c
      · exact h1 z hz
    · rename_i c
      refine List.pairwise_cons.mpr ⟨fun z hz => ?_, h⟩
      rcases List.mem_cons.mp hz with rfl | hz
      · exact Int.not_lt.mp c
      · exact Int.le_trans (Int.not_lt.mp c) (h1 z hz)
theorem sortI_sorted : ∀ l : List Int, (PI.sortI l).Pairwise (· ≤ ·)
  | [] => by simp [PI.sortI]
  | x :: r => by simp only [PI.sortI]; exact insI_sorted x _ (sortI_sorted r)
theorem sorted_uniq : ∀ {a b : List Int}, a.Perm b → a.Pairwise (· ≤ ·) → b.Pairwise (· ≤ ·) → a = b
  | [], b, p, _, _ => by have := p.length_eq; cases b <;> simp_all
  | x :: a, [], p, _, _ => by have := p.length_eq; simp at this
  | x :: a, y :: b, p, h1, h2 => by
    obtain ⟨a1, a2⟩ := List.pairwise_cons.mp h1
    obtain ⟨b1, b2⟩ := List.pairwise_cons.mp h2
    have hx : x ∈ y :: b := p.mem_iff.mp List.mem_cons_self
    have hy : y ∈ x :: a := p.mem_iff.mpr List.mem_cons_self
    have e : x = y := by
      rcases List.mem_cons.mp hx with e | hx
      · exact e
      · rcases List.mem_cons.mp hy with e | hy
        · exact e.symm
        · exact Int.le_antisymm (a1 y hy) (b1 x hx)
    subst e
    rw [sorted_uniq (List.Perm.cons_inv p) a2 b2]
/-- a tuple of a list, known as an object -/
theorem call_tuple_frz : CallR X (.type "tuple") (fun xs H Q => ∃ p ys, xs = [.ref p] ∧ Rd H p (.lst ys) ∧ ∀ l o, H l = none → o.dict = none → Q (.ref l) (upd H l (.frz o (.tup ys)))) := by
  intro pins s σ H xs us Q I r h
  obtain ⟨p, ys, rfl, hq, q⟩ := h
  obtain ⟨u, rfl, rx⟩ := vals1 r
  cases rx
  obtain ⟨its, r', pl, hz⟩ := I.list (.inl hq)
  have hlen := r'.length
  refine call_tuple_list pl.isList (fun h' kp => ?_) (by simp only [List.size_toArray] <;> omega)
  have I1 : Inv X pins σ H { s with heap := h' } := I.kept (t' := s.toks) kp
  have I2 : Inv X pins σ (upd H h'.objs.size (.frz { cls := .type "tuple", data := .seq its.toArray } (.tup ys))) { s with heap := h'.push { cls := .type "tuple", data := .seq its.toArray } } :=
    I1.laid (t' := s.toks) (fun b o e => Heap.get?_push_of_some _ e) (Nat.le_refl _) (show ObjOk X.prog X.w _ _ _ (.frz _ (.tup ys)) from ⟨Heap.get?_push_size _ rfl, hz, its, r', IsTup.new _ _⟩)
  exact ⟨.ref h'.objs.size, _, I2, rfl, q _ _ (I1.hok.fresh (Nat.le_refl _)) rfl⟩
def rBi (m : Bool) (f : PI.Bi) : List V → L2.Hp → VK → Prop := fun xs H Q => ∃ Z μ h as, RelH Z μ h H ∧ Reps Z μ H as xs ∧ GoV Z μ H Q (PI.bi m f as h)
inductive BiK : PI.Bi → Value → Prop
  | len : BiK .len (.builtin "len") | list : BiK .list (.type "list") | tuple : BiK .tuple (.type "tuple") | any : BiK .anyL (.builtin "any") | all : BiK .allL (.builtin "all") | sum : BiK .sum (.builtin "sum")
  | maxL : BiK .maxL (.builtin "max") | minL : BiK .minL (.builtin "min") | max2 : BiK .max2 (.builtin "max") | min2 : BiK .min2 (.builtin "min") | abs : BiK .abs (.builtin "abs") | int : BiK .int (.type "int") | sorted : BiK .sorted (.builtin "sorted")
theorem one_rep {μ : Mu} {H : L2.Hp} {a : Val} {xs : List V} (r : Reps Z μ H [a] xs) : ∃ x, xs = [x] ∧ Rep Z μ H a x := by
  obtain ⟨y, t, rfl, a, b⟩ := r.cases
  rw [b.nil_eq]; exact ⟨y, rfl, a⟩
theorem two_rep {μ : Mu} {H : L2.Hp} {a b : Val} {xs : List V} (r : Reps Z μ H [a, b] xs) : ∃ x y, xs = [x, y] ∧ Rep Z μ H a x ∧ Rep Z μ H b y := by
  obtain ⟨y, t, rfl, a, q⟩ := r.cases
  obtain ⟨x, rfl, b⟩ := one_rep q
  exact ⟨y, x, rfl, a, b⟩
theorem optR_some {μ : Mu} {H : L2.Hp} {Q : VK} {h : LH} {o : Option Val} (g : GoV Z μ H Q (PI.optR h o)) : ∃ v, o = some v ∧ GoV Z μ H Q (.ok v h) := by
  cases o with
  | none => exact g.elim
  | some v => exact ⟨v, rfl, g⟩
theorem bi_ok {f : PI.Bi} {cv : Value} (k : BiK f cv) (hc : X.calm = true) (m : Bool) : CallR X cv (rBi m f) := by
  intro pins s σ H xs us Q I rv hh
  obtain ⟨Z, μ, h, as, rh, ras, g⟩ := hh
  have nope : ∀ {P : Prop}, GoV Z μ H Q .err → P := fun z => False.elim z
  cases k with
  | len =>
    cases as with
    | nil => exact nope g
    | cons a r => cases r with
      | cons _ _ => exact nope g
      | nil =>
        obtain ⟨x, rfl, ra⟩ := one_rep ras
        have gl : ∀ a', Rep Z μ H a' x → GoV Z μ H Q (PI.optR h ((PI.asSeq h a').map fun xs => .int xs.length)) → wpAny (model X.prog X.w) X.A (call (.builtin "len") us) (EP X pins σ Q) X.xe s := by
          intro a' ra g
          obtain ⟨v, e, g'⟩ := optR_some g
          simp only [Option.map_eq_some_iff] at e
          obtain ⟨ys, e1, e2⟩ := e
          subst e2
          obtain ⟨p, vs, rfl, hp, rs⟩ := asSeq_rd rh ra e1
          refine call_len pins s σ H _ us Q I rv ⟨_, ys.length, rfl, ?_, GoV.ok rh g' (rep_int.mpr rfl)⟩
          rcases hp with hp | hp
          · exact .inl ⟨vs, .inl hp, rs.length⟩
          · exact .inr ⟨vs, .inl hp, rs.length⟩
        cases a with
        | str sx =>
          have g' : GoV Z μ H Q (if sx.length ≤ PI.SL then .ok (.int sx.length) h else .err) := g
          split at g'
          · rename_i hl
            refine call_len pins s σ H _ us Q I rv ⟨_, sx.length, rfl, ?_, GoV.ok rh g' (rep_int.mpr rfl)⟩
            rw [rep_str.mp ra]
            exact ⟨by rw [str_len, sizeLine_eq]; exact hl, (str_len sx).symm⟩
          · exact nope g'
        | _ => first | exact nope g | exact gl _ ra g
  | list =>
    cases as with
    | nil => exact nope g
    | cons a r => cases r with
      | cons _ _ => exact nope g
      | nil =>
        obtain ⟨x, rfl, ra⟩ := one_rep ras
        have g' : GoV Z μ H Q (match PI.asSeq h a with | some xs => PI.mkL m xs h | none => .err) := g
        split at g'
        · rename_i ys e1
          obtain ⟨p, vs, rfl, hp, rs⟩ := asSeq_rd rh ra e1
          obtain ⟨hl, q⟩ := GoV.mkL rh rs g'
          refine call_list_of pins s σ H _ us Q I rv ⟨p, vs, rfl, ?_, q⟩
          rcases hp with hp | hp
          · exact .inl (.inl hp)
          · exact .inr (.inl hp)
        · exact nope g'
  | tuple =>
    cases as with
    | nil => exact nope g
    | cons a r => cases r with
      | cons _ _ => exact nope g
      | nil =>
        obtain ⟨x, rfl, ra⟩ := one_rep ras
        have lists : ∀ {ys}, PI.asList h a = some ys → GoV Z μ H Q (.ok (if m then .ftup ys else .tup ys) h) → wpAny (model X.prog X.w) X.A (call (.type "tuple") us) (EP X pins σ Q) X.xe s := by
          intro ys e1 g'
          obtain ⟨p, vs, rfl, hp, rs⟩ := asList_rd rh ra e1
          cases m with
          | false => exact call_tuple_of pins s σ H _ us Q I rv ⟨p, vs, rfl, .inl ⟨.inl hp, fun l n => GoV.new rh g' n (rep_tup rh n rs)⟩⟩
          | true =>
            refine call_tuple_frz pins s σ H _ us Q I rv ⟨p, vs, rfl, hp, fun l o n d => GoV.new rh g' n ?_⟩
            simp only [if_true, Rep]
            exact ⟨l, o, vs, rfl, rh.fz n, upd_same, d, Reps.ext (ext_upd n) _ _ rs⟩
        have gl : ∀ a', PI.asList h a' = PI.asList h a → GoV Z μ H Q (PI.optR h ((PI.asList h a').map fun xs => if m then .ftup xs else .tup xs)) → wpAny (model X.prog X.w) X.A (call (.type "tuple") us) (EP X pins σ Q) X.xe s := by
          intro a' ea g
          obtain ⟨v, e, g'⟩ := optR_some g
          simp only [Option.map_eq_some_iff] at e
          obtain ⟨ys, e1, e2⟩ := e
          subst e2
          exact lists (ea ▸ e1) g'
        cases a with
        | tup sx =>
          have g' : GoV Z μ H Q (.ok (.tup sx) h) := g
          have ra' := ra
          simp only [Rep] at ra'
          obtain ⟨p, vs, rfl, n1, h1, s1⟩ := ra'
          exact call_tuple_of pins s σ H _ us Q I rv ⟨p, vs, rfl, .inr ⟨.inl (.inl h1), GoV.ok rh g' ra⟩⟩
        | ftup sx =>
          have g' : GoV Z μ H Q (.ok (.ftup sx) h) := g
          have ra' := ra
          simp only [Rep] at ra'
          obtain ⟨p, o, vs, rfl, n1, h1, _, s1⟩ := ra'
          exact call_tuple_of pins s σ H _ us Q I rv ⟨p, vs, rfl, .inr ⟨.inl (.inr ⟨o, h1⟩), GoV.ok rh g' ra⟩⟩
        | _ => first | exact nope g | exact gl _ rfl g
  | any =>
    cases as with
    | nil => exact nope g
    | cons a r => cases r with
      | cons _ _ => exact nope g
      | nil =>
        obtain ⟨x, rfl, ra⟩ := one_rep ras
        obtain ⟨v, e, g'⟩ := optR_some (show GoV Z μ H Q (PI.optR h _) from g)
        simp only [Option.bind_eq_some_iff, Option.map_eq_some_iff] at e
        obtain ⟨ys, e1, bs, e2, e3⟩ := e
        subst e3
        obtain ⟨p, vs, rfl, hp, rs⟩ := asList_rd rh ra e1
        rw [boolsOf_eq e2] at rs
        rw [rs.bls] at hp
        exact cr_any hc pins s σ H _ us Q I rv ⟨p, bs, rfl, .inl hp, GoV.ok rh g' (rep_bl.mpr rfl)⟩
  | all =>
    cases as with
    | nil => exact nope g
    | cons a r => cases r with
      | cons _ _ => exact nope g
      | nil =>
        obtain ⟨x, rfl, ra⟩ := one_rep ras
        obtain ⟨v, e, g'⟩ := optR_some (show GoV Z μ H Q (PI.optR h _) from g)
        simp only [Option.bind_eq_some_iff, Option.map_eq_some_iff] at e
        obtain ⟨ys, e1, bs, e2, e3⟩ := e
        subst e3
        obtain ⟨p, vs, rfl, hp, rs⟩ := asList_rd rh ra e1
        rw [boolsOf_eq e2] at rs
        rw [rs.bls] at hp
        exact cr_all hc pins s σ H _ us Q I rv ⟨p, bs, rfl, .inl hp, GoV.ok rh g' (rep_bl.mpr rfl)⟩
  | sum =>
    cases as with
    | nil => exact nope g
    | cons a r => cases r with
      | cons _ _ => exact nope g
      | nil =>
        obtain ⟨x, rfl, ra⟩ := one_rep ras
        obtain ⟨v, e, g'⟩ := optR_some (show GoV Z μ H Q (PI.optR h _) from g)
        simp only [Option.bind_eq_some_iff, Option.map_eq_some_iff] at e
        obtain ⟨ys, e1, bs, e2, e3⟩ := e
        subst e3
        obtain ⟨p, vs, rfl, hp, rs⟩ := asList_rd rh ra e1
        rw [intsOf_eq e2] at rs
        rw [rs.ints] at hp
        exact cr_sum hc pins s σ H _ us Q I rv ⟨p, bs, rfl, .inl hp, GoV.ok rh g' (rep_int.mpr rfl)⟩
  | maxL =>
    cases as with
    | nil => exact nope g
    | cons a r => cases r with
      | cons _ _ => exact nope g
      | nil =>
        obtain ⟨x, rfl, ra⟩ := one_rep ras
        have g' : GoV Z μ H Q (match (PI.asList h a).bind PI.intsOf with | some (x :: r) => .ok (.int (PI.maxI x r)) h | _ => .err) := g
        split at g'
        · rename_i n ns e
          simp only [Option.bind_eq_some_iff] at e
          obtain ⟨ys, e1, e2⟩ := e
          obtain ⟨p, vs, rfl, hp, rs⟩ := asList_rd rh ra e1
          rw [intsOf_eq e2] at rs
          rw [rs.ints] at hp
          refine cr_max hc pins s σ H _ us Q I rv ⟨p, n :: ns, rfl, .inl hp, by simp, fun k hk hle => ?_⟩
          have sp := maxI_spec ns n
          have : k = PI.maxI n ns := Int.le_antisymm (sp.2 k hk) (hle _ sp.1)
          rw [this]
          exact GoV.ok rh g' (rep_int.mpr rfl)
        · exact nope g'
  | minL =>
    cases as with
    | nil => exact nope g
    | cons a r => cases r with
      | cons _ _ => exact nope g
      | nil =>
        obtain ⟨x, rfl, ra⟩ := one_rep ras
        have g' : GoV Z μ H Q (match (PI.asList h a).bind PI.intsOf with | some (x :: r) => .ok (.int (PI.minI x r)) h | _ => .err) := g
        split at g'
        · rename_i n ns e
          simp only [Option.bind_eq_some_iff] at e
          obtain ⟨ys, e1, e2⟩ := e
          obtain ⟨p, vs, rfl, hp, rs⟩ := asList_rd rh ra e1
          rw [intsOf_eq e2] at rs
          rw [rs.ints] at hp
          refine cr_min hc pins s σ H _ us Q I rv ⟨p, n :: ns, rfl, .inl hp, by simp, fun k hk hle => ?_⟩
          have sp := minI_spec ns n
          have : k = PI.minI n ns := Int.le_antisymm (hle _ sp.1) (sp.2 k hk)
          rw [this]
          exact GoV.ok rh g' (rep_int.mpr rfl)
        · exact nope g'
  | max2 =>
    cases as with
    | nil => exact nope g
    | cons a r => cases r with
      | nil => exact nope (by cases a <;> exact g)
      | cons b r => cases r with
        | cons _ _ => exact nope (by cases a <;> first | exact g | (cases b <;> exact g))
        | nil =>
          cases a <;> first | exact nope g | skip
          cases b <;> first | exact nope g | skip
          obtain ⟨x, y, rfl, r1, r2⟩ := two_rep ras
          rw [rep_int] at r1 r2
          subst r1 r2
          exact call_max2 hc pins s σ H _ us Q I rv ⟨_, _, rfl, GoV.ok rh g (rep_int.mpr rfl)⟩
  | min2 =>
    cases as with
    | nil => exact nope g
    | cons a r => cases r with
      | nil => exact nope (by cases a <;> exact g)
      | cons b r => cases r with
        | cons _ _ => exact nope (by cases a <;> first | exact g | (cases b <;> exact g))
        | nil =>
          cases a <;> first | exact nope g | skip
          cases b <;> first | exact nope g | skip
          obtain ⟨x, y, rfl, r1, r2⟩ := two_rep ras
          rw [rep_int] at r1 r2
          subst r1 r2
          exact call_min2 hc pins s σ H _ us Q I rv ⟨_, _, rfl, GoV.ok rh g (rep_int.mpr rfl)⟩
  | abs =>
    cases as with
    | nil => exact nope g
    | cons a r => cases r with
      | cons _ _ => exact nope (by cases a <;> exact g)
      | nil =>
        cases a <;> first | exact nope g | skip
        obtain ⟨x, rfl, r1⟩ := one_rep ras
        rw [rep_int] at r1
        subst r1
        exact call_abs pins s σ H _ us Q I rv ⟨_, rfl, GoV.ok rh g (rep_int.mpr rfl)⟩
  | int =>
    cases as with
    | nil => exact nope g
    | cons a r => cases r with
      | cons _ _ => exact nope (by cases a <;> exact g)
      | nil =>
        obtain ⟨x, rfl, r1⟩ := one_rep ras
        cases a <;> first | exact nope g | skip
        · rw [rep_bl] at r1
          subst r1
          exact call_int1 pins s σ H _ us Q I rv (.inr ⟨_, rfl, GoV.ok rh g (rep_int.mpr rfl)⟩)
        · rw [rep_int] at r1
          subst r1
          exact call_int1 pins s σ H _ us Q I rv (.inl ⟨_, rfl, GoV.ok rh g (rep_int.mpr rfl)⟩)
  | sorted =>
    cases as with
    | nil => exact nope g
    | cons a r => cases r with
      | cons _ _ => exact nope g
      | nil =>
        obtain ⟨x, rfl, ra⟩ := one_rep ras
        have g' : GoV Z μ H Q (match (PI.asList h a).bind PI.intsOf with | some ns => PI.mkL m ((PI.sortI ns).map .int) h | none => .err) := g
        split at g'
        · rename_i ns e
          simp only [Option.bind_eq_some_iff] at e
          obtain ⟨ys, e1, e2⟩ := e
          obtain ⟨p, vs, rfl, hp, rs⟩ := asList_rd rh ra e1
          rw [intsOf_eq e2] at rs
          rw [rs.ints] at hp
          obtain ⟨hl, q⟩ := GoV.mkL rh (Reps.ofInts (μ := μ) (H := H) (PI.sortI ns)) g'
          refine cr_sortedI pins s σ H _ us Q I rv ⟨p, ns, rfl, .inl hp, fun ns' l pm pw n => ?_⟩
          rw [sorted_uniq (pm.trans (sortI_perm ns).symm) pw (sortI_sorted ns)]
          exact q l n
        · exact nope g'
end
end PIS

namespace PIS
open PySem PySem.Spec PyProof.Rows L2
open PI (Val Ob LH R)
variable {Z : Addr → Prop}
section
variable {X : Cx}
/-! ### methods -/
def rMt (f : PI.Mth) : V → List V → L2.Hp → VK → Prop := fun x xs H Q => ∃ Z μ h o as, RelH Z μ h H ∧ Rep Z μ H o x ∧ Reps Z μ H as xs ∧ GoV Z μ H Q (PI.mth f o as h)
theorem GoV.write {μ : Mu} {h : LH} {H : L2.Hp} {Q : VK} {v : Val} {x : V} {l : Nat} {p : Addr} {xs ys : List Val} {vs ws : List V} (rh : RelH Z μ h H) (e : μ[l]? = some (some p)) (hp : H p = some (.lst vs))
    (g : GoV Z μ H Q (.ok v (h.set l (.lst ys)))) (r : Reps Z μ H ys ws) (rv : Rep Z μ H v x) : Q x (upd H p (.lst ws)) :=
  g _ _ μ (rh.write e hp ⟨ws, upd_same, Reps.ext (ext_write e hp) _ _ r⟩) (ext_write e hp) (Rep.ext (ext_write e hp) _ _ rv)
/-- a mutable list -/
theorem refL {μ : Mu} {h : LH} {H : L2.Hp} (rh : RelH Z μ h H) {l : Nat} {x : V} {xs : List Val} (r : Rep Z μ H (.ref l) x) (e : h[l]? = some (.lst xs)) : ∃ p vs, x = .ref p ∧ μ[l]? = some (some p) ∧ H p = some (.lst vs) ∧ Reps Z μ H xs vs := by
  obtain ⟨p, rfl, e1, vs, e2, e3⟩ := rh.ref r e (by intro z; cases z)
  exact ⟨p, vs, rfl, e1, e2, e3⟩
theorem nopeV {μ : Mu} {H : L2.Hp} {Q : VK} {P : Prop} (g : GoV Z μ H Q .err) : P := False.elim g
theorem mt_append_go : MtM X "list.append" (rMt .append) := by
  intro pins s σ H x xs v us Q I rx rv hh
  obtain ⟨Z, μ, h, o, as, rh, ro, ras, g⟩ := hh
  cases as with
  | nil => exact nopeV g
  | cons a r => cases r with
    | cons _ _ => exact nopeV g
    | nil =>
      obtain ⟨y, rfl, ra⟩ := one_rep ras
      cases o <;> first | exact nopeV g | skip
      rename_i l
      simp only [PI.mth] at g
      split at g
      · rename_i ys hl
        split at g
        · rename_i hlen
          obtain ⟨p, vs, rfl, e1, e2, e3⟩ := refL rh ro hl
          refine mt_append pins s σ H _ _ v us Q I rx rv ⟨p, vs, y, rfl, rfl, e2, by rw [← e3.length, sizeLine_eq]; exact hlen, ?_⟩
          exact GoV.write (xs := ys) rh e1 e2 g (e3.append (.cons ra .nil)) (rep_non.mpr rfl)
        · exact nopeV g
      · exact nopeV g
def rExtendR : V → List V → L2.Hp → VK → Prop := fun x vs H Q => ∃ l b xs zs, x = .ref l ∧ vs = [.ref b] ∧ H l = some (.lst xs) ∧ Rd H b (.lst zs) ∧ xs.length + zs.length ≤ sizeLine ∧ Q .non (upd H l (.lst (xs ++ zs)))
theorem mt_extendR : MtM X "list.extend" rExtendR := by
  intro pins s σ H x vs v us Q I rx rv h
  obtain ⟨l, b, xs, zs, rfl, rfl, hH, hB, hz, q⟩ := h
  cases rx
  obtain ⟨u, rfl, ru⟩ := rv.one
  cases ru
  obtain ⟨z, its, n, r, hl, e⟩ := I.lstM hH
  obtain ⟨z2, its2, n2, r2, hl2, e2⟩ := lstR I hB
  have hsz : its.toArray.size + its2.toArray.size ≤ sizeLine := by rw [List.size_toArray, List.size_toArray]; omega
  have hlong : ¬ (!its.toArray.isEmpty && Builtin.List.listTooLong (its.toArray.size + its2.toArray.size)) = true := by
    rw [notLongL hsz, Bool.and_false]
    exact Bool.false_ne_true
  refine call_meets F.slot_list_extend ⟨_, e, rfl⟩ F.entry_list_extend (F.args_list_extend_2 _ _)
    (AutoSeq1.list_extend_list_list_0 l its.toArray n b its2.toArray n2 hlong (by rw [List.size_toArray]; omega) (by omega)) ⟨e, e2, ?_⟩
  refine ⟨.non, _, I.lset (its' := its ++ its2) hH e (by simp) (r.append r2) ?_, rfl, q⟩
  rw [List.length_append]
  omega
theorem mt_extend_go : MtM X "list.extend" (rMt .extend) := by
  intro pins s σ H x xs v us Q I rx rv hh
  obtain ⟨Z, μ, h, o, as, rh, ro, ras, g⟩ := hh
  cases as with
  | nil => exact nopeV g
  | cons a r => cases r with
    | cons _ _ => exact nopeV g
    | nil =>
      obtain ⟨y, rfl, ra⟩ := one_rep ras
      cases o <;> first | exact nopeV g | skip
      rename_i l
      simp only [PI.mth] at g
      split at g
      · rename_i ys zs hl
        split at g
        · rename_i hlen
          obtain ⟨p, vs, rfl, e1, e2, e3⟩ := refL rh ro hl
          obtain ⟨p2, vs2, rfl, hp2, s2⟩ := asList_rd rh ra (xs := zs) rfl
          refine mt_extendR pins s σ H _ _ v us Q I rx rv ⟨p, p2, vs, vs2, rfl, rfl, e2, hp2, by rw [← e3.length, ← s2.length, sizeLine_eq]; exact hlen, ?_⟩
          exact GoV.write (xs := ys) rh e1 e2 g (e3.append s2) (rep_non.mpr rfl)
        · exact nopeV g
      · exact nopeV g
theorem mt_insert_go : MtM X "list.insert" (rMt .insert) := by
  intro pins s σ H x xs v us Q I rx rv hh
  obtain ⟨Z, μ, h, o, as, rh, ro, ras, g⟩ := hh
  cases as with
  | nil => exact nopeV g
  | cons a r => cases r with
    | nil => exact nopeV (by cases a <;> exact g)
    | cons b r => cases r with
      | cons _ _ => exact nopeV (by cases a <;> exact g)
      | nil =>
        cases a <;> first | exact nopeV g | skip
        rename_i i
        obtain ⟨x1, y, rfl, r1, ra⟩ := two_rep ras
        rw [rep_int] at r1
        subst r1
        cases o <;> first | exact nopeV g | skip
        rename_i l
        simp only [PI.mth] at g
        split at g
        · rename_i ys hl
          split at g
          · rename_i hlen
            obtain ⟨h1, h2, h3⟩ := hlen
            obtain ⟨p, vs, rfl, e1, e2, e3⟩ := refL rh ro hl
            have hsl : PI.SL = sizeLine := sizeLine_eq.symm
            have l63 := line63
            refine mt_insert pins s σ H _ _ v us Q I rx rv ⟨p, vs, i, y, rfl, rfl, e2, by rw [← e3.length, ← hsl]; exact h1, h2, by omega, ?_⟩
            refine GoV.write (xs := ys) rh e1 e2 g ?_ (rep_non.mpr rfl)
            rw [List.append_assoc]
            exact (e3.take _).append (.cons ra (e3.drop _))
          · exact nopeV g
        · exact nopeV g
theorem mt_pop_go : MtM X "list.pop" (rMt .pop) := by
  intro pins s σ H x xs v us Q I rx rv hh
  obtain ⟨Z, μ, h, o, as, rh, ro, ras, g⟩ := hh
  cases as with
  | cons a r => exact nopeV g
  | nil =>
    have e := ras.nil_eq
    subst e
    cases o <;> first | exact nopeV g | skip
    rename_i l
    simp only [PI.mth] at g
    split at g
    · rename_i ys hl
      split at g
      · rename_i y hy
        obtain ⟨p, vs, rfl, e1, e2, e3⟩ := refL rh ro hl
        obtain ⟨y', hy', ry⟩ := e3.get hy
        refine mt_pop pins s σ H _ _ v us Q I rx rv ⟨p, vs, y', rfl, rfl, e2, by rw [← e3.length]; exact hy', ?_⟩
        exact GoV.write (xs := ys) rh e1 e2 g e3.dropLast ry
      · exact nopeV g
    · exact nopeV g
theorem mt_popAt_go : MtM X "list.pop" (rMt .popAt) := by
  intro pins s σ H x xs v us Q I rx rv hh
  obtain ⟨Z, μ, h, o, as, rh, ro, ras, g⟩ := hh
  cases as with
  | nil => exact nopeV g
  | cons a r => cases r with
    | cons _ _ => exact nopeV (by cases a <;> exact g)
    | nil =>
      cases a <;> first | exact nopeV g | skip
      rename_i i
      obtain ⟨x1, rfl, r1⟩ := one_rep ras
      rw [rep_int] at r1
      subst r1
      cases o <;> first | exact nopeV g | skip
      rename_i l
      simp only [PI.mth] at g
      split at g
      · rename_i ys hl
        split at g
        · rename_i hi
          split at g
          · rename_i y hy
            obtain ⟨p, vs, rfl, e1, e2, e3⟩ := refL rh ro hl
            obtain ⟨y', hy', ry⟩ := e3.get hy
            have hlt : i.toNat < vs.length := lt_of_get hy'
            refine mt_popAt pins s σ H _ _ v us Q I rx rv ⟨p, vs, i, i.toNat, y', rfl, rfl, e2, by omega, by omega, ?_, hy', ?_⟩
            · exact seqIndex_of hi.1 (by omega)
            · exact GoV.write (xs := ys) rh e1 e2 g (e3.eraseIdx _) ry
          · exact nopeV g
        · exact nopeV g
      · exact nopeV g
theorem indexOf_spec : ∀ {xs : List Val} {a : Val} {j : Nat}, PI.indexOf a xs = some j → ∃ z, xs[j]? = some z ∧ PI.veq z a = true ∧ ∀ m z', m < j → xs[m]? = some z' → PI.veq z' a = false
  | [], a, j, e => by simp [PI.indexOf] at e
  | x :: xs, a, j, e => by
    simp only [PI.indexOf] at e
    split at e
    · rename_i hv
      simp only [Option.some.injEq] at e; subst e
      exact ⟨x, rfl, hv, fun m z' hm => absurd hm (Nat.not_lt_zero m)⟩
    · rename_i hv
      simp only [Option.map_eq_some_iff] at e
      obtain ⟨k, e1, e2⟩ := e
      subst e2
      obtain ⟨z, h1, h2, h3⟩ := indexOf_spec e1
      refine ⟨z, by simpa using h1, h2, fun m z' hm hz => ?_⟩
      cases m with
      | zero => simp at hz; subst hz; simpa using hv
      | succ m => exact h3 m z' (by omega) (by simpa using hz)
theorem isDatas_get : ∀ {xs : List Val} {j : Nat} {z : Val}, PI.isDatas xs = true → xs[j]? = some z → PI.isData z = true
  | [], j, z, _, e => by simp at e
  | x :: xs, 0, z, d, e => by simp only [PI.isDatas, Bool.and_eq_true] at d; simp at e; subst e; exact d.1
  | x :: xs, j + 1, z, d, e => by simp only [PI.isDatas, Bool.and_eq_true] at d; exact isDatas_get d.2 (by simpa using e)
theorem toDs_get {xs : List Val} {j : Nat} {z : Val} (e : xs[j]? = some z) : (toDs xs)[j]? = some (toD z) := by
  rw [toDs_map, List.getElem?_map, e]; rfl
theorem toDs_get' {xs : List Val} {j : Nat} {z : PyData} (e : (toDs xs)[j]? = some z) : ∃ w, xs[j]? = some w ∧ z = toD w := by
  rw [toDs_map, List.getElem?_map] at e
  cases h : xs[j]? with
  | none => rw [h] at e; cases e
  | some w => rw [h] at e; exact ⟨w, rfl, (Option.some.inj e).symm⟩
theorem shapeds_of {xs : List Val} (d : PI.isDatas xs = true) (n : PI.vdepths xs ≤ 59) : SeqAt.shaped (.list (toDs xs)) = true := by
  have h := lays_of xs d
  have e1 : (PyData.list (toDs xs)).canLay0 = true := by simp only [PyData.canLay0]; exact h.1
  have e2 : (PyData.list (toDs xs)).depth = PyData.depthAll (toDs xs) + 1 := by simp only [PyData.depth]
  unfold SeqAt.shaped
  rw [e1, e2, Bool.true_and, decide_eq_true_eq]
  have := h.2
  omega
theorem mt_index_list (hu : X.A.units + 65 < cLine) : MtR X "list.index" (fun x xs H Q => (∃ p vs, x = .ref p ∧ Rd H p (.lst vs)) ∧ rMt .index x xs H Q) := by
  intro pins s σ H x xs v us Q I rx rv hh
  obtain ⟨⟨p0, vs0, ex, hp0⟩, Z, μ, h, o, as, rh, ro, ras, g⟩ := hh
  cases as with
  | nil => exact nopeV g
  | cons a r => cases r with
    | cons _ _ => exact nopeV g
    | nil =>
      obtain ⟨y, rfl, ra⟩ := one_rep ras
      obtain ⟨w, e, g'⟩ := optR_some (show GoV Z μ H Q (PI.optR h _) from g)
      simp only [Option.bind_eq_some_iff] at e
      obtain ⟨ys, e1, e2⟩ := e
      split at e2
      · rename_i c
        simp only [Option.map_eq_some_iff] at e2
        obtain ⟨j, e3, e4⟩ := e2
        subst e4
        obtain ⟨p, vs, e5, hp, rs⟩ := asSeq_rd rh ro e1
        rw [ex] at e5
        cases e5
        have hp' : Rd H p0 (.lst vs) := by
          rcases hp with hp | hp
          · exact hp
          · rcases hp0 with q | ⟨_, q⟩ <;> rcases hp with q' | ⟨_, q'⟩ <;> rw [q] at q' <;> cases q'
        obtain ⟨z, h1, h2, h3⟩ := indexOf_spec e3
        have dz := isDatas_get c.2.1 h1
        subst ex
        refine mt_indexD hu pins s σ H _ _ v us Q I rx rv ⟨p0, y, toD a, toDs ys, j, toD z, rfl, rfl, .lst (.inl hp') (dps_of ys vs c.2.1 rs), dp_of a y c.1 ra, shapeds_of c.2.1 c.2.2.2, shaped_of c.1 c.2.2.1, toDs_get h1, ?_, fun m z' hm hz => ?_, GoV.ok rh g' (rep_int.mpr rfl)⟩
        · rw [eqv_of z a dz c.1]; exact h2
        · obtain ⟨w, hw, rfl⟩ := toDs_get' hz
          rw [eqv_of w a (isDatas_get c.2.1 hw) c.1]
          exact h3 m w hm hw
      · cases e2
/-- t.index(x), data -/
theorem mt_index_tup (hu : X.A.units + 65 < cLine) : MtR X "tuple.index" (fun x xs H Q => (∃ p vs, x = .ref p ∧ Rd H p (.tup vs)) ∧ rMt .index x xs H Q) := by
  intro pins s σ H x xs v us Q I rx rv hh
  obtain ⟨⟨p0, vs0, ex, hp0⟩, Z, μ, h, o, as, rh, ro, ras, g⟩ := hh
  cases as with
  | nil => exact nopeV g
  | cons a r => cases r with
    | cons _ _ => exact nopeV g
    | nil =>
      obtain ⟨y, rfl, ra⟩ := one_rep ras
      obtain ⟨w, e, g'⟩ := optR_some (show GoV Z μ H Q (PI.optR h _) from g)
      simp only [Option.bind_eq_some_iff] at e
      obtain ⟨ys, e1, e2⟩ := e
      split at e2
      · rename_i c
        simp only [Option.map_eq_some_iff] at e2
        obtain ⟨j, e3, e4⟩ := e2
        subst e4
        obtain ⟨p, vs, e5, hp, rs⟩ := asSeq_rd rh ro e1
        rw [ex] at e5
        cases e5
        have hp' : Rd H p0 (.tup vs) := by
          rcases hp with hp | hp
          · rcases hp0 with q | ⟨_, q⟩ <;> rcases hp with q' | ⟨_, q'⟩ <;> rw [q] at q' <;> cases q'
          · exact hp
        obtain ⟨z, h1, h2, h3⟩ := indexOf_spec e3
        have dz := isDatas_get c.2.1 h1
        subst ex
        cases rx
        cases rv with
        | cons ry rt =>
          rename_i uy ut
          cases rt
          obtain ⟨bs, r1⟩ := Dp.reads I (toD a) y uy (dp_of a y c.1 ra) ry
          have sd := shaped_of c.1 c.2.2.1
          have hxs : PyData.canLayAll0 (toDs ys) = true := (lays_of ys c.2.1).1
          have hroom : X.A.units + 1 + min (PyData.depthAll (toDs ys)) (toD a).depth < cLine := room_in_shaped sd hu
          obtain ⟨its, rv, ⟨⟨cls, dd, data, sls⟩, ho, hc, n, hdt⟩, hlen⟩ := I.tuple (show SqT X.K H p0 vs from .inl hp')
          simp only at hc hdt
          subst hc hdt
          obtain ⟨as, h4⟩ := Dp.readsAll I (toDs ys) _ its (dps_of ys vs c.2.1 rs) rv
          have hn : its.length = (toDs ys).length := SeqAt.ReadsAll.length (toDs ys) its as h4
          have hmap : its.map (SeqAt.readOf s.heap) = toDs ys := SeqAt.readsAll_map (toDs ys) its as hxs h4
          have hz := toDs_get h1
          obtain ⟨hjd, _⟩ := List.getElem?_eq_some_iff.mp hz
          have hjl : j < its.length := by omega
          have hj : j < its.toArray.size := by simpa using hjl
          have at_ : ∀ (m : Nat) (hm : m < its.toArray.size) (z' : PyData), (toDs ys)[m]? = some z' → SeqAt.readOf s.heap its.toArray[m] = z' := by
            intro m hm z' hz'
            have hml : m < its.length := by simpa using hm
            rw [← hmap, List.getElem?_map, List.getElem?_eq_getElem hml] at hz'
            have e1 : SeqAt.readOf s.heap its[m] = z' := Option.some.inj (show some (SeqAt.readOf s.heap its[m]) = some z' from hz')
            simpa using e1
          refine call_meets PySem.F.slot_tuple_index ⟨_, ho, rfl⟩ PySem.F.entry_tuple_index (PySem.F.args_tuple_index_2 _ _)
            (TI.tuple_indexAt p0 its.toArray n dd sls uy (fun u => PyData.eqv (SeqAt.readOf s.heap u) (toD a)) j hj ?_ ?_) ⟨ho, SeqAt.items_eqAt (vs := its.toArray) (show ReadsAll s.heap its.toArray.toList (toDs ys) as from h4) r1 hxs (SeqAt.canLay_of_shaped sd) hroom, ?_⟩
          · show PyData.eqv (SeqAt.readOf s.heap its.toArray[j]) (toD a) = true
            rw [at_ j hj _ hz, eqv_of z a dz c.1]
            exact h2
          · intro m hm hmj
            have hmd : m < (toDs ys).length := by omega
            obtain ⟨w, hw, e⟩ := toDs_get' (List.getElem?_eq_getElem hmd)
            show PyData.eqv (SeqAt.readOf s.heap its.toArray[m]) (toD a) = false
            rw [at_ m hm _ (List.getElem?_eq_getElem hmd), e, eqv_of w a (isDatas_get c.2.1 hw) c.1]
            exact h3 m w hmj hw
          · exact ⟨.int (j : Nat), H, I.tok _, ⟨_, rfl⟩, GoV.ok rh g' (rep_int.mpr rfl)⟩
      · cases e2
/-! ### a[i] = v -/
def GoU (Z : Addr → Prop) (μ : Mu) (H : L2.Hp) (Q : L2.Hp → Prop) : R Unit → Prop
  | .ok _ h' => ∀ H' μ', RelH Z μ' h' H' → Ext μ H μ' H' → Q H'
  | _ => False
def rSet : V → V → V → L2.Hp → (L2.Hp → Prop) → Prop := fun o i v H Q => ∃ Z μ h a k w, RelH Z μ h H ∧ Rep Z μ H a o ∧ Rep Z μ H k i ∧ Rep Z μ H w v ∧ GoU Z μ H Q (PI.setIx a k w h)
theorem veq_any_K (key : Key) : ∀ kvs : List (Key × V), PI.dhas (keyV key) (kvs.map fun p => keyV p.1) = kvs.any fun kv => decide (kv.1 = key)
  | [] => rfl
  | p :: kvs => by
    have := veq_any_K key kvs
    unfold PI.dhas at this ⊢
    simp only [List.map_cons, List.any_cons, veq_keyV, this]
theorem veq_any_T (key : List Key) : ∀ kvs : List (List Key × V), PI.dhas (.tup (key.map keyV)) (kvs.map fun p => Val.tup (p.1.map keyV)) = kvs.any fun kv => decide (kv.1 = key)
  | [] => rfl
  | p :: kvs => by
    have := veq_any_T key kvs
    unfold PI.dhas at this ⊢
    simp only [List.map_cons, List.any_cons, PI.veq, veqs_keyV, this]
theorem drepl_K {μ : Mu} {H : L2.Hp} (key : Key) {w : Val} {v : V} (rw' : Rep Z μ H w v) : ∀ {kvs : List (Key × V)} {vs : List Val}, Reps Z μ H vs (kvs.map (·.2)) →
    Reps Z μ H (PI.drepl (keyV key) w (kvs.map fun p => keyV p.1) vs) ((kvs.map fun kv => if kv.1 = key then (kv.1, v) else kv).map (·.2))
  | [], vs, r => by
    have : vs = [] := by simpa using r.length
    subst this
    exact .nil
  | p :: kvs, [], r => by have := r.nil_eq; simp at this
  | p :: kvs, x :: vs, r => by
    simp only [List.map_cons] at r
    obtain ⟨y, t, e, a, q⟩ := r.cases
    injection e with e1 e2
    subst e1 e2
    simp only [List.map_cons, PI.drepl, veq_keyV]
    refine .cons ?_ (drepl_K key rw' q)
    by_cases h : p.1 = key
    · simp only [h, decide_true, if_true]; exact rw'
    · simp only [h, decide_false, Bool.false_eq_true, if_false]; exact a
theorem drepl_T {μ : Mu} {H : L2.Hp} (key : List Key) {w : Val} {v : V} (rw' : Rep Z μ H w v) : ∀ {kvs : List (List Key × V)} {vs : List Val}, Reps Z μ H vs (kvs.map (·.2)) →
    Reps Z μ H (PI.drepl (.tup (key.map keyV)) w (kvs.map fun p => Val.tup (p.1.map keyV)) vs) ((kvs.map fun kv => if kv.1 = key then (kv.1, v) else kv).map (·.2))
  | [], vs, r => by
    have : vs = [] := by simpa using r.length
    subst this
    exact .nil
  | p :: kvs, [], r => by have := r.nil_eq; simp at this
  | p :: kvs, x :: vs, r => by
    simp only [List.map_cons] at r
    obtain ⟨y, t, e, a, q⟩ := r.cases
    injection e with e1 e2
    subst e1 e2
    simp only [List.map_cons, PI.drepl, PI.veq, veqs_keyV]
    refine .cons ?_ (drepl_T key rw' q)
    by_cases h : p.1 = key
    · simp only [h, decide_true, if_true]; exact rw'
    · simp only [h, decide_false, Bool.false_eq_true, if_false]; exact a
theorem set_go (hu : X.A.units + 1 < cLine) : PSet X rSet := by
  intro pins s σ H o i v ov iv u Q I ro ri rv hh
  obtain ⟨Z, μ, h, a, k, w, rh, ra, rk, rw', g⟩ := hh
  unfold PI.setIx at g
  split at g
  · rename_i l
    split at g
    · rename_i xs kk hl
      split at g
      · rename_i j hj
        obtain ⟨p, vs, rfl, e1, e2, e3⟩ := refL rh ra hl
        refine set_list pins s σ H _ i v ov iv u Q I ro ri rv ⟨p, vs, kk, j, rfl, rep_int.mp rk, e2, by rw [← ixN_eq, ← e3.length]; exact hj, ?_⟩
        exact g _ μ (rh.write e1 e2 ⟨_, upd_same, Reps.ext (ext_write e1 e2) _ _ (e3.set j rw')⟩) (ext_write e1 e2)
      · exact g.elim
    · rename_i t ks vs hl
      split at g
      · rename_i c
        obtain ⟨c1, c2⟩ := c
        obtain ⟨p, rfl, e1, q⟩ := rh.ref ra hl (by intro z; cases z)
        have sl : PI.SL = sizeLine := sizeLine_eq.symm
        rcases q with ⟨rfl, kvs, hp, hk, rs⟩ | ⟨rfl, kvs, hp, hk, rs⟩
        · unfold KeysK at hk
          subst hk
          obtain ⟨key, rfl, rfl⟩ := key_of_rep rk c2
          rw [List.length_map] at c1
          cases ro
          refine d_setItem hu I (DPut.k (k := key) (v := v) hp (by omega)) ri rv fun s' I' => ⟨_, I', ?_⟩
          rw [veq_any_K] at g
          unfold putK
          split at g
          · rename_i hb
            rw [if_pos hb]
            refine g _ μ (rh.write e1 hp (.inl ⟨rfl, _, upd_same, ?_, Reps.ext (ext_write e1 hp) _ _ (drepl_K key rw' rs)⟩)) (ext_write e1 hp)
            unfold KeysK
            rw [List.map_map]
            refine List.map_congr_left fun kv _ => ?_
            show keyV kv.1 = keyV (if kv.1 = key then (kv.1, v) else kv).1
            split <;> rfl
          · rename_i hb
            rw [if_neg hb]
            refine g _ μ (rh.write e1 hp (.inl ⟨rfl, _, upd_same, ?_, Reps.ext (ext_write e1 hp) _ _ ?_⟩)) (ext_write e1 hp)
            · unfold KeysK
              rw [List.map_append]; rfl
            · rw [List.map_append]
              exact rs.append (.cons rw' .nil)
        · unfold KeysT at hk
          subst hk
          obtain ⟨keys, rfl, b, rfl, hb'⟩ := tup_rep rk c2
          rw [List.length_map] at c1
          cases ro
          refine d_setItem hu I (DPut.t (k := keys) (v := v) hp hb' (by omega)) ri rv fun s' I' => ⟨_, I', ?_⟩
          rw [veq_any_T] at g
          unfold putK
          split at g
          · rename_i hb
            rw [if_pos hb]
            refine g _ μ (rh.write e1 hp (.inr ⟨rfl, _, upd_same, ?_, Reps.ext (ext_write e1 hp) _ _ (drepl_T keys rw' rs)⟩)) (ext_write e1 hp)
            unfold KeysT
            rw [List.map_map]
            refine List.map_congr_left fun kv _ => ?_
            show Val.tup (kv.1.map keyV) = Val.tup ((if kv.1 = keys then (kv.1, v) else kv).1.map keyV)
            split <;> rfl
          · rename_i hb
            rw [if_neg hb]
            refine g _ μ (rh.write e1 hp (.inr ⟨rfl, _, upd_same, ?_, Reps.ext (ext_write e1 hp) _ _ ?_⟩)) (ext_write e1 hp)
            · unfold KeysT
              rw [List.map_append]; rfl
            · rw [List.map_append]
              exact rs.append (.cons rw' .nil)
      · exact g.elim
    · exact g.elim
  · exact g.elim
end
end PIS

namespace PIS
open PySem PySem.Spec PyProof.Rows L2
open PI (Val Ob LH R)
variable {Z : Addr → Prop}
/-! ### what a callee sees -/
theorem putAll_length {α : Type} : ∀ (L : List Nat) (xs h : List α), (PI.putAll L xs h).length = h.length
  | [], _, _ => by simp [PI.putAll]
  | _ :: _, [], _ => by simp [PI.putAll]
  | l :: L, x :: xs, h => by simp only [PI.putAll]; rw [putAll_length L xs, List.length_set]
theorem putAll_out {α : Type} : ∀ (L : List Nat) (xs h : List α) (l : Nat), l ∉ L → (PI.putAll L xs h)[l]? = h[l]?
  | [], _, _, _, _ => by simp [PI.putAll]
  | _ :: _, [], _, _, _ => by simp [PI.putAll]
  | m :: L, x :: xs, h, l, n => by
    simp only [PI.putAll]
    rw [putAll_out L xs _ l (fun z => n (List.mem_cons_of_mem _ z)), List.getElem?_set_ne]
    rintro rfl; exact n List.mem_cons_self
theorem putAll_in {α : Type} : ∀ (L : List Nat) (xs h : List α) (i l : Nat), L.Nodup → L[i]? = some l → l < h.length → i < xs.length → (PI.putAll L xs h)[l]? = xs[i]?
  | [], _, _, i, _, _, e, _, _ => by simp at e
  | _ :: _, [], _, i, _, _, _, _, e => by simp at e
  | m :: L, x :: xs, h, 0, l, nd, e, hl, _ => by
    simp at e; subst e
    simp only [PI.putAll]
    rw [putAll_out L xs _ m (List.nodup_cons.mp nd).1, List.getElem?_set_self hl]; rfl
  | m :: L, x :: xs, h, i + 1, l, nd, e, hl, hi => by
    simp only [PI.putAll]
    rw [putAll_in L xs _ i l (List.nodup_cons.mp nd).2 (by simpa using e) (by rw [List.length_set]; exact hl) (by simpa using hi)]
    simp
section
variable {α : Type} {L : List Nat} {xs h : List α}
theorem merge_length (hx : L.length ≤ xs.length) : (PI.merge L xs h).length = h.length + (xs.length - L.length) := by
  unfold PI.merge
  rw [List.length_append, putAll_length, List.length_drop]
theorem merge_out {l : Nat} (hl : l < h.length) (n : l ∉ L) : (PI.merge L xs h)[l]? = h[l]? := by
  unfold PI.merge
  rw [List.getElem?_append_left (by rw [putAll_length]; exact hl), putAll_out L xs h l n]
theorem merge_back (nd : L.Nodup) (hL : ∀ l ∈ L, l < h.length) (hx : L.length ≤ xs.length) {j : Nat} (hj : j < xs.length) : (PI.merge L xs h)[PI.backPlace L h.length j]? = xs[j]? := by
  unfold PI.merge PI.backPlace
  cases e : L[j]? with
  | some l =>
    simp only
    have hl := hL l (List.mem_of_getElem? e)
    rw [List.getElem?_append_left (by rw [putAll_length]; exact hl), putAll_in L xs h j l nd e hl hj]
  | none =>
    simp only
    have hle : L.length ≤ j := List.getElem?_eq_none_iff.mp e
    rw [List.getElem?_append_right (by rw [putAll_length]; omega), putAll_length, List.getElem?_drop]
    congr 1
    omega
theorem merge_cases (nd : L.Nodup) (hL : ∀ l ∈ L, l < h.length) (hx : L.length ≤ xs.length) {l : Nat} {m : α} (e : (PI.merge L xs h)[l]? = some m) :
    (l ∉ L ∧ l < h.length ∧ h[l]? = some m) ∨ ∃ j, xs[j]? = some m ∧ l = PI.backPlace L h.length j := by
  by_cases hin : l ∈ L
  · obtain ⟨i, hi⟩ := List.getElem?_of_mem hin
    have hil : i < xs.length := Nat.lt_of_lt_of_le (lt_of_get hi) hx
    refine .inr ⟨i, ?_, ?_⟩
    · rw [← merge_back nd hL hx hil]
      unfold PI.backPlace
      rw [hi]
      exact e
    · unfold PI.backPlace
      rw [hi]
  · by_cases hl : l < h.length
    · rw [merge_out hl hin] at e
      exact .inl ⟨hin, hl, e⟩
    · have hlt := lt_of_get e
      rw [merge_length hx] at hlt
      have hj : L.length + (l - h.length) < xs.length := by omega
      have hb : PI.backPlace L h.length (L.length + (l - h.length)) = l := by
        unfold PI.backPlace
        rw [List.getElem?_eq_none_iff.mpr (by omega)]
        simp only
        omega
      refine .inr ⟨L.length + (l - h.length), ?_, hb.symm⟩
      rw [← merge_back nd hL hx hj, hb]
      exact e
end
theorem reach_ok (h : LH) : ∀ (n : Nat) (todo acc L : List Nat), PI.reach h n todo acc = some L → acc.Nodup → (∀ l ∈ acc, l < h.length) →
    (∀ l ∈ acc, ∀ o, h[l]? = some o → ∀ r ∈ PI.objRefs o, r ∈ acc ∨ r ∈ todo) →
    L.Nodup ∧ (∀ l ∈ L, l < h.length) ∧ (∀ l ∈ acc, l ∈ L) ∧ (∀ l ∈ todo, l ∈ L) ∧ ∀ l ∈ L, ∀ o, h[l]? = some o → ∀ r ∈ PI.objRefs o, r ∈ L
  | n, [], acc, L, e, nd, hl, hc => by
    have : acc = L := by cases n <;> simpa [PI.reach] using e
    subst this
    exact ⟨nd, hl, fun _ z => z, fun _ z => by simp at z, fun l z o ho r hr => (hc l z o ho r hr).elim id fun z => by simp at z⟩
  | 0, l :: t, acc, L, e, _, _, _ => by simp [PI.reach] at e
  | n + 1, l :: t, acc, L, e, nd, hl, hc => by
    simp only [PI.reach] at e
    split at e
    · rename_i hin
      have hin' : l ∈ acc := by simpa using hin
      obtain ⟨a, b, c, d, f⟩ := reach_ok h n t acc L e nd hl fun m z o ho r hr => by
        rcases hc m z o ho r hr with q | q
        · exact .inl q
        · rcases List.mem_cons.mp q with rfl | q
          · exact .inl hin'
          · exact .inr q
      exact ⟨a, b, c, fun m z => (List.mem_cons.mp z).elim (fun q => q ▸ c l hin') (d m), f⟩
    · rename_i hin
      have hin' : l ∉ acc := by simpa using hin
      split at e
      · rename_i o ho
        obtain ⟨a, b, c, d, f⟩ := reach_ok h n (PI.objRefs o ++ t) (acc ++ [l]) L e
          (List.nodup_append.mpr ⟨nd, by simp, fun x hx y hy => by
            have : y = l := by simpa using hy
            rintro rfl
            subst this
            exact hin' hx⟩)
          (fun m z => by
            rcases List.mem_append.mp z with z | z
            · exact hl m z
            · have : m = l := by simpa using z
              subst this
              exact lt_of_get ho)
          (fun m z o' ho' r hr => by
            rcases List.mem_append.mp z with z | z
            · rcases hc m z o' ho' r hr with q | q
              · exact .inl (List.mem_append_left _ q)
              · rcases List.mem_cons.mp q with rfl | q
                · exact .inl (List.mem_append_right _ (by simp))
                · exact .inr (List.mem_append_right _ q)
            · have : m = l := by simpa using z
              subst this
              rw [ho] at ho'; cases ho'
              exact .inr (List.mem_append_left _ hr))
        refine ⟨a, b, fun m z => c m (List.mem_append_left _ z), fun m z => ?_, f⟩
        rcases List.mem_cons.mp z with rfl | z
        · exact c m (List.mem_append_right _ (by simp))
        · exact d m (List.mem_append_right _ z)
      · cases e
theorem KeysK.map {ks : List Val} {kvs : List (Key × V)} {g : Nat → Nat} (k : KeysK ks kvs) : KeysK (PI.mapRefs g ks) kvs := by
  unfold KeysK at k ⊢
  subst k
  induction kvs with
  | nil => rfl
  | cons p kvs ih =>
    simp only [List.map_cons, PI.mapRefs, ih]
    congr 1
    cases p.1 <;> rfl
theorem KeysT.map {ks : List Val} {kvs : List (List Key × V)} {g : Nat → Nat} (k : KeysT ks kvs) : KeysT (PI.mapRefs g ks) kvs := by
  unfold KeysT at k ⊢
  subst k
  induction kvs with
  | nil => rfl
  | cons p kvs ih =>
    simp only [List.map_cons, PI.mapRefs, ih, PI.mapRef]
    congr 2
    induction p.1 with
    | nil => rfl
    | cons k ks ih2 =>
      simp only [List.map_cons, PI.mapRefs, ih2]
      congr 1
      cases k <;> rfl
mutual
theorem Rep.map {Z' : Addr → Prop} {μ μ' : Mu} {H : L2.Hp} {g : Nat → Nat} (hz : ∀ p o, H p = some o → Fz Z μ p → Fz Z' μ' p) : ∀ (v : Val) (x : V), (∀ l ∈ PI.refsOf v, ∀ o, μ[l]? = some o → μ'[g l]? = some o) → Rep Z μ H v x → Rep Z' μ' H (PI.mapRef g v) x
  | .non, x, _, r => by simp only [Rep, PI.mapRef] at r ⊢; exact r
  | .bl b, x, _, r => by simp only [Rep, PI.mapRef] at r ⊢; exact r
  | .int b, x, _, r => by simp only [Rep, PI.mapRef] at r ⊢; exact r
  | .str b, x, _, r => by simp only [Rep, PI.mapRef] at r ⊢; exact r
  | .tup xs, x, hr, r => by
    simp only [Rep, PI.mapRef] at r ⊢
    obtain ⟨p, vs, e, n, h, q⟩ := r
    exact ⟨p, vs, e, hz _ _ h n, h, Reps.map hz xs vs (by simpa only [PI.refsOf] using hr) q⟩
  | .ftup xs, x, hr, r => by
    simp only [Rep, PI.mapRef] at r ⊢
    obtain ⟨p, o, vs, e, n, h, d, q⟩ := r
    exact ⟨p, o, vs, e, hz _ _ h n, h, d, Reps.map hz xs vs (by simpa only [PI.refsOf] using hr) q⟩
  | .lst xs, x, hr, r => by
    simp only [Rep, PI.mapRef] at r ⊢
    obtain ⟨p, vs, e, n, h, q⟩ := r
    refine ⟨p, vs, e, ?_, h, Reps.map hz xs vs (by simpa only [PI.refsOf] using hr) q⟩
    rcases h with h | ⟨o, h⟩ <;> exact hz _ _ h n
  | .dct t ks vs, x, hr, r => by
    simp only [Rep, PI.mapRef] at r ⊢
    obtain ⟨p, e, n, h⟩ := r
    have hr' : ∀ l ∈ PI.refsOfs vs, ∀ o, μ[l]? = some o → μ'[g l]? = some o := fun l hl => hr l (by simp only [PI.refsOf]; exact List.mem_append_right _ hl)
    rcases h with ⟨ht, o, kvs, h, k, q⟩ | ⟨ht, o, kvs, h, k, q⟩
    · exact ⟨p, e, hz _ _ h n, .inl ⟨ht, o, kvs, h, k.map, Reps.map hz vs _ hr' q⟩⟩
    · exact ⟨p, e, hz _ _ h n, .inr ⟨ht, o, kvs, h, k.map, Reps.map hz vs _ hr' q⟩⟩
  | .ref l, x, hr, r => by
    simp only [Rep, PI.mapRef] at r ⊢
    obtain ⟨o, e, q⟩ := r
    exact ⟨o, hr l (by simp [PI.refsOf]) o e, q⟩
  | .fn _, x, _, r => by simp only [Rep] at r
  | .exc _, x, _, r => by simp only [Rep] at r
theorem Reps.map {Z' : Addr → Prop} {μ μ' : Mu} {H : L2.Hp} {g : Nat → Nat} (hz : ∀ p o, H p = some o → Fz Z μ p → Fz Z' μ' p) : ∀ (v : List Val) (x : List V), (∀ l ∈ PI.refsOfs v, ∀ o, μ[l]? = some o → μ'[g l]? = some o) → Reps Z μ H v x → Reps Z' μ' H (PI.mapRefs g v) x
  | [], x, _, r => by rw [r.nil_eq]; simp only [PI.mapRefs]; exact .nil
  | v :: vs, x, hr, r => by
    obtain ⟨y, t, rfl, a, b⟩ := r.cases
    simp only [PI.refsOfs, List.mem_append] at hr
    simp only [PI.mapRefs]
    exact .cons (Rep.map hz v y (fun l hl => hr l (.inl hl)) a) (Reps.map hz vs t (fun l hl => hr l (.inr hl)) b)
end
theorem RepO.map {Z' : Addr → Prop} {μ μ' : Mu} {H : L2.Hp} {g : Nat → Nat} (hz : ∀ p o, H p = some o → Fz Z μ p → Fz Z' μ' p) {o : Ob} {a : Addr} (hr : ∀ l ∈ PI.objRefs o, ∀ o, μ[l]? = some o → μ'[g l]? = some o) (r : RepO Z μ H o a) : RepO Z' μ' H (PI.mapObj g o) a := by
  cases o with
  | lst xs => obtain ⟨vs, q, s⟩ := r; exact ⟨vs, q, Reps.map hz xs vs hr s⟩
  | dct t ks vs =>
    have hr' : ∀ l ∈ PI.refsOfs vs, ∀ o, μ[l]? = some o → μ'[g l]? = some o := fun l hl => hr l (List.mem_append_right _ hl)
    rcases r with ⟨ht, kvs, q, k, s⟩ | ⟨ht, kvs, q, k, s⟩
    · exact .inl ⟨ht, kvs, q, k.map, Reps.map hz vs _ hr' s⟩
    · exact .inr ⟨ht, kvs, q, k.map, Reps.map hz vs _ hr' s⟩
  | ins _ _ => exact r.elim
  | dead => exact r.elim
/-! ### the call -/
def muIn (μ : Mu) (L : List Nat) : Mu := L.map fun l => (μ[l]?).getD none
def zIn (Z : Addr → Prop) (μ : Mu) (L : List Nat) : Addr → Prop := fun a => Z a ∨ ∃ l, l ∉ L ∧ μ[l]? = some (some a)
theorem place_get {L : List Nat} {l : Nat} (h : l ∈ L) : L[PI.place L l]? = some l := by
  unfold PI.place
  have hlt : L.findIdx (· == l) < L.length := List.findIdx_lt_length_of_exists ⟨l, h, by simp⟩
  rw [List.getElem?_eq_getElem hlt]
  have := List.findIdx_getElem (w := hlt)
  simp only [beq_iff_eq] at this
  rw [this]
theorem sub_get {h : LH} : ∀ {L' : List Nat} {h0 : LH} {f : Ob → Ob}, (L'.mapM fun l => (h[l]?).map f) = some h0 → h0.length = L'.length ∧ ∀ (i l : Nat), L'[i]? = some l → ∃ o, h[l]? = some o ∧ h0[i]? = some (f o)
  | [], h0, f, e => by
    simp at e; subst e
    exact ⟨rfl, fun i l z => by simp at z⟩
  | m :: L, h0, f, e => by
    simp only [List.mapM_cons, Option.bind_eq_bind, Option.bind_eq_some_iff, Option.pure_def, Option.some.injEq, Option.map_eq_some_iff] at e
    obtain ⟨o', ⟨o, ho, e1⟩, t, e2, e3⟩ := e
    subst e3
    obtain ⟨a, b⟩ := sub_get e2
    refine ⟨by simp [a], fun i l z => ?_⟩
    cases i with
    | zero => simp at z; subst z; exact ⟨o, ho, by simp [e1]⟩
    | succ i => simp at z; obtain ⟨o2, h1, h2⟩ := b i l z; exact ⟨o2, h1, by simpa using h2⟩
section
variable {μ : Mu} {h : LH} {H : L2.Hp} {L : List Nat}
theorem muIn_get {i l : Nat} {m : Option Addr} (e : L[i]? = some l) (hm : μ[l]? = some m) : (muIn μ L)[i]? = some m := by
  unfold muIn
  rw [List.getElem?_map, e]
  simp [hm]
theorem muIn_cases {i : Nat} {a : Addr} (e : (muIn μ L)[i]? = some (some a)) : ∃ l, L[i]? = some l ∧ μ[l]? = some (some a) := by
  unfold muIn at e
  rw [List.getElem?_map] at e
  cases hl : L[i]? with
  | none => rw [hl] at e; cases e
  | some l =>
    rw [hl] at e
    refine ⟨l, rfl, ?_⟩
    simp only [Option.map_some, Option.some.injEq] at e
    cases hm : μ[l]? with
    | none => rw [hm] at e; cases e
    | some m => rw [hm] at e; simp only [Option.getD_some] at e; rw [e]
theorem fz_in (n : Fz Z μ a) : Fz (zIn Z μ L) (muIn μ L) a := ⟨fun ⟨i, e⟩ => let ⟨l, _, q⟩ := muIn_cases e; n.1 ⟨l, q⟩, fun z => z.elim n.2 fun ⟨l, _, q⟩ => n.1 ⟨l, q⟩⟩
theorem relH_in (rh : RelH Z μ h H) (nd : L.Nodup) (hL : ∀ l ∈ L, l < h.length) (hc : ∀ l ∈ L, ∀ o, h[l]? = some o → ∀ r ∈ PI.objRefs o, r ∈ L) {h0 : LH} (e : PI.sub h L = some h0) : RelH (zIn Z μ L) (muIn μ L) h0 H := by
  obtain ⟨e1, e2⟩ := sub_get e
  refine ⟨by rw [e1]; simp [muIn], fun i a hi => ?_, fun i i' a hi hi' => ?_, fun i hi => ?_, fun a ⟨i, hi⟩ z => ?_, fun a z => ?_⟩
  · obtain ⟨l, hl, hm⟩ := muIn_cases hi
    obtain ⟨o, ho, q⟩ := rh.at_ l a hm
    obtain ⟨o', ho', q'⟩ := e2 i l hl
    rw [ho] at ho'; cases ho'
    refine ⟨_, q', RepO.map (fun p _ _ n => fz_in n) (fun r hr m hm' => ?_) q⟩
    exact muIn_get (place_get (hc l (List.mem_of_getElem? hl) o ho r hr)) hm'
  · obtain ⟨l, hl, hm⟩ := muIn_cases hi
    obtain ⟨l', hl', hm'⟩ := muIn_cases hi'
    have := rh.inj l l' a hm hm'
    subst this
    exact (List.getElem?_inj (lt_of_get hl) nd).mp (hl.trans hl'.symm)
  · have hi' := lt_of_get hi
    have hlen : i < L.length := by simpa [muIn] using hi'
    have hl : L[i]? = some L[i] := List.getElem?_eq_getElem hlen
    have hlt : L[i] < μ.length := by rw [rh.len]; exact hL _ (List.getElem_mem hlen)
    obtain ⟨o, ho, q⟩ := e2 i _ hl
    have hm : μ[L[i]]? = some μ[L[i]] := List.getElem?_eq_getElem hlt
    have := muIn_get hl hm
    rw [hi] at this
    have hd := rh.dead L[i] (by rw [hm]; exact this.symm)
    rw [ho] at hd
    cases hd
    exact q
  · obtain ⟨l, hl, hm⟩ := muIn_cases hi
    rcases z with z | ⟨l', hl', hm'⟩
    · exact rh.apart a ⟨l, hm⟩ z
    · have := rh.inj l l' a hm hm'
      subst this
      exact hl' (List.mem_of_getElem? hl)
  · rcases z with z | ⟨l', _, hm'⟩
    · exact rh.kept a z
    · exact rh.thereN ⟨l', hm'⟩
/-- behind the call -/
theorem relH_out (rh : RelH Z μ h H) (nd : L.Nodup) (hL : ∀ l ∈ L, l < h.length) {h1 : LH} {μ1 : Mu} {H1 : L2.Hp} (r1 : RelH (zIn Z μ L) μ1 h1 H1) (x1 : Ext (muIn μ L) H μ1 H1) :
    RelH Z (PI.merge L μ1 μ) (PI.merge L (h1.map (PI.mapObj (PI.backPlace L h.length))) h) H1 ∧ Ext μ H (PI.merge L μ1 μ) H1 ∧
      ∀ v x, Rep (zIn Z μ L) μ1 H1 v x → Rep Z (PI.merge L μ1 μ) H1 (PI.mapRef (PI.backPlace L h.length) v) x := by
  have hx : L.length ≤ μ1.length := by
    have := x1.len
    simpa [muIn] using this
  have hLμ : ∀ l ∈ L, l < μ.length := fun l hl => by rw [rh.len]; exact hL l hl
  have hx1 : L.length ≤ (h1.map (PI.mapObj (PI.backPlace L h.length))).length := by rw [List.length_map, ← r1.len]; exact hx
  have back : ∀ j m, μ1[j]? = some m → (PI.merge L μ1 μ)[PI.backPlace L h.length j]? = some m := fun j m e => by
    rw [← rh.len, merge_back nd hLμ hx (lt_of_get e)]; exact e
  have cs : ∀ l m, (PI.merge L μ1 μ)[l]? = some m → (l ∉ L ∧ l < μ.length ∧ μ[l]? = some m) ∨ ∃ j, μ1[j]? = some m ∧ l = PI.backPlace L h.length j := fun l m e => by
    have := merge_cases nd hLμ hx e
    rw [rh.len] at this ⊢
    exact this
  have ext : Ext μ H (PI.merge L μ1 μ) H1 := by
    refine ⟨by rw [merge_length hx]; omega, fun l a hl e => ?_, fun l a hl e => ?_, fun a o e n => ?_, x1.dom⟩
    · rcases cs l _ e with ⟨_, _, q⟩ | ⟨j, q, rfl⟩
      · exact q
      · by_cases hj : j < L.length
        · have hb : PI.backPlace L h.length j = L[j] := by
            unfold PI.backPlace
            rw [List.getElem?_eq_getElem hj]
          have := x1.old j a (by simpa [muIn] using hj) q
          obtain ⟨l', hl', hm'⟩ := muIn_cases this
          rw [hb]
          rw [List.getElem?_eq_getElem hj] at hl'
          cases hl'
          exact hm'
        · have hb : PI.backPlace L h.length j = h.length + (j - L.length) := by
            unfold PI.backPlace
            rw [List.getElem?_eq_none_iff.mpr (by omega)]
          rw [hb, ← rh.len] at hl
          omega
    · rcases cs l _ e with ⟨_, h2, q⟩ | ⟨j, q, rfl⟩
      · omega
      · by_cases hj : j < L.length
        · have hb : PI.backPlace L h.length j = L[j] := by
            unfold PI.backPlace
            rw [List.getElem?_eq_getElem hj]
          have := hLμ L[j] (List.getElem_mem hj)
          rw [hb] at hl
          omega
        · exact x1.new j a (by simpa [muIn] using hj) q
    · exact x1.frame a o e fun ⟨i, q⟩ => let ⟨l, _, q'⟩ := muIn_cases q; n ⟨l, q'⟩
  have fz : ∀ p o, H1 p = some o → Fz (zIn Z μ L) μ1 p → Fz Z (PI.merge L μ1 μ) p := fun p o _ n => ⟨fun ⟨l, e⟩ => by
    rcases cs l _ e with ⟨h1, _, q⟩ | ⟨j, q, rfl⟩
    · exact n.2 (.inr ⟨l, h1, q⟩)
    · exact n.1 ⟨j, q⟩, fun z => n.2 (.inl z)⟩
  refine ⟨⟨?_, fun l a e => ?_, fun l l' a e e' => ?_, fun l e => ?_, fun a ⟨l, e⟩ z => ?_, fun a z => r1.kept a (.inl z)⟩, ext, fun v x r => Rep.map fz v x (fun l _ m hm => back l m hm) r⟩
  · rw [merge_length hx, merge_length hx1, List.length_map, rh.len, r1.len]
  · rcases cs l _ e with ⟨h2, h3, q⟩ | ⟨j, q, rfl⟩
    · obtain ⟨o, ho, ro⟩ := rh.at_ l a q
      refine ⟨o, by rw [merge_out (by rw [← rh.len]; exact h3) h2]; exact ho, RepO.ext ext ?_ ro⟩
      obtain ⟨u, hu⟩ := rh.there ⟨l, q⟩
      rw [hu]
      refine x1.frame a u hu fun ⟨i, e2⟩ => ?_
      obtain ⟨l', hl', hm'⟩ := muIn_cases e2
      have := rh.inj l l' a q hm'
      subst this
      exact h2 (List.mem_of_getElem? hl')
    · obtain ⟨o, ho, ro⟩ := r1.at_ j a q
      refine ⟨PI.mapObj (PI.backPlace L h.length) o, ?_, RepO.map fz (fun l _ m hm => back l m hm) ro⟩
      rw [merge_back nd hL hx1 (by rw [List.length_map]; exact lt_of_get ho), List.getElem?_map, ho]; rfl
  · rcases cs l _ e with ⟨h2, h3, q⟩ | ⟨j, q, rfl⟩ <;> rcases cs l' _ e' with ⟨h2', h3', q'⟩ | ⟨j', q', rfl⟩
    · exact rh.inj l l' a q q'
    · exact absurd (Or.inr ⟨l, h2, q⟩) (r1.apart a ⟨j', q'⟩)
    · exact absurd (Or.inr ⟨l', h2', q'⟩) (r1.apart a ⟨j, q⟩)
    · rw [r1.inj j j' a q q']
  · rcases cs l _ e with ⟨h2, h3, q⟩ | ⟨j, q, rfl⟩
    · rw [merge_out (by rw [← rh.len]; exact h3) h2]; exact rh.dead l q
    · have hd := r1.dead j q
      rw [merge_back nd hL hx1 (by rw [List.length_map]; exact lt_of_get hd), List.getElem?_map, hd]; rfl
  · rcases cs l _ e with ⟨h2, h3, q⟩ | ⟨j, q, rfl⟩
    · exact rh.apart a ⟨l, q⟩ z
    · exact r1.apart a ⟨j, q⟩ (.inl z)
end
end PIS

/-! Does a term stand for a piece of the row's text? -/
namespace PIS
open PySem PySem.Spec PyProof.Rows L2
open PI (Val Ob LH R E S)
/-- the names by which the terms are read: the def's own, by slots; the defs and constants of the module, by numbers -/
structure Tab where
  N : List Str
  F : Nat → Str
  has : Nat → Bool
  g : Nat → Str
  hasG : Nat → Bool
def visB (sc : Scope) (x : Str) : Bool := match sc.names.lookup x with
  | some .local => true
  | some .cell => true
  | some .free => true
  | _ => false
def locB (sc : Scope) (x : Str) : Bool := match sc.names.lookup x with
  | some .local => true
  | some .cell => true
  | _ => false
def gloB (sc : Scope) (x : Str) : Bool := match sc.names.lookup x with
  | some .globalImplicit => !(x == ("__debug__" : Str))
  | _ => false
def slotB (N : List Str) (i : Nat) (x : Str) : Bool := decide (N[i]? = some x) && !(x == ("__debug__" : Str)) && !(x == ("__classdict__" : Str))
def biName : PI.Bi → Str
  | .len => "len" | .list => "list" | .tuple => "tuple" | .anyL => "any" | .allL => "all" | .sum => "sum" | .maxL => "max" | .minL => "min" | .max2 => "max" | .min2 => "min" | .abs => "abs" | .int => "int" | .sorted => "sorted"
  | .isinst _ => "isinstance" | .rangeL1 => "list" | .rangeL2 => "list" | _ => ""
def mthName : PI.Mth → Str
  | .append => "append" | .extend => "extend" | .insert => "insert" | .remove => "remove" | .pop => "pop" | .popAt => "pop" | .index => "index" | .join => "join" | .split => "split"
def kindName : Nat → Str
  | 0 => "int" | 1 => "bool" | 2 => "tuple" | 3 => "list" | 4 => "str" | _ => ""
def plainBi : PI.Bi → Bool
  | .len => true | .list => true | .tuple => true | .anyL => true | .allL => true | .sum => true | .maxL => true | .minL => true | .max2 => true | .min2 => true | .abs => true | .int => true | .sorted => true | _ => false
def plainMth : PI.Mth → Bool
  | .append => true | .extend => true | .insert => true | .pop => true | .popAt => true | .index => true | _ => false
/-- only pop has no arguments -/
def popB : PI.Mth → List Expr → Bool
  | .pop, _ => true
  | _, [] => false
  | _, _ => true
def kindB (sc : Scope) (k : Nat) : Expr → Bool
  | .Name x _ => x == kindName k && gloB sc x && decide (k ≤ 4)
  | _ => false
def kindsB (sc : Scope) : List Nat → List Expr → Bool
  | [], [] => true
  | k :: ks, e :: es => kindB sc k e && kindsB sc ks es
  | _, _ => false
def noStar : Expr → Bool
  | .Starred _ _ => false
  | _ => true
def isNonE : E → Bool
  | .non => true
  | _ => false
def isVarE : E → Bool
  | .var _ => true
  | _ => false
/-- a target of names alone -/
def namesT : E → Bool
  | .tName _ => true
  | .tTup ts => namesT ts
  | .nil => true
  | .cons t ts => namesT t && namesT ts
  | _ => false
section
variable (T : Tab)
mutual
def chk : E → Scope → Expr → Bool
  | .var i, sc, .Name x _ => slotB T.N i x && visB sc x
  | .int z, _, .Constant (.int j) _ _ => z == j
  | .bl b, _, .Constant (.bool c) _ _ => b == c
  | .non, _, .Constant .none _ _ => true
  | .str s, _, .Constant (.str x) _ _ => x.cps.toList == s
  | .tup es, sc, .Tuple l _ _ => chks es sc l
  | .lst _ es, sc, .List l _ => chks es sc l
  | .dnew _, _, .Dict [] [] _ => true
  | .bin _ op a b, sc, .BinOp l o r _ => decide (o = opOf op) && chk a sc l && chk b sc r
  | .cmp op a b, sc, .Compare l [o] [r] _ => decide (o = cmpOf op) && chk a sc l && chk b sc r
  | .chain op op' a b c, sc, .Compare l [o, o'] [r, s] _ => decide (o = cmpOf op) && decide (o' = cmpOf op') && chk a sc l && chk b sc r && chk c sc s
  | .and a b, sc, .BoolOp .And (x :: y :: r) pos => chk a sc x && (match r with | [] => chk b sc y | _ => chk b sc (.BoolOp .And (y :: r) pos))
  | .or a b, sc, .BoolOp .Or (x :: y :: r) pos => chk a sc x && (match r with | [] => chk b sc y | _ => chk b sc (.BoolOp .Or (y :: r) pos))
  | .not a, sc, .UnaryOp .Not x _ => chk a sc x
  | .neg a, sc, .UnaryOp .USub x _ => chk a sc x
  | .ite c a b, sc, .IfExp x y z _ => chk c sc x && chk a sc y && chk b sc z
  | .call f es, sc, .Call (.Name x _) (e :: l) [] _ => x == T.F f && T.has f && gloB sc x && chks es sc (e :: l)
  | .bi _ f es, sc, .Call (.Name x _) (e :: l) [] _ => x == biName f && gloB sc x && (match f with
    | .isinst ks => match l with
      | [.Tuple cs _ _] => chks es sc [e] && kindsB sc ks cs && decide (1 ≤ ks.length) && decide (ks.length < 20)
      | [c] => chks es sc [e] && kindsB sc ks [c]
      | _ => false
    | .rangeL1 => match e, l with
      | .Call (.Name y _) l2 [] _, [] => y == ("range" : Str) && (gloB sc y && l2.length == 1) && chks es sc l2
      | _, _ => false
    | .rangeL2 => match e, l with
      | .Call (.Name y _) l2 [] _, [] => y == ("range" : Str) && (gloB sc y && l2.length == 2) && chks es sc l2
      | _, _ => false
    | f => plainBi f && chks es sc (e :: l))
  | .mth f o es, sc, .Call (.Attribute x m ap) l [] cp => m == mthName f && plainMth f && chk o sc x && chks es sc l && (ap.endLine == cp.line) && decide (l.length < 20) && popB f l
  | .idx a i, sc, .Subscript v s _ => chk a sc v && chk i sc s
  | .slc _ a lo hi, sc, .Subscript v (.Slice l u none _) _ => chk a sc v && (match l with | none => isNonE lo | some x => !isNonE lo && chk lo sc x) && (match u with | none => isNonE hi | some x => !isNonE hi && chk hi sc x)
  | .rev _ a, sc, .Subscript v (.Slice none none (some (.UnaryOp .USub (.Constant (.int 1) _ _) _)) _) _ => chk a sc v
  | .comp _ own tg it cond elt, sc, .ListComp el [⟨t, i, ifs, 0⟩] scope _ =>
    blkC T.N sc scope (own.map fun i => (T.N.getD i "", i)) && decide (∀ i ∈ own, i < T.N.length) && chkI it sc t i && chkT tg scope t && namesT tg && ((PI.tslots tg).all fun i => own.contains i) && chk elt (relS scope sc) el && (match cond, ifs with
      | .bl true, [] => true
      | c, [x] => chk c (relS scope sc) x
      | _, _ => false)
  | .frz e, sc, x => isVarE e && chk e sc x
  | _, _, _ => false
def chks : E → Scope → List Expr → Bool
  | .nil, _, [] => true
  | .cons e es, sc, x :: l => noStar x && chk e sc x && chks es sc l
  | _, _, _ => false
/-- targets -/
def chkT : E → Scope → Expr → Bool
  | .tName i, sc, .Name x _ => decide (T.N[i]? = some x) && locB sc x
  | .tTup ts, sc, .Tuple l _ _ => chkTs ts sc l
  | .tSub o i, sc, .Subscript v s _ => chk o sc v && chk i sc s
  | _, _, _ => false
def chkTs : E → Scope → List Expr → Bool
  | .nil, _, [] => true
  | .cons t ts, sc, x :: l => noStar x && chkT t sc x && chkTs ts sc l
  | _, _, _ => false
/-- what a for walks; the target's form -/
def chkI : E → Scope → Expr → Expr → Bool
  | .iSeq e, sc, _, x => chk e sc x
  | .iKeys e, sc, _, x => chk e sc x
  | .iRange1 a, sc, _, .Call (.Name y _) [x] [] _ => y == ("range" : Str) && gloB sc y && chk a sc x && noStar x
  | .iRange2 a b, sc, _, .Call (.Name y _) [x, z] [] _ => y == ("range" : Str) && gloB sc y && chk a sc x && chk b sc z && noStar x && noStar z
  | .iEnum a, sc, .Tuple _ _ _, .Call (.Name y _) [x] [] _ => y == ("enumerate" : Str) && gloB sc y && chk a sc x && noStar x
  | .iZip a b, sc, .Tuple _ _ _, .Call (.Name y _) [x, z] [] _ => y == ("zip" : Str) && gloB sc y && chk a sc x && chk b sc z && noStar x && noStar z
  | _, _, _, _ => false
end
/-- no comprehension: a value that is stored straight -/
def noComp : Expr → Bool
  | .ListComp _ _ _ _ => false
  | .SetComp _ _ _ _ => false
  | .DictComp _ _ _ _ _ => false
  | _ => true
/-- name = [..] on one row, the name a plain local one -/
def swB (sc : Scope) (y : Str) (py : Pos) : Expr → Bool
  | .ListComp _ _ scope pos => (match sc.names.lookup y with | some .local => true | _ => false) && (py.line == pos.line) && !(scope.names.any fun (n, k) => n == y && (k == .local || k == .cell))
  | _ => false
/-- .. or not so -/
def swN (sc : Scope) (y : Str) (py : Pos) : Expr → Bool
  | .ListComp _ _ scope pos => !((match sc.names.lookup y with | some .local => true | _ => false) && (py.line == pos.line) && !(scope.names.any fun (n, k) => n == y && (k == .local || k == .cell)))
  | x => noComp x
def isTupX : Expr → Bool
  | .Tuple _ _ _ => true
  | _ => false
/-- may the value be stored to this target? -/
def tgB (sc : Scope) (x : Expr) : Expr → Bool
  | .Name y py => swB sc y py x || swN sc y py x
  | .Subscript _ _ _ => true
  | .Tuple _ _ _ => !isTupX x
  | _ => false
/-- statements -/
def chkS : S → Scope → Stmt → Bool
  | .asg tg e, sc, .Assign [t] x pos => chkT T tg sc t && chk T e sc x && tgB sc x t
  | .expr e, sc, .Expr x _ => chk T e sc x && noComp x
  | .ret e, sc, .Return (some x) _ => chk T e sc x
  | .retN, _, .Return none _ => true
  | .ife c a b, sc, .If x l r _ => chk T c sc x && chkB a sc l && chkB b sc r
  | .whl c b, sc, .While x l [] _ => chk T c sc x && chkB b sc l
  | .for tg it b, sc, .For t i l [] _ => chkT T tg sc t && chkI T it sc t i && chkB b sc l
  | .never, _, _ => true
  | _, _, _ => false
where
  chkB : S → Scope → List Stmt → Bool
  | .nil, _, [] => true
  | .seq s t, sc, st :: l => chkS s sc st && chkB t sc l
  | .scoped b, sc, l => chkB b sc l
  | _, _, _ => false
end
end PIS

/-! What a checked expression does. -/
namespace PIS
open PySem PySem.Spec PyProof.Rows L2
open PI (Val Ob LH R E S CallT)
def Go (Z : Addr → Prop) (μ : Mu) (H : L2.Hp) (EX : Nat → L2.Hp → Prop) (K : Val → LH → Mu → V → L2.Hp → Prop) : R Val → Prop
  | .ok v h' => ∀ x H' μ', RelH Z μ' h' H' → Ext μ H μ' H' → Rep Z μ' H' v x → K v h' μ' x H'
  | .exc c h' => ∀ H' μ', RelH Z μ' h' H' → Ext μ H μ' H' → EX c H'
  | .err => False
section
variable {Z : Addr → Prop} {μ μ1 : Mu} {H H1 : L2.Hp} {EX : Nat → L2.Hp → Prop} {K K' : Val → LH → Mu → V → L2.Hp → Prop} {r : R Val}
theorem Go.shift (E : Ext μ H μ1 H1) (g : Go Z μ H EX K r) : Go Z μ1 H1 EX K r := by
  cases r with
  | ok v h' => exact fun x H' μ' R' E' Rp => g x H' μ' R' (E.trans E') Rp
  | exc c h' => exact fun H' μ' R' E' => g H' μ' R' (E.trans E')
  | err => exact g
theorem Go.bind {f : Val → LH → R Val} (g : Go Z μ H EX K (r.bind f)) : Go Z μ H EX (fun v h1 μ1 x H1 => Go Z μ1 H1 EX K (f v h1)) r := by
  cases r with
  | ok v h' => exact fun x H' μ' _ E' _ => Go.shift E' g
  | exc c h' => exact g
  | err => exact g
theorem Go.mono (g : Go Z μ H EX K r) (f : ∀ v h' μ' x H', RelH Z μ' h' H' → Ext μ H μ' H' → Rep Z μ' H' v x → K v h' μ' x H' → K' v h' μ' x H') : Go Z μ H EX K' r := by
  cases r with
  | ok v h' => exact fun x H' μ' R' E' Rp => f v h' μ' x H' R' E' Rp (g x H' μ' R' E' Rp)
  | exc c h' => exact g
  | err => exact g
theorem Go.toV {Q : VK} (ne : ∀ c h', r ≠ .exc c h') (g : Go Z μ H EX (fun _ _ _ x H' => Q x H') r) : GoV Z μ H Q r := by
  cases r with
  | ok v h' => exact g
  | exc c h' => exact absurd rfl (ne c h')
  | err => exact g
end
def GoA (Z : Addr → Prop) (μ : Mu) (H : L2.Hp) (EX : Nat → L2.Hp → Prop) (K : List Val → LH → Mu → List V → L2.Hp → Prop) : R Val → Prop
  | .ok v h' => match v with
    | .tup l => ∀ xs H' μ', RelH Z μ' h' H' → Ext μ H μ' H' → Reps Z μ' H' l xs → K l h' μ' xs H'
    | _ => False
  | .exc c h' => ∀ H' μ', RelH Z μ' h' H' → Ext μ H μ' H' → EX c H'
  | .err => False
section
variable {Z : Addr → Prop} {μ μ1 : Mu} {H H1 : L2.Hp} {EX : Nat → L2.Hp → Prop} {K K' : List Val → LH → Mu → List V → L2.Hp → Prop} {r : R Val}
theorem GoA.shift (E : Ext μ H μ1 H1) (g : GoA Z μ H EX K r) : GoA Z μ1 H1 EX K r := by
  cases r with
  | ok v h' =>
    cases v with
    | tup l => exact fun xs H' μ' R' E' Rp => g xs H' μ' R' (E.trans E') Rp
    | _ => exact g
  | exc c h' => exact fun H' μ' R' E' => g H' μ' R' (E.trans E')
  | err => exact g
theorem GoA.bind {f : Val → LH → R Val} (g : GoA Z μ H EX K (r.bind f)) : Go Z μ H EX (fun v h1 μ1 x H1 => GoA Z μ1 H1 EX K (f v h1)) r := by
  cases r with
  | ok v h' => exact fun x H' μ' _ E' _ => GoA.shift E' g
  | exc c h' => exact g
  | err => exact g
theorem GoA.mono (g : GoA Z μ H EX K r) (f : ∀ l h' μ' xs H', RelH Z μ' h' H' → Ext μ H μ' H' → Reps Z μ' H' l xs → K l h' μ' xs H' → K' l h' μ' xs H') : GoA Z μ H EX K' r := by
  cases r with
  | ok v h' =>
    cases v with
    | tup l => exact fun xs H' μ' R' E' Rp => f _ h' μ' xs H' R' E' Rp (g xs H' μ' R' E' Rp)
    | _ => exact g
  | exc c h' => exact g
  | err => exact g
theorem GoA.cons {v : Val} {x : V} (rv : Rep Z μ H v x) (g : GoA Z μ H EX K (r.bind fun vs h => PI.onT vs fun l => .ok (.tup (v :: l)) h)) :
    GoA Z μ H EX (fun l h' μ' xs H' => K (v :: l) h' μ' (x :: xs) H') r := by
  cases r with
  | ok w h' =>
    cases w with
    | tup l => exact fun xs H' μ' R' E' Rp => g (x :: xs) H' μ' R' E' (Reps.cons (Rep.ext E' _ _ rv) Rp)
    | _ => exact g
  | exc c h' => exact g
  | err => exact g
/-- behind the arguments -/
theorem Go.args {KofV : Val → LH → Mu → V → L2.Hp → Prop} {f : List Val → LH → R Val} (g : Go Z μ H EX KofV (r.bind fun vs h => PI.onT vs fun l => f l h)) :
    GoA Z μ H EX (fun l h' μ' xs H' => Go Z μ' H' EX KofV (f l h')) r := by
  cases r with
  | ok w h' =>
    cases w with
    | tup l => exact fun xs H' μ' R' E' Rp => Go.shift E' g
    | _ => exact g
  | exc c h' => exact g
  | err => exact g
end
theorem mkL_nox {m : Bool} {xs : List Val} {h : LH} (c : Nat) (h' : LH) : PI.mkL m xs h ≠ .exc c h' := by
  unfold PI.mkL; split <;> (try split) <;> simp
theorem optR_nox {o : Option Val} {h : LH} (c : Nat) (h' : LH) : PI.optR h o ≠ .exc c h' := by
  cases o <;> simp
theorem binop_nox {m : Bool} {op : PI.Bop} {a b : Val} {h : LH} (c : Nat) (h' : LH) : PI.binop m op a b h ≠ .exc c h' := by
  cases op <;> simp only [PI.binop] <;> repeat' split
  all_goals first | exact mkL_nox c h' | (intro z; cases z)
theorem slice_nox {m : Bool} {a : Val} {l u : Option Int} {h : LH} (c : Nat) (h' : LH) : PI.slice m a l u h ≠ .exc c h' := by
  simp only [PI.slice]; repeat' split
  all_goals first | exact mkL_nox c h' | (intro z; cases z)
theorem bi_nox {m : Bool} {f : PI.Bi} {as : List Val} {h : LH} (c : Nat) (h' : LH) : PI.bi m f as h ≠ .exc c h' := by
  unfold PI.bi; repeat' split
  all_goals first | exact mkL_nox c h' | exact optR_nox c h' | (intro z; cases z)
theorem mth_nox {f : PI.Mth} {o : Val} {as : List Val} {h : LH} (c : Nat) (h' : LH) : PI.mth f o as h ≠ .exc c h' := by
  unfold PI.mth; repeat' split
  all_goals first | exact optR_nox c h' | (intro z; cases z)
section
variable (C : CallT) (G : Nat → Val) (ca : Nat → Addr) (W : WX)
/-- what a def promises: what the interpreter's call gives -/
def spI (f : Nat) : Sp := fun vs H Q Ex => ∃ Z μ h as, RelH Z μ h H ∧ Reps Z μ H as vs ∧ Go Z μ H (fun c H' => Ex (.ref (ca c)) none H') (fun _ _ _ x H' => Q x H') (C f as h)
def tE (e : E) : TE := fun σV H Q => ∃ Z σ h μ, RelS Z μ H σ σV ∧ RelH Z μ h H ∧ Go Z μ H (fun c H' => W (.ref (ca c)) none σV H') (fun _ _ _ x H' => Q x H') (PI.ev C G e σ h)
/-- arguments -/
def tA (e : E) : TA := fun σV H Q => ∃ Z σ h μ, RelS Z μ H σ σV ∧ RelH Z μ h H ∧ GoA Z μ H (fun c H' => W (.ref (ca c)) none σV H') (fun _ _ _ xs H' => Q xs H') (PI.ev C G e σ h)
end
structure Ctx (T : Tab) (C : CallT) (ca : Nat → Addr) (k : Nat) (sc : Scope) (X : Cx) (W : WX) : Prop where
  calm : X.calm = true
  names : X.N = T.N
  nd : T.N.Nodup
  scope : X.env.scope = sc
  room : Room k X.A
  takes : Takes X W
  fns : ∀ f, T.has f = true → ∃ a fd ps, X.mg (T.F f) = some (.ref a) ∧ FnOk X.prog X.w X.K X.mg X.base (L2.CX X.prog X.w) k a fd ps (spI C ca f) ∧ PySem.W.keepIn X.K (.ref a) = true ∧ Binds X.K fd ps []
  blt : ∀ b : Str, b ∈ (["len", "list", "tuple", "any", "all", "sum", "max", "min", "abs", "int", "sorted", "isinstance", "range", "enumerate", "zip", "bool", "str"] : List Str) → X.mg b = none
section
variable {X : Cx} {e : Expr}
theorem PE.imp {t t' : TE} (h : PE X e t) (f : ∀ σ H Q, t' σ H Q → t σ H Q) : PE X e t' := ⟨fun pins s σ H Q I q => h.run pins s σ H Q I (f σ H Q q)⟩
theorem PT.imp {t t' : TT} (h : PT X e t) (f : ∀ σ H Q, t' σ H Q → t σ H Q) : PT X e t' := ⟨fun pins s σ H Q I q => h.run pins s σ H Q I (f σ H Q q)⟩
theorem PW.imp {t t' : TT} (h : PW X e t) (f : ∀ σ H Q, t' σ H Q → t σ H Q) : PW X e t' := ⟨fun wh pins s σ H Q I q => h.run wh pins s σ H Q I (f σ H Q q)⟩
theorem PA.imp {es : List Expr} {t t' : TA} (h : PA X es t) (f : ∀ σ H Q, t' σ H Q → t σ H Q) : PA X es t' := ⟨fun pos pins s σ H Q I q => h.run pos pins s σ H Q I (f σ H Q q)⟩
theorem PE.or {t t' : TE} (h : PE X e t) (h' : PE X e t') : PE X e (fun σ H Q => t σ H Q ∨ t' σ H Q) := ⟨fun pins s σ H Q I q => q.elim (h.run pins s σ H Q I) (h'.run pins s σ H Q I)⟩
theorem star_cons {e : Expr} {es : List Expr} {env : Env} (h : noStar e = true) : starEach (e :: es) env = (false, eval e env) :: starEach es env := by
  cases e <;> first | rfl | (simp [noStar] at h)
theorem star_none {es : List Expr} {env : Env} {pos : Pos} (h : es.all noStar = true) : (backTo pos (starEach es env)).any (·.1) = false := by
  induction es with
  | nil => rfl
  | cons e es ih =>
    simp only [List.all_cons, Bool.and_eq_true] at h
    rw [star_cons h.1]
    show (false || (backTo pos (starEach es env)).any (·.1)) = false
    rw [ih h.2]; rfl
end
section
variable {T : Tab}
/-- a checked text is no set, slice or star -/
def plainX : Expr → Bool
  | .Set _ _ _ => false
  | .Slice _ _ _ _ => false
  | .Starred _ _ => false
  | _ => true
theorem chk_plain : ∀ (e : E) (sc : Scope) (x : Expr), chk T e sc x = true → plainX x = true := by
  intro e
  induction e with
  | frz e ih => intro sc x h; simp only [chk, Bool.and_eq_true] at h; exact ih sc x h.2
  | _ => intro sc x h; cases x <;> first | rfl | (simp [chk] at h)
theorem chks_star : ∀ (e : E) (sc : Scope) (l : List Expr), chks T e sc l = true → l.all noStar = true := by
  intro e
  induction e with
  | cons e es _ ih =>
    intro sc l h
    cases l with
    | nil => rfl
    | cons x l => simp only [chks, Bool.and_eq_true] at h; simp only [List.all_cons, h.1.1, Bool.true_and]; exact ih sc l h.2
  | nil => intro sc l h; cases l <;> first | rfl | (simp [chks] at h)
  | _ => intro sc l h; simp [chks] at h
theorem plain_ix {x : Expr} (h : plainX x = true) : PlainIx x := fun o i => by
  cases x <;> first | rfl | (simp [plainX] at h)
theorem plain_mark {x : Expr} {op : CmpOp} (h : plainX x = true) : behindInMarks op x = false := by
  cases x <;> first | rfl | (simp [plainX] at h)
end
end PIS

namespace PIS
open PySem PySem.Spec PyProof.Rows L2
open PI (Val Ob LH R E S CallT)
structure Ok1 (X : Cx) (x : Expr) (t : TE) : Prop where
  pe : PE X x t
  pt : PT X x (tB t)
  pw : ∀ op l pos, x = .BoolOp op l pos → PW X x (tB t)
theorem Ok1.val {X : Cx} {x : Expr} {t : TE} (h : PE X x t) (he : ∀ whole, isTrue x X.env whole = (do let v ← whole; standAt x.pos; holding [v] (truthy v))) (nb : ∀ op l pos, x ≠ .BoolOp op l pos) : Ok1 X x t :=
  ⟨h, pt_val h he, fun op l pos e => absurd e (nb op l pos)⟩
theorem Ok1.imp {X : Cx} {x : Expr} {t t' : TE} (h : Ok1 X x t) (f : ∀ σ H Q, t' σ H Q → t σ H Q) : Ok1 X x t' :=
  ⟨PE.imp h.pe f, PT.imp h.pt fun σ H Q q => f σ H _ q, fun op l pos e => PW.imp (h.pw op l pos e) fun σ H Q q => f σ H _ q⟩
section
variable {T : Tab} {C : CallT} {G : Nat → Val} {ca : Nat → Addr} {k : Nat} {sc : Scope} {X : Cx} {W : WX}
theorem Ctx.hu (κ : Ctx T C ca k sc X W) : X.A.units + 65 < cLine := by have := κ.room.un; omega
theorem Ctx.glo (κ : Ctx T C ca k sc X W) {x : Str} (h : gloB sc x = true) : Gl X x ∧ (x == ("__debug__" : Str)) = false := by
  unfold gloB at h
  split at h
  · rename_i e
    exact ⟨by unfold Gl PySem.Env.kindOf; rw [κ.scope]; exact e, by simpa using h⟩
  · cases h
theorem Ctx.slot (κ : Ctx T C ca k sc X W) {i : Nat} {x : Str} (h : slotB T.N i x = true) : X.N[i]? = some x ∧ (x == ("__debug__" : Str)) = false ∧ (x == ("__classdict__" : Str)) = false := by
  unfold slotB at h
  simp only [Bool.and_eq_true, decide_eq_true_eq, Bool.not_eq_true'] at h
  rw [κ.names]
  exact ⟨h.1.1, h.1.2, h.2⟩
theorem Ctx.vis (κ : Ctx T C ca k sc X W) {x : Str} (h : visB sc x = true) : Vis X.env.scope x := by
  unfold visB at h
  rw [κ.scope]
  split at h <;> first | (rename_i e; first | exact .inl e | exact .inr (.inl e) | exact .inr (.inr e)) | cases h
theorem ok_var (κ : Ctx T C ca k sc X W) {i : Nat} {x : Str} {pos : Pos} (h1 : slotB T.N i x = true) (h2 : visB sc x = true) : Ok1 X (.Name x pos) (tE C G ca W (.var i)) := by
  obtain ⟨a, b, c⟩ := κ.slot h1
  refine .val (PE.imp (pe_var a (κ.vis h2) b c) fun σV H Q ⟨Z, σ, h, μ, rs, rh, g⟩ => ?_) (fun _ => rfl) (fun _ _ _ e => by cases e)
  simp only [PI.ev] at g
  split at g
  · rename_i v hv
    obtain ⟨x', e1, e2⟩ := rs.2 i v hv
    exact ⟨x', e1, g x' H μ rh (Ext.refl _ _) e2⟩
  · exact g.elim
theorem ok_int {z : Int} {j : Nat} {pos : Pos} : Ok1 X (.Constant (.int z) j pos) (tE C G ca W (.int z)) :=
  .val (PE.imp pe_int fun σV H Q ⟨Z, σ, h, μ, rs, rh, g⟩ => g (.int z) H μ rh (Ext.refl _ _) (rep_int.mpr rfl)) (fun _ => rfl) (fun _ _ _ e => by cases e)
theorem ok_bl {z : Bool} {j : Nat} {pos : Pos} : Ok1 X (.Constant (.bool z) j pos) (tE C G ca W (.bl z)) :=
  .val (PE.imp pe_bl fun σV H Q ⟨Z, σ, h, μ, rs, rh, g⟩ => g (.bl z) H μ rh (Ext.refl _ _) (rep_bl.mpr rfl)) (fun _ => rfl) (fun _ _ _ e => by cases e)
theorem ok_non {j : Nat} {pos : Pos} : Ok1 X (.Constant .none j pos) (tE C G ca W .non) :=
  .val (PE.imp pe_non fun σV H Q ⟨Z, σ, h, μ, rs, rh, g⟩ => g .non H μ rh (Ext.refl _ _) (rep_non.mpr rfl)) (fun _ => rfl) (fun _ _ _ e => by cases e)
theorem ok_str {x : Str} {j : Nat} {pos : Pos} : Ok1 X (.Constant (.str x) j pos) (tE C G ca W (.str x.cps.toList)) :=
  .val (PE.imp pe_str fun σV H Q ⟨Z, σ, h, μ, rs, rh, g⟩ => g (.str x) H μ rh (Ext.refl _ _) (rep_str.mpr (by simp))) (fun _ => rfl) (fun _ _ _ e => by cases e)
theorem ok_nil : PA X [] (tA C G ca W .nil) := PA.imp pa_nil fun σV H Q ⟨Z, σ, h, μ, rs, rh, g⟩ => g [] H μ rh (Ext.refl _ _) Reps.nil
theorem ok_cons {e es : E} {x : Expr} {l : List Expr} (ha : PE X x (tE C G ca W e)) (hb : PA X l (tA C G ca W es)) (ns : noStar x = true) : PA X (x :: l) (tA C G ca W (.cons e es)) := by
  refine PA.imp (pa_cons ha hb (star_cons ns)) fun σV H Q ⟨Z, σ, h, μ, rs, rh, g⟩ => ?_
  simp only [PI.ev] at g
  refine ⟨Z, σ, h, μ, rs, rh, (GoA.bind g).mono fun v h1 μ1 y H1 R1 E1 ry g1 => ?_⟩
  exact ⟨Z, σ, h1, μ1, rs.ext E1, R1, (GoA.cons ry g1).mono fun l h2 μ2 xs H2 R2 E2 rxs q => q⟩
theorem ok_tup {es : E} {l : List Expr} {j : Nat} {pos : Pos} (ha : PA X l (tA C G ca W es)) : Ok1 X (.Tuple l j pos) (tE C G ca W (.tup es)) := by
  refine .val (PE.imp (pe_tup ha) fun σV H Q ⟨Z, σ, h, μ, rs, rh, g⟩ => ?_) (fun _ => rfl) (fun _ _ _ e => by cases e)
  simp only [PI.ev] at g
  refine ⟨Z, σ, h, μ, rs, rh, (Go.args (f := fun l h => if l.length ≤ PI.SL then .ok (.tup l) h else .err) g).mono fun vs h1 μ1 xs H1 R1 E1 rxs g1 => ?_⟩
  split at g1
  · rename_i hl
    refine ⟨by rw [← rxs.length, sizeLine_eq]; exact hl, fun p n => ?_⟩
    exact g1 _ _ μ1 (R1.fresh n) (ext_upd n) (rep_tup R1 n rxs)
  · exact g1.elim
theorem ok_lst {m : Bool} {es : E} {l : List Expr} {pos : Pos} (ha : PA X l (tA C G ca W es)) : Ok1 X (.List l pos) (tE C G ca W (.lst m es)) := by
  refine .val (PE.imp (pe_lst ha) fun σV H Q ⟨Z, σ, h, μ, rs, rh, g⟩ => ?_) (fun _ => rfl) (fun _ _ _ e => by cases e)
  simp only [PI.ev] at g
  refine ⟨Z, σ, h, μ, rs, rh, (Go.args (f := fun l h => PI.mkL m l h) g).mono fun vs h1 μ1 xs H1 R1 E1 rxs g1 => ?_⟩
  obtain ⟨a, b⟩ := GoV.mkL R1 rxs (Go.toV (fun c h' => mkL_nox c h') g1)
  exact ⟨by rw [← rxs.length]; exact a, b⟩
theorem ok_dnew {t : Bool} {pos : Pos} : Ok1 X (.Dict [] [] pos) (tE C G ca W (.dnew t)) := by
  cases t with
  | false =>
    refine .val (PE.imp pe_dnewK fun σV H Q ⟨Z, σ, h, μ, rs, rh, g⟩ => fun p n => ?_) (fun _ => rfl) (fun _ _ _ e => by cases e)
    exact g _ _ (μ ++ [some p]) (rh.push n (.inl ⟨rfl, [], upd_same, rfl, .nil⟩)) (ext_push n) (Rep.pushed rh)
  | true =>
    refine .val (PE.imp pe_dnewT fun σV H Q ⟨Z, σ, h, μ, rs, rh, g⟩ => fun p n => ?_) (fun _ => rfl) (fun _ _ _ e => by cases e)
    exact g _ _ (μ ++ [some p]) (rh.push n (.inr ⟨rfl, [], upd_same, rfl, .nil⟩)) (ext_push n) (Rep.pushed rh)
theorem bind2 {a b e : E} {f : Val → Val → LH → R Val} {r : R2} (he : ∀ σ h, PI.ev C G e σ h = (PI.ev C G a σ h).bind fun x h => (PI.ev C G b σ h).bind fun y h => f x y h)
    (hr : ∀ Z μ h va vb x y H EX Q, RelH Z μ h H → Rep Z μ H va x → Rep Z μ H vb y → Go Z μ H EX (fun _ _ _ x H' => Q x H') (f va vb h) → r x y H Q) : ∀ σ H Q, tE C G ca W e σ H Q → tOp r (tE C G ca W a) (tE C G ca W b) σ H Q := by
  intro σV H Q ⟨Z, σ, h, μ, rs, rh, g⟩
  rw [he] at g
  refine ⟨Z, σ, h, μ, rs, rh, (Go.bind g).mono fun va h1 μ1 x H1 R1 E1 rx g1 => ?_⟩
  refine ⟨Z, σ, h1, μ1, rs.ext E1, R1, (Go.bind g1).mono fun vb h2 μ2 y H2 R2 E2 ry g2 => ?_⟩
  exact hr Z μ2 h2 va vb x y H2 _ Q R2 (Rep.ext E2 _ _ rx) ry g2
theorem ok_bin {m : Bool} {op : PI.Bop} {a b : E} {x y : Expr} {pos : Pos} (ha : PE X x (tE C G ca W a)) (hb : PE X y (tE C G ca W b)) : Ok1 X (.BinOp x (opOf op) y pos) (tE C G ca W (.bin m op a b)) := by
  refine .val (PE.imp (pe_op (op_bin m op) ha hb) (bind2 (f := fun x y h => PI.binop m op x y h) (fun σ h => by simp only [PI.ev]) fun Z μ h va vb x y H EX Q R rx ry g => ?_)) (fun _ => rfl) (fun _ _ _ e => by cases e)
  exact ⟨Z, μ, h, va, vb, R, rx, ry, Go.toV (fun c h' => binop_nox c h') g⟩
theorem go_cmp {Z : Addr → Prop} {μ : Mu} {h : LH} {H : L2.Hp} {EX : Nat → L2.Hp → Prop} {Q : VK} {o : Option Bool} (R : RelH Z μ h H) (g : Go Z μ H EX (fun _ _ _ x H' => Q x H') (PI.optR h (o.map .bl))) : ∃ c, o = some c ∧ Q (.bl c) H := by
  cases o with
  | none => exact g.elim
  | some c => exact ⟨c, rfl, g (.bl c) H μ R (Ext.refl _ _) (rep_bl.mpr rfl)⟩
theorem cmp_r {op : PI.Cop} (Z : Addr → Prop) (μ : Mu) (h : LH) (va vb : Val) (x y : V) (H : L2.Hp) (EX : Nat → L2.Hp → Prop) (Q : VK) (R : RelH Z μ h H) (rx : Rep Z μ H va x) (ry : Rep Z μ H vb y)
    (g : Go Z μ H EX (fun _ _ _ x H' => Q x H') (PI.optR h ((PI.cmpop op va vb h).map .bl))) : rCmp op x y H Q := by
  obtain ⟨c, e, q⟩ := go_cmp R g
  exact ⟨Z, μ, h, va, vb, c, R, rx, ry, e, q⟩
theorem ok_cmp (κ : Ctx T C ca k sc X W) {op : PI.Cop} {a b : E} {x y : Expr} {pos : Pos} (ha : PE X x (tE C G ca W a)) (hb : PE X y (tE C G ca W b)) (hy : plainX y = true) : Ok1 X (.Compare x [cmpOf op] [y] pos) (tE C G ca W (.cmp op a b)) := by
  have f := bind2 (C := C) (G := G) (ca := ca) (W := W) (a := a) (b := b) (e := .cmp op a b) (r := rCmp op) (f := fun x y h => PI.optR h ((PI.cmpop op x y h).map .bl)) (fun σ h => by simp only [PI.ev]) cmp_r
  exact ⟨PE.imp (pe_cmpR (op_cmp κ.hu op) ha hb (plain_mark hy)) f, PT.imp (pt_cmpR (op_cmp κ.hu op) ha hb (plain_mark hy)) fun σ H Q q => f σ H _ q, fun _ _ _ e => by cases e⟩
theorem ok_chain (κ : Ctx T C ca k sc X W) {op op' : PI.Cop} {a b c : E} {x y z : Expr} {pos : Pos} (ha : PE X x (tE C G ca W a)) (hb : PE X y (tE C G ca W b)) (hc : PE X z (tE C G ca W c)) (hz : plainX z = true) :
    Ok1 X (.Compare x [cmpOf op, cmpOf op'] [y, z] pos) (tE C G ca W (.chain op op' a b c)) := by
  have f : ∀ σ H Q, tE C G ca W (.chain op op' a b c) σ H Q → tChain (rCmp op) (rCmp op') (tE C G ca W a) (tE C G ca W b) (tE C G ca W c) σ H Q := by
    intro σV H Q ⟨Z, σ, h, μ, rs, rh, g⟩
    simp only [PI.ev] at g
    refine ⟨Z, σ, h, μ, rs, rh, (Go.bind g).mono fun va h1 μ1 x H1 R1 E1 rx g1 => ?_⟩
    refine ⟨Z, σ, h1, μ1, rs.ext E1, R1, (Go.bind g1).mono fun vb h2 μ2 y H2 R2 E2 ry g2 => ?_⟩
    have rx2 := Rep.ext E2 _ _ rx
    split at g2
    · rename_i ec
      refine ⟨Z, μ2, h2, va, vb, true, R2, rx2, ry, ec, true, rfl, iteT ?_⟩
      refine ⟨Z, σ, h2, μ2, (rs.ext E1).ext E2, R2, (Go.bind g2).mono fun vc h3 μ3 z H3 R3 E3 rz g3 => ?_⟩
      exact cmp_r Z μ3 h3 vb vc y z H3 _ Q R3 (Rep.ext E3 _ _ ry) rz g3
    · rename_i ec
      refine ⟨Z, μ2, h2, va, vb, false, R2, rx2, ry, ec, false, rfl, iteF ?_⟩
      exact g2 (.bl false) H2 μ2 R2 (Ext.refl _ _) (rep_bl.mpr rfl)
    · exact g2.elim
  have hm : lastMarks [cmpOf op, cmpOf op'] [y, z] = false := by
    show behindInMarks (cmpOf op') z = false
    exact plain_mark hz
  exact ⟨PE.imp (pe_chain (op_cmp κ.hu op) (op_cmp κ.hu op') ha hb hc hm) f, PT.imp (pt_chain (op_cmp κ.hu op) (op_cmp κ.hu op') ha hb hc hm) fun σ H Q q => f σ H _ q, fun _ _ _ e => by cases e⟩
theorem go_bool {Z : Addr → Prop} {μ : Mu} {H : L2.Hp} {EX : Nat → L2.Hp → Prop} {K : Val → LH → Mu → V → L2.Hp → Prop} {v : Val} {x : V} {p q : R Val} (rx : Rep Z μ H v x)
    (g : Go Z μ H EX K (PI.onB v p q)) : (x = .bl true ∧ v = .bl true ∧ Go Z μ H EX K p) ∨ (x = .bl false ∧ v = .bl false ∧ Go Z μ H EX K q) := by
  cases v <;> first | exact g.elim | skip
  rename_i b
  cases b with
  | true => exact .inl ⟨rep_bl.mp rx, rfl, g⟩
  | false => exact .inr ⟨rep_bl.mp rx, rfl, g⟩
theorem and_f {a b : E} : ∀ σ H Q, tE C G ca W (.and a b) σ H Q → tAndV (tE C G ca W a) (tE C G ca W b) σ H Q := by
  intro σV H Q ⟨Z, σ, h, μ, rs, rh, g⟩
  simp only [PI.ev] at g
  refine ⟨Z, σ, h, μ, rs, rh, (Go.bind g).mono fun va h1 μ1 x H1 R1 E1 rx g1 => ?_⟩
  rcases go_bool rx g1 with ⟨rfl, rfl, g2⟩ | ⟨rfl, rfl, g2⟩
  · exact ⟨true, rfl, iteT ⟨Z, σ, h1, μ1, rs.ext E1, R1, g2⟩⟩
  · exact ⟨false, rfl, iteF (g2 (.bl false) H1 μ1 R1 (Ext.refl _ _) (rep_bl.mpr rfl))⟩
theorem or_f {a b : E} : ∀ σ H Q, tE C G ca W (.or a b) σ H Q → tOrV (tE C G ca W a) (tE C G ca W b) σ H Q := by
  intro σV H Q ⟨Z, σ, h, μ, rs, rh, g⟩
  simp only [PI.ev] at g
  refine ⟨Z, σ, h, μ, rs, rh, (Go.bind g).mono fun va h1 μ1 x H1 R1 E1 rx g1 => ?_⟩
  rcases go_bool rx g1 with ⟨rfl, rfl, g2⟩ | ⟨rfl, rfl, g2⟩
  · exact ⟨true, rfl, iteT (g2 (.bl true) H1 μ1 R1 (Ext.refl _ _) (rep_bl.mpr rfl))⟩
  · exact ⟨false, rfl, iteF ⟨Z, σ, h1, μ1, rs.ext E1, R1, g2⟩⟩
/-- the test's reading of and, or -/
theorem andT_f {a b : E} : ∀ σ H Q, tB (tE C G ca W (.and a b)) σ H Q → tAnd (tB (tE C G ca W a)) (tB (tE C G ca W b)) σ H Q := by
  intro σV H Q ⟨Z, σ, h, μ, rs, rh, g⟩
  simp only [PI.ev] at g
  refine ⟨Z, σ, h, μ, rs, rh, (Go.bind g).mono fun va h1 μ1 x H1 R1 E1 rx g1 => ?_⟩
  rcases go_bool rx g1 with ⟨rfl, rfl, g2⟩ | ⟨rfl, rfl, g2⟩
  · exact ⟨true, rfl, iteT ⟨Z, σ, h1, μ1, rs.ext E1, R1, g2⟩⟩
  · refine ⟨false, rfl, iteF ?_⟩
    obtain ⟨c, e, q⟩ := g2 (.bl false) H1 μ1 R1 (Ext.refl _ _) (rep_bl.mpr rfl)
    cases e; exact q
theorem orT_f {a b : E} : ∀ σ H Q, tB (tE C G ca W (.or a b)) σ H Q → tOr (tB (tE C G ca W a)) (tB (tE C G ca W b)) σ H Q := by
  intro σV H Q ⟨Z, σ, h, μ, rs, rh, g⟩
  simp only [PI.ev] at g
  refine ⟨Z, σ, h, μ, rs, rh, (Go.bind g).mono fun va h1 μ1 x H1 R1 E1 rx g1 => ?_⟩
  rcases go_bool rx g1 with ⟨rfl, rfl, g2⟩ | ⟨rfl, rfl, g2⟩
  · refine ⟨true, rfl, iteT ?_⟩
    obtain ⟨c, e, q⟩ := g2 (.bl true) H1 μ1 R1 (Ext.refl _ _) (rep_bl.mpr rfl)
    cases e; exact q
  · exact ⟨false, rfl, iteF ⟨Z, σ, h1, μ1, rs.ext E1, R1, g2⟩⟩
theorem ok_and1 {a b : E} {x y : Expr} {pos : Pos} (ha : Ok1 X x (tE C G ca W a)) (hb : Ok1 X y (tE C G ca W b)) : Ok1 X (.BoolOp .And [x, y] pos) (tE C G ca W (.and a b)) := by
  have w : PW X (.BoolOp .And [x, y] pos) (tB (tE C G ca W (.and a b))) := PW.imp (pw_and ha.pt (pw_and1 hb.pt)) andT_f
  exact ⟨PE.imp (pe_and ha.pe (pe_one hb.pe)) and_f, w.pt, fun _ _ _ _ => w⟩
theorem ok_and2 {a b : E} {x y : Expr} {r : List Expr} {pos : Pos} (ha : Ok1 X x (tE C G ca W a)) (hb : Ok1 X (.BoolOp .And (y :: r) pos) (tE C G ca W b)) : Ok1 X (.BoolOp .And (x :: y :: r) pos) (tE C G ca W (.and a b)) := by
  have w : PW X (.BoolOp .And (x :: y :: r) pos) (tB (tE C G ca W (.and a b))) := PW.imp (pw_and ha.pt (hb.pw _ _ _ rfl)) andT_f
  exact ⟨PE.imp (pe_and ha.pe hb.pe) and_f, w.pt, fun _ _ _ _ => w⟩
theorem ok_or1 {a b : E} {x y : Expr} {pos : Pos} (ha : Ok1 X x (tE C G ca W a)) (hb : Ok1 X y (tE C G ca W b)) : Ok1 X (.BoolOp .Or [x, y] pos) (tE C G ca W (.or a b)) := by
  have w : PW X (.BoolOp .Or [x, y] pos) (tB (tE C G ca W (.or a b))) := PW.imp (pw_or ha.pt (pw_or1 hb.pt)) orT_f
  exact ⟨PE.imp (pe_or ha.pe (pe_one hb.pe)) or_f, w.pt, fun _ _ _ _ => w⟩
theorem ok_or2 {a b : E} {x y : Expr} {r : List Expr} {pos : Pos} (ha : Ok1 X x (tE C G ca W a)) (hb : Ok1 X (.BoolOp .Or (y :: r) pos) (tE C G ca W b)) : Ok1 X (.BoolOp .Or (x :: y :: r) pos) (tE C G ca W (.or a b)) := by
  have w : PW X (.BoolOp .Or (x :: y :: r) pos) (tB (tE C G ca W (.or a b))) := PW.imp (pw_or ha.pt (hb.pw _ _ _ rfl)) orT_f
  exact ⟨PE.imp (pe_or ha.pe hb.pe) or_f, w.pt, fun _ _ _ _ => w⟩
theorem ok_not {a : E} {x : Expr} {pos : Pos} (ha : Ok1 X x (tE C G ca W a)) : Ok1 X (.UnaryOp .Not x pos) (tE C G ca W (.not a)) := by
  refine ⟨PE.imp (pe_not ha.pe) ?_, PT.imp (pt_not ha.pt) ?_, fun _ _ _ e => by cases e⟩
  · intro σV H Q ⟨Z, σ, h, μ, rs, rh, g⟩
    simp only [PI.ev] at g
    refine ⟨Z, σ, h, μ, rs, rh, (Go.bind g).mono fun va h1 μ1 x H1 R1 E1 rx g1 => ?_⟩
    rcases go_bool rx g1 with ⟨rfl, rfl, g2⟩ | ⟨rfl, rfl, g2⟩
    · exact ⟨true, rfl, g2 (.bl false) H1 μ1 R1 (Ext.refl _ _) (rep_bl.mpr rfl)⟩
    · exact ⟨false, rfl, g2 (.bl true) H1 μ1 R1 (Ext.refl _ _) (rep_bl.mpr rfl)⟩
  · intro σV H Q ⟨Z, σ, h, μ, rs, rh, g⟩
    simp only [PI.ev] at g
    refine ⟨Z, σ, h, μ, rs, rh, (Go.bind g).mono fun va h1 μ1 x H1 R1 E1 rx g1 => ?_⟩
    rcases go_bool rx g1 with ⟨rfl, rfl, g2⟩ | ⟨rfl, rfl, g2⟩
    · obtain ⟨c, e, q⟩ := g2 (.bl false) H1 μ1 R1 (Ext.refl _ _) (rep_bl.mpr rfl)
      cases e
      exact ⟨true, rfl, q⟩
    · obtain ⟨c, e, q⟩ := g2 (.bl true) H1 μ1 R1 (Ext.refl _ _) (rep_bl.mpr rfl)
      cases e
      exact ⟨false, rfl, q⟩
theorem ok_neg {a : E} {x : Expr} {pos : Pos} (ha : PE X x (tE C G ca W a)) : Ok1 X (.UnaryOp .USub x pos) (tE C G ca W (.neg a)) := by
  refine .val (PE.imp (pe_un un_neg ha) fun σV H Q ⟨Z, σ, h, μ, rs, rh, g⟩ => ?_) (fun _ => rfl) (fun _ _ _ e => by cases e)
  simp only [PI.ev] at g
  refine ⟨Z, σ, h, μ, rs, rh, (Go.bind g).mono fun va h1 μ1 x H1 R1 E1 rx g1 => ?_⟩
  cases va <;> first | exact g1.elim | skip
  exact ⟨_, rep_int.mp rx, g1 _ H1 μ1 R1 (Ext.refl _ _) (rep_int.mpr rfl)⟩
theorem pt_ite {c a b : Expr} {pos : Pos} {tc ta tb : TT} (hc : PT X c tc) (ha : PT X a ta) (hb : PT X b tb) : PT X (.IfExp c a b pos) (fun σ H Q => tc σ H fun k H1 => if k = true then ta σ H1 Q else tb σ H1 Q) := by
  refine ⟨fun pins s σ H Q I h => ?_⟩
  show wpAny _ _ (do if ← isTrue c X.env (eval c X.env) then isTrue a X.env (eval a X.env) else isTrue b X.env (eval b X.env)) _ _ _
  refine wpAny_bind (thn (hc.run pins s σ H _ I h) fun k s1 ⟨H1, I1, q⟩ => ?_)
  cases k with
  | true => rw [if_pos rfl] at q; exact ha.run pins s1 σ H1 Q I1 q
  | false => rw [if_neg Bool.false_ne_true] at q; exact hb.run pins s1 σ H1 Q I1 q
theorem ok_ite {c a b : E} {x y z : Expr} {pos : Pos} (hc : Ok1 X x (tE C G ca W c)) (ha : Ok1 X y (tE C G ca W a)) (hb : Ok1 X z (tE C G ca W b)) : Ok1 X (.IfExp x y z pos) (tE C G ca W (.ite c a b)) := by
  refine ⟨PE.imp (pe_ifExp hc.pt ha.pe hb.pe) ?_, PT.imp (pt_ite hc.pt ha.pt hb.pt) ?_, fun _ _ _ e => by cases e⟩
  · intro σV H Q ⟨Z, σ, h, μ, rs, rh, g⟩
    simp only [PI.ev] at g
    refine ⟨Z, σ, h, μ, rs, rh, (Go.bind g).mono fun va h1 μ1 x H1 R1 E1 rx g1 => ?_⟩
    rcases go_bool rx g1 with ⟨rfl, rfl, g2⟩ | ⟨rfl, rfl, g2⟩
    · exact ⟨true, rfl, iteT ⟨Z, σ, h1, μ1, rs.ext E1, R1, g2⟩⟩
    · exact ⟨false, rfl, iteF ⟨Z, σ, h1, μ1, rs.ext E1, R1, g2⟩⟩
  · intro σV H Q ⟨Z, σ, h, μ, rs, rh, g⟩
    simp only [PI.ev] at g
    refine ⟨Z, σ, h, μ, rs, rh, (Go.bind g).mono fun va h1 μ1 x H1 R1 E1 rx g1 => ?_⟩
    rcases go_bool rx g1 with ⟨rfl, rfl, g2⟩ | ⟨rfl, rfl, g2⟩
    · exact ⟨true, rfl, iteT ⟨Z, σ, h1, μ1, rs.ext E1, R1, g2⟩⟩
    · exact ⟨false, rfl, iteF ⟨Z, σ, h1, μ1, rs.ext E1, R1, g2⟩⟩
end
end PIS

namespace PIS
open PySem PySem.Spec PyProof.Rows L2
open PI (Val Ob LH R E S CallT)
/-- the arguments, each with its term -/
inductive OkL (X : Cx) (t : E → TE) : E → List Expr → Prop
  | nil : OkL X t .nil []
  | cons {a es : E} {x : Expr} {l : List Expr} (h : Ok1 X x (t a)) (ns : noStar x = true) (r : OkL X t es l) : OkL X t (.cons a es) (x :: l)
section
variable {T : Tab} {C : CallT} {G : Nat → Val} {ca : Nat → Addr} {k : Nat} {sc : Scope} {X : Cx} {W : WX}
theorem OkL.pa {es : E} {l : List Expr} (h : OkL X (tE C G ca W) es l) : PA X l (tA C G ca W es) := by
  induction h with
  | nil => exact ok_nil
  | cons h ns r ih => exact ok_cons h.pe ih ns
theorem OkL.stars {t : E → TE} {es : E} {l : List Expr} (h : OkL X t es l) : l.all noStar = true := by
  induction h with
  | nil => rfl
  | cons h ns r ih => simp only [List.all_cons, ns, ih, Bool.true_and]
theorem OkL.head {t : E → TE} {es : E} {x : Expr} {l : List Expr} (h : OkL X t es (x :: l)) : ∃ a es', es = .cons a es' ∧ Ok1 X x (t a) ∧ noStar x = true ∧ OkL X t es' l := by
  cases h with
  | cons h ns r => exact ⟨_, _, rfl, h, ns, r⟩
theorem OkL.one {t : E → TE} {es : E} {x : Expr} (h : OkL X t es [x]) : ∃ a, es = .cons a .nil ∧ Ok1 X x (t a) ∧ noStar x = true := by
  obtain ⟨a, es', rfl, h1, h2, h3⟩ := h.head
  cases h3
  exact ⟨a, rfl, h1, h2⟩
theorem star1 {e : Expr} (h : noStar e = true) : starEach [e] X.env = (false, eval e X.env) :: starEach [] X.env := star_cons h
theorem Ctx.no (κ : Ctx T C ca k sc X W) {b : Str} (h : b ∈ (["len", "list", "tuple", "any", "all", "sum", "max", "min", "abs", "int", "sorted", "isinstance", "range", "enumerate", "zip", "bool", "str"] : List Str)) : X.mg b = none := κ.blt b h
theorem mapRef_reps {Z : Addr → Prop} {μ : Mu} {h : LH} {H : L2.Hp} {L : List Nat} {l : List Val} {xs : List V} (hr : ∀ r ∈ PI.refsOfs l, r ∈ L) (rx : Reps Z μ H l xs) : Reps (zIn Z μ L) (muIn μ L) H (PI.mapRefs (PI.place L) l) xs :=
  Reps.map (fun _ _ _ n => fz_in n) l xs (fun r hr' m hm => muIn_get (place_get (hr r hr')) hm) rx
/-- a call of one of the defs -/
theorem go_call {Z : Addr → Prop} {μ : Mu} {h : LH} {H : L2.Hp} {f : Nat} {l : List Val} {xs : List V} {Q : VK} {EX : Nat → L2.Hp → Prop} {Ex : XK} (R0 : RelH Z μ h H) (rx : Reps Z μ H l xs) (hE : ∀ c H', EX c H' → Ex (.ref (ca c)) none H')
    (g : Go Z μ H EX (fun _ _ _ x H' => Q x H') (PI.callIn C f l h)) : spI C ca f xs H Q Ex := by
  unfold PI.callIn at g
  split at g
  · exact g.elim
  · rename_i L hL
    split at g
    · exact g.elim
    · rename_i h0 hs
      obtain ⟨nd, hlt, _, hin, hcl⟩ := reach_ok h 400 _ [] L hL (by simp) (by simp) (by simp)
      have r0 := relH_in R0 nd hlt hcl hs
      have as := mapRef_reps (h := h) (fun r hr => hin r (by simpa [PI.refsOf] using hr)) rx
      refine ⟨_, _, h0, _, r0, as, ?_⟩
      cases hC : C f (PI.mapRefs (PI.place L) l) h0 with
      | ok v h1 =>
        rw [hC] at g
        intro x H' μ' R1 E1 rv
        obtain ⟨a, b, c⟩ := relH_out R0 nd hlt R1 E1
        exact g x H' _ a b (c v x rv)
      | exc c h1 =>
        rw [hC] at g
        intro H' μ' R1 E1
        obtain ⟨a, b, _⟩ := relH_out R0 nd hlt R1 E1
        exact hE c H' (g H' _ a b)
      | err => rw [hC] at g; exact g.elim
theorem ok_call (κ : Ctx T C ca k sc X W) {f : Nat} {es : E} {e : Expr} {l : List Expr} {x : Str} {p pos : Pos} (hx : x = T.F f) (hf : T.has f = true) (hg : gloB sc x = true) (ha : OkL X (tE C G ca W) es (e :: l)) :
    Ok1 X (.Call (.Name x p) (e :: l) [] pos) (tE C G ca W (.call f es)) := by
  obtain ⟨a, fd, ps, m, F, kk, bb⟩ := κ.fns f hf
  subst hx
  have st := ha.stars
  simp only [List.all_cons, Bool.and_eq_true] at st
  refine .val (PE.imp (pe_callS (E := WE W) F κ.room (κ.glo hg).1 m kk bb (fun σ => passAt κ.takes σ) ha.pa (κ.glo hg).2 (star_cons st.1) (star_none st.2)) fun σV H Q ⟨Z, σ, h, μ, rs, rh, g⟩ => ?_) (fun _ => rfl) (fun _ _ _ e => by cases e)
  simp only [PI.ev] at g
  refine ⟨Z, σ, h, μ, rs, rh, (Go.args (f := fun l h => PI.callIn C f l h) g).mono fun vs h1 μ1 xs H1 R1 E1 rxs g1 => ?_⟩
  exact go_call (Ex := WE W σV) R1 rxs (fun c H' q => q) g1
/-- a built-in function that is called with plain arguments -/
theorem bi_f {m : Bool} {f : PI.Bi} {es : E} : ∀ σ H Q, tE C G ca W (.bi m f es) σ H Q → tCB (rBi m f) (tA C G ca W es) σ H Q := by
  intro σV H Q ⟨Z, σ, h, μ, rs, rh, g⟩
  simp only [PI.ev] at g
  refine ⟨Z, σ, h, μ, rs, rh, (Go.args (f := fun l h => PI.bi m f l h) g).mono fun vs h1 μ1 xs H1 R1 E1 rxs g1 => ?_⟩
  exact ⟨Z, μ1, h1, vs, R1, rxs, Go.toV (fun c h' => bi_nox c h') g1⟩
theorem ok_bi (κ : Ctx T C ca k sc X W) {m : Bool} {f : PI.Bi} {es : E} {e : Expr} {l : List Expr} {x : Str} {p pos : Pos} (hx : x = biName f) (hf : plainBi f = true) (hg : gloB sc x = true) (ha : OkL X (tE C G ca W) es (e :: l)) :
    Ok1 X (.Call (.Name x p) (e :: l) [] pos) (tE C G ca W (.bi m f es)) := by
  have st := ha.stars
  simp only [List.all_cons, Bool.and_eq_true] at st
  have go1 : ∀ (id : String), BiK f (.builtin id) → X.mg x = none → bootBuiltins x = some (.builtin id) → x ≠ "__name__" → Ok1 X (.Call (.Name x p) (e :: l) [] pos) (tE C G ca W (.bi m f es)) := fun id b h1 h2 h3 =>
    .val (PE.imp (pe_callB (bi_ok b κ.calm m) (κ.glo hg).1 h1 h2 ha.pa h3 (κ.glo hg).2 (star_cons st.1) (star_none st.2)) bi_f) (fun _ => rfl) (fun _ _ _ e => by cases e)
  have go2 : ∀ (id : String), BiK f (.type id) → X.mg x = none → bootBuiltins x = some (.type id) → x ≠ "__name__" → Ok1 X (.Call (.Name x p) (e :: l) [] pos) (tE C G ca W (.bi m f es)) := fun id b h1 h2 h3 =>
    .val (PE.imp (pe_callTy (bi_ok b κ.calm m) (κ.glo hg).1 h1 h2 ha.pa h3 (κ.glo hg).2 (star_cons st.1) (star_none st.2)) bi_f) (fun _ => rfl) (fun _ _ _ e => by cases e)
  subst hx
  cases f <;> simp only [plainBi, Bool.false_eq_true] at hf
  · exact go1 _ .len (κ.no (by decide)) PySem.boot_len (by decide)
  · exact go2 _ .list (κ.no (by decide)) PyProof.Rows.boot_list (by decide)
  · exact go2 _ .tuple (κ.no (by decide)) PyProof.Rows.boot_tuple (by decide)
  · exact go1 _ .any (κ.no (by decide)) PyProof.Rows.boot_any (by decide)
  · exact go1 _ .all (κ.no (by decide)) PyProof.Rows.boot_all (by decide)
  · exact go1 _ .sum (κ.no (by decide)) PyProof.Rows.boot_sum (by decide)
  · exact go1 _ .minL (κ.no (by decide)) PyProof.Rows.boot_min (by decide)
  · exact go1 _ .maxL (κ.no (by decide)) PyProof.Rows.boot_max (by decide)
  · exact go1 _ .max2 (κ.no (by decide)) PyProof.Rows.boot_max (by decide)
  · exact go1 _ .min2 (κ.no (by decide)) PyProof.Rows.boot_min (by decide)
  · exact go1 _ .abs (κ.no (by decide)) PyProof.Rows.boot_abs (by decide)
  · exact go2 _ .int (κ.no (by decide)) PyProof.Rows.boot_int (by decide)
  · exact go1 _ .sorted (κ.no (by decide)) PyProof.Rows.boot_sorted (by decide)
/-! ### list(range(..)) -/
theorem rg_eq {a b : Int} {μ : Mu} {H : L2.Hp} {Z : Addr → Prop} : Reps Z μ H (PI.rangeV a b) (rgV a b) := by
  unfold PI.rangeV rgV
  generalize List.range (b - a).toNat = r
  induction r with
  | nil => exact .nil
  | cons i r ih => exact .cons (rep_int.mpr rfl) ih
theorem rgOk_of {a b : Int} (h : PI.rangeOk a b = true) : RgOk a b := by
  unfold PI.rangeOk at h
  simp only [Bool.and_eq_true, decide_eq_true_eq, PI.SL] at h
  unfold RgOk
  omega
theorem ok_rangeL1 (κ : Ctx T C ca k sc X W) {m : Bool} {es : E} {l2 : List Expr} {x y : Str} {p p2 pos pos2 : Pos} (hx : x = "list") (hy : y = "range") (hg : gloB sc x = true) (hg2 : gloB sc y = true) (ha : OkL X (tE C G ca W) es l2) (h1 : l2.length = 1) :
    Ok1 X (.Call (.Name x p) [.Call (.Name y p2) l2 [] pos2] [] pos) (tE C G ca W (.bi m .rangeL1 es)) := by
  match l2, h1 with
  | [a], _ =>
    obtain ⟨ea, rfl, h2, h3⟩ := ha.one
    subst hx hy
    refine .val (PE.imp (pe_listRg κ.calm (κ.glo hg).1 (κ.no (by decide)) (prg_1 (κ.glo hg2).1 (κ.no (by decide)) h2.pe (star1 h3))) fun σV H Q ⟨Z, σ, h, μ, rs, rh, g⟩ => ?_) (fun _ => rfl) (fun _ _ _ e => by cases e)
    simp only [PI.ev] at g
    have g0 := Go.args (f := fun l h => PI.bi m .rangeL1 l h) g
    refine ⟨Z, σ, h, μ, rs, rh, (GoA.bind g0).mono fun va h1 μ1 xa H1 R1 E1 rx g1 => ?_⟩
    have g1' : Go Z μ1 H1 _ _ (PI.bi m .rangeL1 [va] h1) := g1 [xa] H1 μ1 R1 (Ext.refl _ _) (.cons rx .nil)
    have g2 := Go.toV (fun c h' => bi_nox c h') g1'
    cases va <;> first | exact g2.elim | skip
    rename_i n
    simp only [PI.bi] at g2
    split at g2
    · rename_i ok
      refine ⟨n, rep_int.mp rx, rgOk_of ok, ?_⟩
      exact (GoV.mkL R1 rg_eq g2).2
    · exact g2.elim
theorem ok_rangeL2 (κ : Ctx T C ca k sc X W) {m : Bool} {es : E} {l2 : List Expr} {x y : Str} {p p2 pos pos2 : Pos} (hx : x = "list") (hy : y = "range") (hg : gloB sc x = true) (hg2 : gloB sc y = true) (ha : OkL X (tE C G ca W) es l2) (h1 : l2.length = 2) :
    Ok1 X (.Call (.Name x p) [.Call (.Name y p2) l2 [] pos2] [] pos) (tE C G ca W (.bi m .rangeL2 es)) := by
  match l2, h1 with
  | [a, b], _ =>
    obtain ⟨ea, es', rfl, h2, h3, hr⟩ := ha.head
    obtain ⟨eb, rfl, h4, h5⟩ := hr.one
    subst hx hy
    refine .val (PE.imp (pe_listRg κ.calm (κ.glo hg).1 (κ.no (by decide)) (prg_2 (κ.glo hg2).1 (κ.no (by decide)) h2.pe h4.pe (star_cons h3) (star_cons h5) (star_none (es := [b]) (by simp [h5])))) fun σV H Q ⟨Z, σ, h, μ, rs, rh, g⟩ => ?_) (fun _ => rfl) (fun _ _ _ e => by cases e)
    simp only [PI.ev] at g
    have g0 := Go.args (f := fun l h => PI.bi m .rangeL2 l h) g
    refine ⟨Z, σ, h, μ, rs, rh, (GoA.bind g0).mono fun va h1 μ1 xa H1 R1 E1 rx g1 => ?_⟩
    refine ⟨Z, σ, h1, μ1, rs.ext E1, R1, (GoA.bind (GoA.cons rx g1)).mono fun vb h2 μ2 xb H2 R2 E2 ry g2 => ?_⟩
    have g1' : Go Z μ2 H2 _ _ (PI.bi m .rangeL2 [va, vb] h2) := g2 [xb] H2 μ2 R2 (Ext.refl _ _) (.cons ry .nil)
    have g3 := Go.toV (fun c h' => bi_nox c h') g1'
    cases va <;> first | exact g3.elim | skip
    cases vb <;> first | exact g3.elim | skip
    rename_i n n'
    simp only [PI.bi] at g3
    split at g3
    · rename_i ok
      refine ⟨n, n', rep_int.mp rx, rep_int.mp ry, rgOk_of ok, ?_⟩
      exact (GoV.mkL R2 rg_eq g3).2
    · exact g3.elim
end
end PIS

namespace PIS
open PySem PySem.Spec PyProof.Rows L2
open PI (Val Ob LH R E S CallT)
section
variable {T : Tab} {C : CallT} {G : Nat → Val} {ca : Nat → Addr} {k : Nat} {sc : Scope} {X : Cx} {W : WX}
/-! ### isinstance -/
/-- the type's name of a value, of the kinds that are asked of -/
def tyName (h : LH) : Val → Option String
  | .non => some "NoneType"
  | .bl _ => some "bool"
  | .int _ => some "int"
  | .str _ => some "str"
  | .tup _ => some "tuple"
  | .ftup _ => some "tuple"
  | .lst _ => some "list"
  | .ref l => match h[l]? with
    | some (.lst _) => some "list"
    | _ => none
  | _ => none
def kName : Nat → String
  | 0 => "int" | 1 => "bool" | 2 => "tuple" | 3 => "list" | _ => "str"
theorem kind_table : ∀ n ∈ ["NoneType", "bool", "int", "str", "tuple", "list"], ∀ k < 5, kitB n (kName k) = some (decide (n = kName k) || (n == "bool" && k == 0)) := by decide +kernel
theorem isKind_ty {h : LH} {v : Val} {k : Nat} {b : Bool} (e : PI.isKind h v k = some b) : ∃ n, tyName h v = some n ∧ n ∈ ["NoneType", "bool", "int", "str", "tuple", "list"] ∧ (k < 5 → kitB n (kName k) = some b) := by
  have fin : ∀ n, n ∈ ["NoneType", "bool", "int", "str", "tuple", "list"] → (∀ k < 5, PI.isKind h v k = some (decide (n = kName k) || (n == "bool" && k == 0))) → (k < 5 → kitB n (kName k) = some b) := fun n hn q hk => by
    rw [kind_table n hn k hk, ← e, q k hk]
  cases v with
  | ref l =>
    simp only [PI.isKind] at e
    split at e
    · rename_i xs hl
      exact ⟨"list", by simp only [tyName, hl], by simp, fin _ (by simp) fun k hk => by
        simp only [PI.isKind, hl]
        revert k; decide⟩
    · cases e
  | dct _ _ _ => simp [PI.isKind] at e
  | fn _ => simp [PI.isKind] at e
  | exc _ => simp [PI.isKind] at e
  | non => exact ⟨"NoneType", rfl, by simp, fin _ (by simp) fun k hk => by simp only [PI.isKind]; revert k; decide⟩
  | bl _ => exact ⟨"bool", rfl, by simp, fin _ (by simp) fun k hk => by simp only [PI.isKind]; revert k; decide⟩
  | int _ => exact ⟨"int", rfl, by simp, fin _ (by simp) fun k hk => by simp only [PI.isKind]; revert k; decide⟩
  | str _ => exact ⟨"str", rfl, by simp, fin _ (by simp) fun k hk => by simp only [PI.isKind]; revert k; decide⟩
  | tup _ => exact ⟨"tuple", rfl, by simp, fin _ (by simp) fun k hk => by simp only [PI.isKind]; revert k; decide⟩
  | ftup _ => exact ⟨"tuple", rfl, by simp, fin _ (by simp) fun k hk => by simp only [PI.isKind]; revert k; decide⟩
  | lst _ => exact ⟨"list", rfl, by simp, fin _ (by simp) fun k hk => by simp only [PI.isKind]; revert k; decide⟩
theorem tyX_of {Z : Addr → Prop} {μ : Mu} {h : LH} {H : L2.Hp} {K : PySem.W.Frag} {v : Val} {x : V} {n : String} (R0 : RelH Z μ h H) (r : Rep Z μ H v x) (e : tyName h v = some n) : TyX K H x (.type n) := by
  cases v with
  | ref l =>
    simp only [tyName] at e
    split at e
    · rename_i xs hl
      obtain ⟨p, vs, rfl, _, hp, _⟩ := refL R0 r hl
      cases e
      exact .base (.lst hp)
    · cases e
  | dct _ _ _ => simp [tyName] at e
  | fn _ => simp [tyName] at e
  | exc _ => simp [tyName] at e
  | non => cases e; rw [rep_non.mp r]; exact .base .non
  | bl _ => cases e; rw [rep_bl.mp r]; exact .base (.bl _)
  | int _ => cases e; rw [rep_int.mp r]; exact .base (.int _)
  | str _ => cases e; rw [rep_str.mp r]; exact .base (.str _)
  | tup _ => cases e; simp only [Rep] at r; obtain ⟨p, vs, rfl, _, hp, _⟩ := r; exact .base (.tup hp)
  | ftup _ => cases e; simp only [Rep] at r; obtain ⟨p, o, vs, rfl, _, hp, _⟩ := r; exact .fTuple hp
  | lst _ =>
    cases e; simp only [Rep] at r; obtain ⟨p, vs, rfl, _, hp, _⟩ := r
    rcases hp with hp | ⟨o, hp⟩
    · exact .base (.lst hp)
    · exact .base (.frz hp)
theorem kindName_eq {k : Nat} (h : k ≤ 4) : kindName k ∈ (["len", "list", "tuple", "any", "all", "sum", "max", "min", "abs", "int", "sorted", "isinstance", "range", "enumerate", "zip", "bool", "str"] : List Str) ∧ bootBuiltins (kindName k) = some (.type (kName k)) ∧ kindName k ≠ "__name__" := by
  match k, h with
  | 0, _ => exact ⟨by decide, PyProof.Rows.boot_int, by decide⟩
  | 1, _ => exact ⟨by decide, PyProof.Rows.boot_bool, by decide⟩
  | 2, _ => exact ⟨by decide, PyProof.Rows.boot_tuple, by decide⟩
  | 3, _ => exact ⟨by decide, PyProof.Rows.boot_list, by decide⟩
  | 4, _ => exact ⟨by decide, PyProof.Rows.boot_str, by decide⟩
theorem pe_kind (κ : Ctx T C ca k sc X W) {n : Nat} {c : Expr} (h : kindB sc n c = true) : PE X c (tC (.ty (kName n))) ∧ noStar c = true ∧ n ≤ 4 := by
  unfold kindB at h
  split at h
  · rename_i x pos
    simp only [Bool.and_eq_true, beq_iff_eq, decide_eq_true_eq] at h
    obtain ⟨⟨rfl, hg⟩, hk⟩ := h
    obtain ⟨a, b, d⟩ := kindName_eq hk
    exact ⟨pe_bltn (κ.glo hg).1 (κ.no a) b rfl d (κ.glo hg).2, rfl, hk⟩
  · cases h
theorem pa_kinds (κ : Ctx T C ca k sc X W) : ∀ {ks : List Nat} {cs : List Expr}, kindsB sc ks cs = true → PA X cs (fun _ H Q => Q (ks.map fun n => V.ty (kName n)) H) ∧ cs.all noStar = true ∧ ∀ n ∈ ks, n ≤ 4
  | [], [], _ => ⟨pa_nil, rfl, fun _ z => by simp at z⟩
  | [], _ :: _, h => by simp [kindsB] at h
  | _ :: _, [], h => by simp [kindsB] at h
  | n :: ks, c :: cs, h => by
    simp only [kindsB, Bool.and_eq_true] at h
    obtain ⟨a, b, d⟩ := pe_kind κ h.1
    obtain ⟨a', b', d'⟩ := pa_kinds κ h.2
    refine ⟨PA.imp (pa_cons a a' (star_cons b)) fun σ H Q q => q, by simp only [List.all_cons, b, b', Bool.true_and], fun m hm => ?_⟩
    rcases List.mem_cons.mp hm with rfl | hm
    · exact d
    · exact d' m hm
theorem kit_kinds {K : PySem.W.Frag} {h : LH} {v : Val} {n : String} (ht : tyName h v = some n) : ∀ {ks : List Nat} {bs : List Bool}, (∀ m ∈ ks, m ≤ 4) → ks.mapM (PI.isKind h v) = some bs → PySem.W.kitAny K (.type n) (ks.map fun n => .type (kName n)) = some (bs.any id)
  | [], bs, _, e => by
    simp at e; subst e; exact kitAny_nil
  | m :: ks, bs, hk, e => by
    simp only [List.mapM_cons, Option.bind_eq_bind, Option.bind_eq_some_iff, Option.pure_def, Option.some.injEq] at e
    obtain ⟨b, e1, bs', e2, e3⟩ := e
    subst e3
    obtain ⟨n', h1, h2, h3⟩ := isKind_ty e1
    rw [ht] at h1; cases h1
    have hm := hk m (by simp)
    have r := kit_kinds (K := K) ht (fun m' q => hk m' (List.mem_cons_of_mem _ q)) e2
    refine kitAny_cons (b := b) (kit_ty (h3 (by omega))) (fun hb => ?_) (fun hb => ?_)
    · subst hb; rw [r]; rfl
    · subst hb; rfl
theorem paired_kinds : ∀ ks : List Nat, Paired ClsV (ks.map fun n => V.ty (kName n)) (ks.map fun n => Value.type (kName n))
  | [] => .nil
  | n :: ks => .cons (.ty _) (paired_kinds ks)
theorem isi_go {Z : Addr → Prop} {μ : Mu} {h : LH} {H : L2.Hp} {Q : VK} {va : Val} {ks : List Nat} {m : Bool} (R0 : RelH Z μ h H) (hk : ∀ m ∈ ks, m ≤ 4) (hn : ks ≠ []) (g : GoV Z μ H Q (PI.bi m (.isinst ks) [va] h)) :
    ∃ bs n, ks.mapM (PI.isKind h va) = some bs ∧ tyName h va = some n ∧ ∀ H' μ', RelH Z μ' h H' → Ext μ H μ' H' → Q (.bl (bs.any id)) H' := by
  obtain ⟨w, e, g'⟩ := optR_some (show GoV Z μ H Q (PI.optR h _) from g)
  simp only [Option.map_eq_some_iff] at e
  obtain ⟨bs, e1, e2⟩ := e
  subst e2
  match ks, hn with
  | n :: ks, _ =>
    have e3 := e1
    simp only [List.mapM_cons, Option.bind_eq_bind, Option.bind_eq_some_iff] at e3
    obtain ⟨b, e4, _⟩ := e3
    obtain ⟨nm, h1, _, _⟩ := isKind_ty e4
    exact ⟨bs, nm, e1, h1, fun H' μ' r x => g' _ H' μ' r x (rep_bl.mpr rfl)⟩
theorem ok_isiT (κ : Ctx T C ca k sc X W) {m : Bool} {ks : List Nat} {es : E} {e : Expr} {cs : List Expr} {x : Str} {j : Nat} {p pos tp : Pos} (hx : x = "isinstance") (hg : gloB sc x = true) (ha : OkL X (tE C G ca W) es [e]) (hc : kindsB sc ks cs = true) (hn : 1 ≤ ks.length) (hl : ks.length < 20) :
    Ok1 X (.Call (.Name x p) [e, .Tuple cs j tp] [] pos) (tE C G ca W (.bi m (.isinst ks) es)) := by
  obtain ⟨a, rfl, h1, h2⟩ := ha.one
  obtain ⟨pk, sk, dk⟩ := pa_kinds κ hc
  subst hx
  refine .val (PE.imp (pe_callB (call_isiT (X := X)) (κ.glo hg).1 (κ.no (by decide)) PyProof.Rows.boot_isinstance (pa_cons h1.pe (pa_cons (pe_tup pk) pa_nil (star1 rfl)) (star_cons h2)) (by decide) (κ.glo hg).2 (star_cons h2) (star_none (es := [.Tuple cs j tp]) rfl)) fun σV H Q ⟨Z, σ, h, μ, rs, rh, g⟩ => ?_) (fun _ => rfl) (fun _ _ _ e => by cases e)
  simp only [PI.ev] at g
  have g0 := Go.args (f := fun l h => PI.bi m (.isinst ks) l h) g
  refine ⟨Z, σ, h, μ, rs, rh, (GoA.bind g0).mono fun va h1 μ1 xa H1 R1 E1 rx g1 => ?_⟩
  have g1' : Go Z μ1 H1 _ _ (PI.bi m (.isinst ks) [va] h1) := g1 [xa] H1 μ1 R1 (Ext.refl _ _) (.cons rx .nil)
  obtain ⟨bs, n, e1, e2, q⟩ := isi_go R1 dk (by intro z; rw [z] at hn; simp at hn) (Go.toV (fun c h' => bi_nox c h') g1')
  refine ⟨by rw [List.length_map, sizeLine_eq]; omega, fun tp' n' => ?_⟩
  · refine ⟨xa, tp', _, _, _, _, rfl, upd_same, paired_kinds ks, tyX_of (R1.fresh n') (Rep.ext (ext_upd n') _ _ rx) e2, kit_kinds e2 dk e1, ?_⟩
    exact q _ μ1 (R1.fresh n') (ext_upd n')
theorem ok_isi (κ : Ctx T C ca k sc X W) {m : Bool} {n : Nat} {es : E} {e c : Expr} {x : Str} {p pos : Pos} (hx : x = "isinstance") (hg : gloB sc x = true) (ha : OkL X (tE C G ca W) es [e]) (hc : kindsB sc [n] [c] = true) :
    Ok1 X (.Call (.Name x p) [e, c] [] pos) (tE C G ca W (.bi m (.isinst [n]) es)) := by
  obtain ⟨a, rfl, h1, h2⟩ := ha.one
  simp only [kindsB, Bool.and_true] at hc
  obtain ⟨pk, sk, dk⟩ := pe_kind κ hc
  subst hx
  refine .val (PE.imp (pe_callB (call_isi (X := X)) (κ.glo hg).1 (κ.no (by decide)) PyProof.Rows.boot_isinstance (pa_cons h1.pe (pa_cons pk pa_nil (star1 sk)) (star_cons h2)) (by decide) (κ.glo hg).2 (star_cons h2) (star_none (es := [c]) (by simp [sk]))) fun σV H Q ⟨Z, σ, h, μ, rs, rh, g⟩ => ?_) (fun _ => rfl) (fun _ _ _ e => by cases e)
  simp only [PI.ev] at g
  have g0 := Go.args (f := fun l h => PI.bi m (.isinst [n]) l h) g
  refine ⟨Z, σ, h, μ, rs, rh, (GoA.bind g0).mono fun va h1 μ1 xa H1 R1 E1 rx g1 => ?_⟩
  have g1' : Go Z μ1 H1 _ _ (PI.bi m (.isinst [n]) [va] h1) := g1 [xa] H1 μ1 R1 (Ext.refl _ _) (.cons rx .nil)
  obtain ⟨bs, nm, e1, e2, q⟩ := isi_go R1 (by simpa using dk) (by simp) (Go.toV (fun c h' => bi_nox c h') g1')
  simp only [List.mapM_cons, List.mapM_nil, Option.bind_eq_bind, Option.bind_eq_some_iff, Option.pure_def, Option.some.injEq] at e1
  obtain ⟨b, e4, _, rfl, e6⟩ := e1
  subst e6
  obtain ⟨nm', h3, h4, h5⟩ := isKind_ty e4
  rw [e2] at h3; cases h3
  refine ⟨xa, .ty (kName n), _, _, b, rfl, .ty _, tyX_of R1 rx e2, kit_ty (h5 (by omega)), ?_⟩
  have := q H1 μ1 R1 (Ext.refl _ _)
  simpa using this
/-! ### items, slices -/
/-- an item of whatever has the built-in's __getitem__ -/
theorem tail_any {prog : Program} {w : World} {A : Around} {EE : Value → Shared → Prop} {s : Shared} {ve se : Expr} {T0 id : String} {o i : Value} {Q : Value → Shared → Prop} (hT : s.TypeIs o T0)
    (hl : typeLookup (.type T0) "__getitem__" = pure (some (.builtin id))) (hs : subscripted se false o i = operate [o, i] (getItem o i)) (q : wpAny (model prog w) A (getItem o i) Q EE s) : wpAny (model prog w) A (subscriptTail ve se o i) Q EE s := by
  have last : wpAny (model prog w) A (subscripted se false o i) (fun r s' => wpAny (model prog w) A (letTemporaryGo ve o r >>= fun _ => pure r) Q EE s') EE s := by
    rw [hs]
    refine wpAny_operating (wpAny_mono q (fun r s' q' => ?_) fun _ _ x => x)
    exact wpAny_bind (wpAny_letTemporaryGo (wpAny_pure q'))
  unfold subscriptTail
  apply wpAny_bind
  rw [getitemInPython_of_ne hT.not_modules]
  apply wpAny_bind
  apply wpAny_specialOf hT hl
  first
    | exact wpAny_bind last
    | exact wpAny_pure (wpAny_bind last)
    | exact wpAny_bind (wpAny_pure (wpAny_bind last))
theorem ix_dict (hu : X.A.units + 1 < cLine) : IxR X (fun x y H Q => ∃ a v, x = .ref a ∧ DGet H a y (some v) ∧ Q v H) := by
  intro ve se pins s σ H x y v u Q I rx ry hh hs
  obtain ⟨a, z, rfl, g, q⟩ := hh
  obtain rfl : v = Value.ref a := rx
  exact tail_any (dict_typeIs I g) PySem.F.slot_dict_getitem.lookup hs (d_getItem hu I g ry fun w' s3 I3 rw' => ⟨z, H, I3, rw', q⟩)
theorem ok_idx (κ : Ctx T C ca k sc X W) {a i : E} {v s : Expr} {pos : Pos} (ha : PE X v (tE C G ca W a)) (hi : PE X s (tE C G ca W i)) (hp : plainX s = true) : Ok1 X (.Subscript v s pos) (tE C G ca W (.idx a i)) := by
  refine .val (PE.imp (pe_ix (IxR.or ix_go (ix_dict (by have := κ.hu; omega))) ha hi (plain_ix hp)) ?_) (fun _ => rfl) (fun _ _ _ e => by cases e)
  refine bind2 (e := .idx a i) (f := fun x y h => PI.optR h (PI.getIx x y h)) (fun σ h => by simp only [PI.ev]) (fun Z μ h va vb x y H EX Q R0 rx ry g => ?_)
  cases hg : PI.getIx va vb h with
  | none => rw [hg] at g; exact g.elim
  | some w =>
    rw [hg] at g
    have g' : ∀ x', Rep Z μ H w x' → Q x' H := fun x' r => g x' H μ R0 (Ext.refl _ _) r
    cases hd : PI.asDict h va with
    | none => exact .inl ⟨Z, μ, h, va, vb, w, R0, rx, ry, hd, hg, g'⟩
    | some q =>
      obtain ⟨t, ks, vs⟩ := q
      obtain ⟨p, rfl, d⟩ := asDict_rd R0 rx hd
      unfold PI.getIx at hg
      rw [hd] at hg
      simp only at hg
      split at hg
      · rename_i f
        obtain ⟨o, g0, g1, g2⟩ := dict_get d ry f
        obtain ⟨x', e1, r'⟩ := g1 w hg
        subst e1
        exact .inr ⟨p, x', rfl, g0, g' x' r'⟩
      · cases hg
/-- an end of a slice -/
def OkO (X : Cx) (t : E → TE) (e : E) (o : Option Expr) : Prop := (e = .non ∧ o = none) ∨ ∃ x, o = some x ∧ e ≠ .non ∧ PE X x (t e)
/-- an end of a slice, as the interpreter reads it -/
def tO (C : CallT) (G : Nat → Val) (ca : Nat → Addr) (W : WX) (e : E) : TO := fun σV H Q => ∃ Z σ h μ, RelS Z μ H σ σV ∧ RelH Z μ h H ∧ Go Z μ H (fun c H' => W (.ref (ca c)) none σV H') (fun v h' μ' x H' => ∃ p, PI.optInt e v = some p ∧ Q p H') (PI.ev C G e σ h)
theorem po_of {e : E} {o : Option Expr} (h : OkO X (tE C G ca W) e o) : PO X o (tO C G ca W e) := by
  rcases h with ⟨rfl, rfl⟩ | ⟨x, rfl, ne, hp⟩
  · refine ⟨fun pins s σ H Q I hh => po_none.run pins s σ H Q I ?_⟩
    obtain ⟨Z, σ', h, μ, rs, rh, g⟩ := hh
    simp only [PI.ev] at g
    obtain ⟨p, e, q⟩ := g .non H μ rh (Ext.refl _ _) (rep_non.mpr rfl)
    simp only [PI.optInt, Option.some.injEq] at e
    subst e; exact q
  · refine ⟨fun pins s σ H Q I hh => (po_some hp).run pins s σ H Q I ?_⟩
    obtain ⟨Z, σ', h, μ, rs, rh, g⟩ := hh
    refine ⟨Z, σ', h, μ, rs, rh, g.mono fun v h1 μ1 y H1 R1 E1 ry ⟨p, e1, q⟩ => ?_⟩
    unfold PI.optInt at e1
    split at e1
    · exact absurd rfl ne
    · cases e1; exact ⟨_, rep_int.mp ry, q⟩
    · cases e1
theorem ok_slc {m : Bool} {a lo hi : E} {v : Expr} {l u : Option Expr} {p2 pos : Pos} (ha : PE X v (tE C G ca W a)) (hl : OkO X (tE C G ca W) lo l) (hh : OkO X (tE C G ca W) hi u) :
    Ok1 X (.Subscript v (.Slice l u none p2) pos) (tE C G ca W (.slc m a lo hi)) := by
  refine .val (PE.imp (pe_slice (sl_go m) ha (po_of hl) (po_of hh)) fun σV H Q ⟨Z, σ, h, μ, rs, rh, g⟩ => ?_) (fun _ => rfl) (fun _ _ _ e => by cases e)
  simp only [PI.ev] at g
  refine ⟨Z, σ, h, μ, rs, rh, (Go.bind g).mono fun va h1 μ1 x H1 R1 E1 rx g1 => ?_⟩
  refine ⟨Z, σ, h1, μ1, rs.ext E1, R1, (Go.bind g1).mono fun vl h2 μ2 xl H2 R2 E2 rl g2 => ?_⟩
  have R1' : RelS Z μ2 H2 σ σV := (rs.ext E1).ext E2
  cases e1 : PI.optInt lo vl with
  | none => rw [e1] at g2; exact g2.elim
  | some p =>
    rw [e1] at g2
    refine ⟨p, rfl, Z, σ, h2, μ2, R1', R2, (Go.bind g2).mono fun vu h3 μ3 xu H3 R3 E3 ru g3 => ?_⟩
    cases e2 : PI.optInt hi vu with
    | none => rw [e2] at g3; exact g3.elim
    | some q =>
      rw [e2] at g3
      exact ⟨q, rfl, Z, μ3, h3, va, R3, Rep.ext E3 _ _ (Rep.ext E2 _ _ rx), Go.toV (fun c h' => slice_nox c h') g3⟩
/-! ### backwards, frozen -/
theorem ok_rev {m : Bool} {a : E} {v : Expr} {j : Nat} {p1 p2 p3 pos : Pos} (ha : PE X v (tE C G ca W a)) : Ok1 X (.Subscript v (.Slice none none (some (.UnaryOp .USub (.Constant (.int 1) j p1) p2)) p3) pos) (tE C G ca W (.rev m a)) := by
  refine .val (PE.imp (pe_revL ha) fun σV H Q ⟨Z, σ, h, μ, rs, rh, g⟩ => ?_) (fun _ => rfl) (fun _ _ _ e => by cases e)
  simp only [PI.ev] at g
  refine ⟨Z, σ, h, μ, rs, rh, (Go.bind g).mono fun va h1 μ1 x H1 R1 E1 rx g1 => ?_⟩
  have nx : ∀ c h', PI.revL m va h1 ≠ .exc c h' := fun c h' => by
    unfold PI.revL
    repeat' split
    all_goals first | exact mkL_nox c h' | (intro z; cases z)
  have g2 := Go.toV nx g1
  have lst : ∀ {xs}, PI.asList h1 va = some xs → GoV Z μ1 H1 Q (PI.mkL m xs.reverse h1) → ∃ a xs, x = .ref a ∧ SqL X.K H1 a xs ∧ ∀ p, H1 p = none → Q (.ref p) (upd H1 p (.lst xs.reverse)) := fun {xs} e q => by
    obtain ⟨p, vs, rfl, q1, s1⟩ := asList_rd R1 rx e
    exact ⟨p, vs, rfl, .inl q1, (GoV.mkL R1 s1.reverse q).2⟩
  unfold PI.revL at g2
  split at g2
  · rename_i xs e1
    exact lst e1 g2
  · exact g2.elim
theorem move_lock {Z : Addr → Prop} {μ : Mu} {H : L2.Hp} {l : Nat} {p : Addr} {o : HO} (e : μ[l]? = some (some p)) (q : Addr) (u : HO) (h : H q = some u) (n : Fz Z μ q) : upd H p o q = some u ∧ Fz Z (μ.set l none) q :=
  ⟨by rw [upd_ne fun z => n.1 ⟨l, by rw [z]; exact e⟩]; exact h, fun ⟨m, z⟩ => n.1 ⟨m, (get_set_none z).2⟩, n.2⟩
theorem ext_lock {μ : Mu} {H : L2.Hp} {l : Nat} {p : Addr} {o u : HO} (e : μ[l]? = some (some p)) (hp : H p = some u) : Ext μ H (μ.set l none) (upd H p o) where
  len := by simp
  old := fun m a _ z => (get_set_none z).2
  new := fun m a hm z => absurd (lt_of_get (get_set_none z).2) (Nat.not_lt.mpr hm)
  frame := fun a w h n => by rw [upd_ne fun z => n ⟨l, by rw [z]; exact e⟩]; exact h
  dom := fun a h => by
    by_cases z : a = p
    · rw [z, upd_same] at h; cases h
    · rw [upd_ne z] at h; exact h
theorem relH_lock {Z : Addr → Prop} {μ : Mu} {h : LH} {H : L2.Hp} (r : RelH Z μ h H) {l : Nat} {p : Addr} {o u : HO} (e : μ[l]? = some (some p)) (hp : H p = some u) : RelH Z (μ.set l none) (h.set l .dead) (upd H p o) where
  len := by simp [r.len]
  at_ := fun m a z => by
    obtain ⟨ne, z1⟩ := get_set_none z
    obtain ⟨w, e2, q⟩ := r.at_ m a z1
    refine ⟨w, by rw [List.getElem?_set_ne (Ne.symm ne)]; exact e2, RepO.move (move_lock e) (ext_lock (o := o) e hp).refs (upd_ne fun z2 => ?_) q⟩
    subst z2
    exact ne (r.inj m l _ z1 e)
  inj := fun m m' a z z' => r.inj m m' a (get_set_none z).2 (get_set_none z').2
  dead := (r.kill l).dead
  apart := fun a ⟨m, z⟩ => r.apart a ⟨m, (get_set_none z).2⟩
  kept := fun a z => by
    obtain ⟨w, e1, ew⟩ := r.kept a z
    exact ⟨w, by rw [upd_ne fun q => r.apart p ⟨l, e⟩ (by rw [← q]; exact z)]; exact e1, ew⟩
/-- what is frozen may be locked -/
theorem pe_lockV {e : Expr} {t : TE} (h : PE X e t) : PE X e (fun σ H Q => t σ H fun x H1 => Q x H1 ∨ ∃ p u, x = .ref p ∧ H1 p = some u ∧ Mut (some u) ∧ ∀ o, Q x (upd H1 p (.frz o u))) := by
  refine ⟨fun pins s σ H Q I q => thn (h.run pins s σ H _ I q) fun v s1 ⟨x, H1, I1, r1, q1⟩ => ?_⟩
  rcases q1 with q1 | ⟨p, u, rfl, hp, mu, q1⟩
  · exact ⟨x, H1, I1, r1, q1⟩
  · obtain ⟨od, I2⟩ := I1.lock hp mu
    exact ⟨.ref p, _, I2, r1, q1 od⟩
theorem frz_go {Z : Addr → Prop} {μ1 : Mu} {h1 : LH} {H1 : L2.Hp} {EX : Nat → L2.Hp → Prop} {Q : VK} {v : Val} {y : V} (R1 : RelH Z μ1 h1 H1) (ry : Rep Z μ1 H1 v y) (g1 : Go Z μ1 H1 EX (fun _ _ _ x H' => Q x H') (PI.freeze v h1)) :
    Q y H1 ∨ ∃ p u, y = .ref p ∧ H1 p = some u ∧ Mut (some u) ∧ ∀ o, Q y (upd H1 p (.frz o u)) := by
  unfold PI.freeze at g1
  split at g1
  · rename_i l
    split at g1
    · rename_i xs hl
      split at g1
      · rename_i nr
        obtain ⟨p, vs, rfl, e1, e2, e3⟩ := refL R1 ry hl
        refine .inl (g1 _ H1 (μ1.set l none) (R1.kill l) (ext_kill l) ?_)
        simp only [Rep]
        refine ⟨p, vs, rfl, ⟨fun ⟨l', q⟩ => ?_, R1.apart p ⟨l, e1⟩⟩, .inl e2, Reps.ext (ext_kill l) _ _ e3⟩
        obtain ⟨ne, q'⟩ := get_set_none q
        exact ne (R1.inj l' l p q' e1)
      · exact g1.elim
    · rename_i t ks vs hl
      split at g1
      · rename_i nr
        obtain ⟨p, rfl, e1, d⟩ := R1.ref ry hl (by intro z; cases z)
        have fz : Fz Z (μ1.set l none) p := ⟨fun ⟨l', q⟩ => by
          obtain ⟨ne, q'⟩ := get_set_none q
          exact ne (R1.inj l' l p q' e1), R1.apart p ⟨l, e1⟩⟩
        rcases d with ⟨ht, kvs, q, k0, r⟩ | ⟨ht, kvs, q, k0, r⟩
        · refine .inr ⟨p, _, rfl, q, trivial, fun o => ?_⟩
          refine g1 _ _ (μ1.set l none) (relH_lock R1 e1 q) (ext_lock e1 q) ?_
          simp only [Rep]
          exact ⟨p, rfl, fz, .inl ⟨ht, o, kvs, upd_same, k0, Reps.move (move_lock e1) (ext_lock (o := .frz o (.dK kvs)) e1 q).refs _ _ r⟩⟩
        · refine .inr ⟨p, _, rfl, q, trivial, fun o => ?_⟩
          refine g1 _ _ (μ1.set l none) (relH_lock R1 e1 q) (ext_lock e1 q) ?_
          simp only [Rep]
          exact ⟨p, rfl, fz, .inr ⟨ht, o, kvs, upd_same, k0, Reps.move (move_lock e1) (ext_lock (o := .frz o (.dT kvs)) e1 q).refs _ _ r⟩⟩
      · exact g1.elim
    · exact g1.elim
  · exact .inl (g1 y H1 μ1 R1 (Ext.refl _ _) ry)
theorem ok_frz {e : E} {n : Str} {pos : Pos} (ha : Ok1 X (.Name n pos) (tE C G ca W e)) : Ok1 X (.Name n pos) (tE C G ca W (.frz e)) := by
  refine .val (PE.imp (pe_lockV ha.pe) fun σV H Q ⟨Z, σ, h, μ, rs, rh, g⟩ => ?_) (fun _ => rfl) (fun _ _ _ e => by cases e)
  simp only [PI.ev] at g
  exact ⟨Z, σ, h, μ, rs, rh, (Go.bind g).mono fun v h1 μ1 y H1 R1 E1 ry g1 => frz_go R1 ry g1⟩
end
end PIS

namespace PIS
open PySem PySem.Spec PyProof.Rows L2
open PI (Val Ob LH R E S CallT)
section
variable {T : Tab} {C : CallT} {G : Nat → Val} {ca : Nat → Addr} {k : Nat} {sc : Scope} {X : Cx} {W : WX}
/-! ### methods -/
theorem chk_call0 {id : Str} {p pos : Pos} : ∀ (e : E) (sc : Scope), chk T e sc (.Call (.Name id p) [] [] pos) = false := by
  intro e
  induction e with
  | frz e ih => intro sc; simp only [chk, ih sc, Bool.and_false]
  | _ => intro sc; simp [chk]
theorem chk_base {e : E} {x : Expr} {m : Str} {env : Env} {w : Sem Value} (h : chk T e sc x = true) : attributeBase x m env w = w := by
  unfold attributeBase
  split
  · rename_i id p pos
    rw [chk_call0] at h; cases h
  · rfl
theorem mth_nil {f : PI.Mth} {o : Val} {h : LH} : (f = .pop) ∨ PI.mth f o [] h = .err := by
  cases f <;> first | exact .inl rfl | exact .inr rfl
theorem few_of {es : List Expr} {env : Env} {pos : Pos} (h : es.all noStar = true) (hl : es.length < 20) : ((backTo pos (starEach es env)).all (fun x => !x.1) && (backToKw pos (keywordEach [] env)).all (fun x => x.1.isSome)
      && decide (es.length + ([] : List Keyword).length + (if ([] : List Keyword).isEmpty then 0 else 1) < 30)) = true := by
  have a : ((backTo pos (starEach es env)).all fun x => !x.1) = true := by
    have := star_none (env := env) (pos := pos) h
    rw [List.all_eq_true]
    intro x hx
    cases hb : x.1 with
    | false => rfl
    | true =>
      have : ((backTo pos (starEach es env)).any (·.1)) = true := List.any_eq_true.mpr ⟨x, hx, hb⟩
      rw [star_none h] at this; cases this
  rw [a, Bool.true_and]
  have b : (backToKw pos (keywordEach [] env)).all (fun x => x.1.isSome) = true := rfl
  rw [b, Bool.true_and, decide_eq_true_eq]
  show es.length + 0 + 0 < 30
  omega
theorem go_mth {Z : Addr → Prop} {μ : Mu} {h : LH} {H : L2.Hp} {Q : VK} {EX : Nat → L2.Hp → Prop} {f : PI.Mth} {o : Val} {as : List Val} {x : V} {xs : List V} (R0 : RelH Z μ h H) (ro : Rep Z μ H o x) (ras : Reps Z μ H as xs)
    (g : Go Z μ H EX (fun _ _ _ x H' => Q x H') (PI.mth f o as h)) : rMt f x xs H Q := ⟨Z, μ, h, o, as, R0, ro, ras, Go.toV (fun c h' => mth_nox c h') g⟩
/-- the receiver is a list -/
def RecL (h : LH) : Val → Prop
  | .lst _ => True
  | .ref l => ∃ xs, h[l]? = some (.lst xs)
  | _ => False
theorem recL_ty {Z : Addr → Prop} {μ : Mu} {h : LH} {H : L2.Hp} {K : PySem.W.Frag} {o : Val} {x : V} (R0 : RelH Z μ h H) (ro : Rep Z μ H o x) (q : RecL h o) : tyV K "list" x H ∧ ∃ p, x = .ref p := by
  cases o with
  | lst xs =>
    simp only [Rep] at ro
    obtain ⟨p, vs, rfl, _, hp, _⟩ := ro
    exact ⟨.inl ⟨rfl, vs, .inl hp⟩, p, rfl⟩
  | ref l =>
    obtain ⟨xs, hl⟩ := q
    obtain ⟨p, vs, rfl, _, hp, _⟩ := refL R0 ro hl
    exact ⟨.inl ⟨rfl, vs, .inl (.inl hp)⟩, p, rfl⟩
  | _ => exact q.elim
theorem rcv_cases {f : PI.Mth} {o : Val} {h : LH} (q : PI.rcvB f o h = true) : RecL h o ∨ ∃ xs, o = .ftup xs ∧ f = .index := by
  unfold PI.rcvB at q
  split at q
  · exact .inl trivial
  · rename_i l
    split at q
    · rename_i xs hl; exact .inl ⟨xs, hl⟩
    · cases q
  · split at q
    · exact .inr ⟨_, rfl, rfl⟩
    · cases q
  · cases q
/-- how the receiver of index stands at the call -/
def RcAt (f : PI.Mth) (t : Bool) (x : V) (H : L2.Hp) : Prop := f = .index → ∃ p vs, x = .ref p ∧ Rd H p (if t then .tup vs else .lst vs)
theorem rcAt_of {Z : Addr → Prop} {μ : Mu} {h : LH} {H : L2.Hp} {EX : Nat → L2.Hp → Prop} {K : Val → LH → Mu → V → L2.Hp → Prop} {f : PI.Mth} {v : Val} {as : List Val} {x : V} (R0 : RelH Z μ h H) (rx : Rep Z μ H v x) (hv : (∃ xs, v = .lst xs) ∨ ∃ l, v = .ref l) (g : Go Z μ H EX K (PI.mth f v as h)) : RcAt f false x H := by
  intro hf
  subst hf
  rcases hv with ⟨xs, rfl⟩ | ⟨l, rfl⟩
  · simp only [Rep] at rx
    obtain ⟨p, vs, rfl, _, hp, _⟩ := rx
    exact ⟨p, vs, rfl, hp⟩
  · cases as with
    | nil => exact g.elim
    | cons a r => cases r with
      | cons _ _ => exact g.elim
      | nil =>
        cases hl : h[l]? with
        | none => simp only [PI.mth, PI.asSeq, hl, Option.bind_none] at g; exact g.elim
        | some ob =>
          cases ob with
          | lst xs =>
            obtain ⟨p, vs, rfl, _, hp, _⟩ := refL R0 rx hl
            exact ⟨p, vs, rfl, .inl hp⟩
          | _ => simp only [PI.mth, PI.asSeq, hl, Option.bind_none] at g; exact g.elim
theorem recL_form {h : LH} {v : Val} (q : RecL h v) : (∃ xs, v = .lst xs) ∨ ∃ l, v = .ref l := by
  cases v with
  | lst xs => exact .inl ⟨_, rfl⟩
  | ref l => exact .inr ⟨_, rfl⟩
  | _ => exact q.elim
/-- the two readings of a method's call: of a list, of a known tuple -/
theorem mth_f {f : PI.Mth} {oe es : E} : ∀ σ H Q, tE C G ca W (.mth f oe es) σ H Q →
    tBM X.K "list" (fun x xs H Q => RcAt f false x H ∧ rMt f x xs H Q) (tE C G ca W oe) (tA C G ca W es) σ H Q ∨ (f = .index ∧ tE C G ca W oe σ H fun x H1 => (∃ p o vs, x = .ref p ∧ H1 p = some (.frz o (.tup vs)) ∧ o.dict = none) ∧ tA C G ca W es σ H1 fun xs H2 => RcAt f true x H2 ∧ rMt f x xs H2 Q) := by
  intro σV H Q ⟨Z, σ, h, μ, rs, rh, g⟩
  simp only [PI.ev] at g
  have rest : ∀ {v : Val} {h1 : LH} {μ1 : Mu} {x : V} {H1 : L2.Hp} {t : Bool}, (if t then ∃ xs, v = .ftup xs else (∃ xs, v = .lst xs) ∨ ∃ l, v = .ref l) → RelH Z μ1 h1 H1 → Ext μ H μ1 H1 → Rep Z μ1 H1 v x → Go Z μ1 H1 (fun c H' => W (.ref (ca c)) none σV H') (fun _ _ _ x H' => Q x H') ((PI.ev C G es σ h1).bind fun vs h => PI.onT vs fun l => PI.mth f v l h) →
      tA C G ca W es σV H1 fun xs H2 => RcAt f t x H2 ∧ rMt f x xs H2 Q := fun {v h1 μ1 x H1 t} hv R1 E1 rx g1 =>
    ⟨Z, σ, h1, μ1, rs.ext E1, R1, (Go.args (f := fun l h => PI.mth f v l h) g1).mono fun l h2 μ2 xs H2 R2 E2 rxs g2 => ⟨by
      have rx2 := Rep.ext E2 _ _ rx
      cases t with
      | false => exact rcAt_of R2 rx2 (by simpa using hv) g2
      | true =>
        obtain ⟨ys, rfl⟩ : ∃ xs, v = .ftup xs := by simpa using hv
        simp only [Rep] at rx2
        obtain ⟨p, o, vs, rfl, _, hp, _⟩ := rx2
        exact fun _ => ⟨p, vs, rfl, .inr ⟨o, hp⟩⟩, go_mth R2 (Rep.ext E2 _ _ rx) rxs g2⟩⟩
  cases hv : PI.ev C G oe σ h with
  | err => rw [hv] at g; exact g.elim
  | exc c h1 => rw [hv] at g; exact .inl ⟨Z, σ, h, μ, rs, rh, by rw [hv]; exact g⟩
  | ok v h1 =>
    rw [hv] at g
    simp only [PI.R.bind] at g
    split at g
    · rename_i q
      rcases rcv_cases q with q | ⟨xs, rfl, rfl⟩
      · refine .inl ⟨Z, σ, h, μ, rs, rh, ?_⟩
        rw [hv]
        intro x H1 μ1 R1 E1 rx
        exact ⟨(recL_ty R1 rx q).1, rest (by simpa using recL_form q) R1 E1 rx (g.shift E1)⟩
      · refine .inr ⟨rfl, Z, σ, h, μ, rs, rh, ?_⟩
        rw [hv]
        intro x H1 μ1 R1 E1 rx
        refine ⟨?_, rest (by simp) R1 E1 rx (g.shift E1)⟩
        simp only [Rep] at rx
        obtain ⟨p, o, vs, rfl, _, hp, hd, _⟩ := rx
        exact ⟨p, o, vs, rfl, hp, hd⟩
    · exact g.elim
/-- a method of a tuple that is known as an object -/
theorem pe_bmF {o e : Expr} {es : List Expr} {to : TE} {t : TA} {name : Str} {apos cpos : Pos} {id : String} {r : V → List V → L2.Hp → VK → Prop} (slot : Slot "tuple" name id) (hty : typeOf (.builtin id) = pure (.type "method_descriptor")) (hm : MtR X id r) (ho : PE X o to) (ha : PA X (e :: es) t)
    (hbase : attributeBase o name X.env (eval o X.env) = eval o X.env) (st : (e :: es).all noStar = true) (few : (e :: es).length < 20) (hline : (apos.endLine == cpos.line) = true) :
    PE X (.Call (.Attribute o name apos) (e :: es) [] cpos) (fun σ H Q => to σ H fun x H1 => (∃ p ob vs, x = .ref p ∧ H1 p = some (.frz ob (.tup vs)) ∧ ob.dict = none) ∧ t σ H1 fun xs H2 => r x xs H2 Q) := by
  have st' := st
  simp only [List.all_cons, Bool.and_eq_true] at st'
  refine ⟨fun pins s σ H Q I hh => wpAny_Call_method_late hbase (few_of st few) hline rfl (thn (ho.run pins s σ H _ I hh) fun v s1 ⟨x, H1, I1, r1, ⟨p, ob, vs, ex, hp, hd⟩, q1⟩ => ?_)⟩
  subst ex
  obtain rfl : v = Value.ref p := r1
  obtain ⟨a0, b0, its, d0, tt⟩ := (show ObjOk X.prog X.w H1 s1.heap p (.frz ob (.tup vs)) from I1.hok p _ hp)
  have hT : s1.TypeIs (.ref p) "tuple" := by
    obtain ⟨o', e1, e2, _⟩ := tt
    exact ⟨o', e1, e2⟩
  refine ⟨"tuple", id, PySem.F.plainAttrs_tuple, slot, hty, hT, fun a ea => by cases ea; exact ⟨ob, a0, hd⟩, ?_⟩
  have hA := ha.run cpos pins s1 σ H1 _ I1 q1
  rw [star_cons st'.1] at hA ⊢
  have nostar : ((false, eval e X.env) :: backTo cpos (starEach es X.env)).any (·.1) = false := by rw [List.any_cons, star_none st'.2]; rfl
  refine Calls.callWith_builtin nostar (Calls.evalArgs_plain (thn hA fun us s2 ⟨ws, H2, I2, r2, q2⟩ => ?_))
  exact hm pins s2 σ H2 (.ref p) ws (.ref p) us Q I2 rfl r2 q2
theorem mtR_of {id : String} {r r' : V → List V → L2.Hp → VK → Prop} (h : MtR X id r) (f : ∀ x xs H Q, r' x xs H Q → r x xs H Q) : MtR X id r' := fun pins s σ H x xs v us Q I a b q => h pins s σ H x xs v us Q I a b (f _ _ _ _ q)
theorem ok_mth (κ : Ctx T C ca k sc X W) {f : PI.Mth} {oe es : E} {o : Expr} {l : List Expr} {m : Str} {ap cp : Pos} (hm : m = mthName f) (hp : plainMth f = true) (ho : Ok1 X o (tE C G ca W oe)) (hb : attributeBase o m X.env (eval o X.env) = eval o X.env) (ha : OkL X (tE C G ca W) es l) (hl : l.length < 20) (hn : popB f l = true) (line : (ap.endLine == cp.line) = true) :
    Ok1 X (.Call (.Attribute o m ap) l [] cp) (tE C G ca W (.mth f oe es)) := by
  have hu := κ.hu
  cases l with
  | nil =>
    cases ha
    cases f <;> simp only [popB, Bool.false_eq_true] at hn
    subst hm
    refine .val (PE.imp (pe_bm0 PySem.F.plainAttrs_list PySem.F.slot_list_pop PySem.F.type_list_pop (mtR_of (r' := fun x xs H Q => RcAt .pop false x H ∧ rMt .pop x xs H Q) mt_pop_go fun _ _ _ _ q => q.2) ho.pe hb line) fun σV H Q hh => ?_) (fun _ => rfl) (fun _ _ _ e => by cases e)
    rcases mth_f (X := X) σV H Q hh with ⟨Z, σ, h, μ, rs, rh, g⟩ | ⟨q, _⟩
    · refine ⟨Z, σ, h, μ, rs, rh, g.mono fun v h1 μ1 x H1 R1 E1 rx ⟨a, b⟩ => ⟨a, ?_⟩⟩
      obtain ⟨Z', σ', h', μ', rs', rh', g'⟩ := b
      simp only [PI.ev, GoA] at g'
      exact g' [] H1 μ' rh' (Ext.refl _ _) .nil
    · cases q
  | cons e l =>
    have st := ha.stars
    have st' := st
    simp only [List.all_cons, Bool.and_eq_true] at st'
    have go : ∀ (id : String), Slot "list" m id → typeOf (.builtin id) = pure (.type "method_descriptor") → MtR X id (fun x xs H Q => RcAt f false x H ∧ rMt f x xs H Q) → f ≠ .index → Ok1 X (.Call (.Attribute o m ap) (e :: l) [] cp) (tE C G ca W (.mth f oe es)) := fun id sl ty mt hi =>
      .val (PE.imp (pe_bm PySem.F.plainAttrs_list sl ty mt ho.pe ha.pa hb (few_of st hl) line (star_cons st'.1) (star_none st'.2)) fun σV H Q hh => (mth_f (X := X) σV H Q hh).elim (fun z => z) fun q => absurd q.1 hi) (fun _ => rfl) (fun _ _ _ e => by cases e)
    subst hm
    cases f <;> simp only [plainMth, Bool.false_eq_true] at hp
    · exact go _ PySem.slot_list_append PySem.F.type_list_append (mtR_of mt_append_go fun _ _ _ _ q => q.2) (by simp)
    · exact go _ PySem.F.slot_list_extend PySem.F.type_list_extend (mtR_of mt_extend_go fun _ _ _ _ q => q.2) (by simp)
    · exact go _ PySem.F.slot_list_insert PySem.F.type_list_insert (mtR_of mt_insert_go fun _ _ _ _ q => q.2) (by simp)
    · exact go _ PySem.F.slot_list_pop PySem.F.type_list_pop (mtR_of mt_pop_go fun _ _ _ _ q => q.2) (by simp)
    · exact go _ PySem.F.slot_list_pop PySem.F.type_list_pop (mtR_of mt_popAt_go fun _ _ _ _ q => q.2) (by simp)
    · have p1 := pe_bm PySem.F.plainAttrs_list PySem.F.slot_list_index PySem.F.type_list_index (mtR_of (r' := fun x xs H Q => RcAt .index false x H ∧ rMt .index x xs H Q) (mt_index_list hu) fun _ _ _ _ q => ⟨by simpa using q.1 rfl, q.2⟩) ho.pe ha.pa hb (few_of st hl) line (star_cons st'.1) (star_none st'.2)
      have p2 := pe_bmF PySem.F.slot_tuple_index PySem.F.type_tuple_index (mtR_of (r' := fun x xs H Q => RcAt .index true x H ∧ rMt .index x xs H Q) (mt_index_tup hu) fun _ _ _ _ q => ⟨by simpa using q.1 rfl, q.2⟩) ho.pe ha.pa hb st hl line
      exact .val (PE.imp (PE.or p1 p2) fun σV H Q hh => (mth_f (X := X) σV H Q hh).elim .inl fun q => .inr q.2) (fun _ => rfl) (fun _ _ _ e => by cases e)
end
end PIS

/-! Targets. -/
namespace PIS
open PySem PySem.Spec PyProof.Rows L2
open PI (Val Ob LH R E S CallT RS)
/-- behind statements: what comes next, what is handed back, what is raised -/
def GoS (Z : Addr → Prop) (μ : Mu) (H : L2.Hp) (W : Nat → SV → L2.Hp → Prop) (K : PI.Env → LH → Mu → SV → L2.Hp → Prop) (Rt : V → L2.Hp → Prop) : RS → Prop
  | .nx σ' h' => ∀ σV' H' μ', RelS Z μ' H' σ' σV' → RelH Z μ' h' H' → Ext μ H μ' H' → K σ' h' μ' σV' H'
  | .rt v h' => ∀ x H' μ', RelH Z μ' h' H' → Ext μ H μ' H' → Rep Z μ' H' v x → Rt x H'
  | .exc c σ' h' => ∀ σV' H' μ', RelS Z μ' H' σ' σV' → RelH Z μ' h' H' → Ext μ H μ' H' → W c σV' H'
  | .err => False
section
variable {Z : Addr → Prop} {μ μ1 : Mu} {H H1 : L2.Hp} {W : Nat → SV → L2.Hp → Prop} {K K' : PI.Env → LH → Mu → SV → L2.Hp → Prop} {Rt : L2.V → L2.Hp → Prop} {r : RS}
theorem GoS.shift (E : Ext μ H μ1 H1) (g : GoS Z μ H W K Rt r) : GoS Z μ1 H1 W K Rt r := by
  cases r with
  | nx σ h => exact fun σV' H' μ' a b c => g σV' H' μ' a b (E.trans c)
  | rt v h => exact fun x H' μ' a b c => g x H' μ' a (E.trans b) c
  | exc c σ h => exact fun σV' H' μ' a b c => g σV' H' μ' a b (E.trans c)
  | err => exact g
theorem GoS.bind {f : PI.Env → LH → RS} (g : GoS Z μ H W K Rt (r.bind f)) : GoS Z μ H W (fun σ' h' μ' σV' H' => GoS Z μ' H' W K Rt (f σ' h')) Rt r := by
  cases r with
  | nx σ h => exact fun σV' H' μ' _ _ c => GoS.shift c g
  | rt v h => exact g
  | exc c σ h => exact g
  | err => exact g
theorem GoS.mono (g : GoS Z μ H W K Rt r) (f : ∀ σ' h' μ' σV' H', RelS Z μ' H' σ' σV' → RelH Z μ' h' H' → Ext μ H μ' H' → K σ' h' μ' σV' H' → K' σ' h' μ' σV' H') : GoS Z μ H W K' Rt r := by
  cases r with
  | nx σ h => exact fun σV' H' μ' a b c => f _ _ _ _ _ a b c (g σV' H' μ' a b c)
  | rt v h => exact g
  | exc c σ h => exact g
  | err => exact g
/-- an expression, then statements -/
theorem GoS.then_ {σ : PI.Env} {σV : SV} {q : R Val} {f : Val → LH → RS} (rs : RelS Z μ H σ σV) (g : GoS Z μ H W K Rt (q.then σ f)) : Go Z μ H (fun c H' => W c σV H') (fun v h' μ' x H' => GoS Z μ' H' W K Rt (f v h')) q := by
  cases q with
  | ok v h => exact fun x H' μ' _ b _ => GoS.shift b g
  | exc c h => exact fun H' μ' a b => g σV H' μ' (rs.ext b) a b
  | err => exact g
end
theorem RelS.set {Z : Addr → Prop} {μ : Mu} {H : L2.Hp} {σ : PI.Env} {σV : SV} {i : Nat} {v : Val} {x : V} (rs : RelS Z μ H σ σV) (r : Rep Z μ H v x) : RelS Z μ H (σ.set i (some v)) (σV.set i (some x)) := by
  refine ⟨by simp [rs.1], fun j w e => ?_⟩
  by_cases hj : i = j
  · subst hj
    have hl := lt_of_get e
    rw [List.length_set] at hl
    rw [List.getElem?_set_self hl] at e
    cases e
    exact ⟨x, List.getElem?_set_self (by rw [← rs.1]; exact hl), r⟩
  · rw [List.getElem?_set_ne hj] at e
    obtain ⟨y, a, b⟩ := rs.2 j w e
    exact ⟨y, by rw [List.getElem?_set_ne hj]; exact a, b⟩
theorem wipe_set {own : List Nat} {σ : SV} {i : Nat} {o : Option V} (h : i ∈ own) : L2.wipe (σ.set i o) own = L2.wipe σ own := by
  induction own with
  | nil => cases h
  | cons j own ih =>
    unfold L2.wipe
    by_cases hi : i ∈ own
    · rw [ih hi]
    · have e : i = j := by rcases List.mem_cons.mp h with h | h; exact h; exact absurd h hi
      subst e
      clear ih h
      have key : ∀ (l : List Nat) (σ : SV), i ∉ l → L2.wipe (σ.set i o) l = (L2.wipe σ l).set i o := by
        intro l
        induction l with
        | nil => intro σ _; rfl
        | cons m l ih =>
          intro σ hm
          unfold L2.wipe
          rw [ih σ (fun z => hm (List.mem_cons_of_mem _ z)), List.set_comm _ _ (fun z => hm (by simp [z]))]
      rw [key own σ hi, List.set_set]
/-- a target's store leaves the slots of others -/
def Own (tg : E) (σV σV' : SV) : Prop := ∀ own : List Nat, (∀ i ∈ PI.tslots tg, i ∈ own) → L2.wipe σV' own = L2.wipe σV own
section
variable {T : Tab} {C : CallT} {G : Nat → Val} {ca : Nat → Addr} {k : Nat} {sc : Scope} {X : Cx} {W : WX}
def tG (C : CallT) (G : Nat → Val) (ca : Nat → Addr) (W : WX) (tg : E) : TG := fun v σV H Q => ∃ Z σ h μ a, RelS Z μ H σ σV ∧ RelH Z μ h H ∧ Rep Z μ H a v ∧ GoS Z μ H (fun c σV' H' => W (.ref (ca c)) none σV' H') (fun σ' h' μ' σV' H' => Own tg σV σV' → Q σV' H') (fun _ _ => False) (PI.asgT C G tg a σ h)
def tGs (C : CallT) (G : Nat → Val) (ca : Nat → Addr) (W : WX) (tg : E) : TGs := fun vs σV H Q => ∃ Z σ h μ l, RelS Z μ H σ σV ∧ RelH Z μ h H ∧ Reps Z μ H l vs ∧ GoS Z μ H (fun c σV' H' => W (.ref (ca c)) none σV' H') (fun σ' h' μ' σV' H' => Own tg σV σV' → Q σV' H') (fun _ _ => False) (PI.asgT C G tg (.tup l) σ h)
theorem PG.imp {x : Expr} {t t' : TG} (h : PG X x t) (f : ∀ v σ H Q, t' v σ H Q → t v σ H Q) : PG X x t' := ⟨fun pins s σ H v u Q I r q => h.run pins s σ H v u Q I r (f _ _ _ _ q)⟩
theorem PG.or {x : Expr} {t t' : TG} (h : PG X x t) (h' : PG X x t') : PG X x (fun v σ H Q => t v σ H Q ∨ t' v σ H Q) := ⟨fun pins s σ H v u Q I r q => q.elim (h.run pins s σ H v u Q I r) (h'.run pins s σ H v u Q I r)⟩
theorem PGs.imp {x : List Expr} {t t' : TGs} (h : PGs X x t) (f : ∀ v σ H Q, t' v σ H Q → t v σ H Q) : PGs X x t' := ⟨fun pins s σ H v u Q I r q => h.run pins s σ H v u Q I r (f _ _ _ _ q)⟩
theorem asg_cons {e : Expr} {es : List Expr} {env : Env} (h : noStar e = true) : assignEach (e :: es) env = (false, assign e env) :: assignEach es env := by
  cases e <;> first | rfl | (simp [noStar] at h)
theorem asg_len {env : Env} : ∀ {es : List Expr}, es.all noStar = true → (assignEach es env).length = es.length ∧ (assignEach es env).findIdx? (·.1) = none
  | [], _ => ⟨rfl, rfl⟩
  | e :: es, h => by
    simp only [List.all_cons, Bool.and_eq_true] at h
    obtain ⟨a, b⟩ := asg_len (env := env) h.2
    rw [asg_cons h.1]
    refine ⟨by simp [a], ?_⟩
    rw [List.findIdx?_cons, b]; rfl
theorem chkTs_star : ∀ (ts : E) (sc : Scope) (l : List Expr), chkTs T ts sc l = true → l.all noStar = true := by
  intro ts
  induction ts with
  | cons e es _ ih =>
    intro sc l h
    cases l with
    | nil => rfl
    | cons x l => simp only [chkTs, Bool.and_eq_true] at h; simp only [List.all_cons, h.1.1, Bool.true_and]; exact ih sc l h.2
  | nil => intro sc l h; cases l <;> first | rfl | (simp [chkTs] at h)
  | _ => intro sc l h; simp [chkTs] at h
theorem tlen_of : ∀ (ts : E) (l : List Expr), chkTs T ts sc l = true → PI.tlen ts = l.length := by
  intro ts
  induction ts with
  | cons e es _ ih =>
    intro l h
    cases l with
    | nil => simp [chkTs] at h
    | cons x l => simp only [chkTs, Bool.and_eq_true] at h; simp only [PI.tlen, ih l h.2, List.length_cons]
  | nil => intro l h; cases l <;> first | rfl | (simp [chkTs] at h)
  | _ => intro l h; simp [chkTs] at h
theorem setIx_then {Z : Addr → Prop} {μ : Mu} {h : LH} {H : L2.Hp} {σ : PI.Env} {σV : SV} {Wn : Nat → SV → L2.Hp → Prop} {K : PI.Env → LH → Mu → SV → L2.Hp → Prop} {Rt : V → L2.Hp → Prop} {a k v : Val} {Q : L2.Hp → Prop} (rs : RelS Z μ H σ σV)
    (g : GoS Z μ H Wn K Rt ((PI.setIx a k v h).then σ fun _ h => .nx σ h)) (hQ : ∀ h' μ' H', RelH Z μ' h' H' → Ext μ H μ' H' → K σ h' μ' σV H' → Q H') : GoU Z μ H Q (PI.setIx a k v h) := by
  have nx : ∀ c h', PI.setIx a k v h ≠ .exc c h' := fun c h' => by
    unfold PI.setIx
    repeat' split
    all_goals (intro z; cases z)
  cases e : PI.setIx a k v h with
  | ok u h' =>
    rw [e] at g
    exact fun H' μ' R1 E1 => hQ h' μ' H' R1 E1 (g σV H' μ' (rs.ext E1) R1 E1)
  | exc c h' => exact absurd e (nx c h')
  | err => rw [e] at g; exact g.elim
/-- targets -/
theorem okT (κc : X.calm = true) (κn : X.N = T.N) (κd : T.N.Nodup) (κu : X.A.units + 65 < cLine) (hL : ∀ x, locB sc x = true → Loc X.env.scope x ∧ (X.fn x = true ∨ X.env.scope.names.lookup x = some .local)) :
    ∀ tg : E, ((∀ e x, chk T e sc x = true → Ok1 X x (tE C G ca W e)) ∨ namesT tg = true) →
      (∀ x, chkT T tg sc x = true → PG X x (tG C G ca W tg)) ∧ (∀ l, chkTs T tg sc l = true → PGs X l (tGs C G ca W tg)) := by
  have hNd : X.N.Nodup := by rw [κn]; exact κd
  intro tg
  induction tg with
  | tName i =>
    intro _
    refine ⟨fun x h => ?_, fun l h => by simp [chkTs] at h⟩
    cases x <;> simp only [chkT, Bool.false_eq_true, Bool.and_eq_true, decide_eq_true_eq] at h
    rename_i y pos
    obtain ⟨h1, h2⟩ := h
    obtain ⟨a, b⟩ := hL y h2
    refine PG.imp (pg_name (i := i) hNd (by rw [κn]; exact h1) a b) fun v σV H Q ⟨Z, σ, h, μ, av, rs, rh, ra, g⟩ => ?_
    simp only [PI.asgT] at g
    exact g _ H μ (rs.set ra) rh (Ext.refl _ _) fun own hown => wipe_set (hown i (by simp [PI.tslots]))
  | tTup ts ih =>
    intro hE
    refine ⟨fun x h => ?_, fun l h => by simp [chkTs] at h⟩
    cases x <;> simp only [chkT, Bool.false_eq_true] at h
    rename_i l j pos
    have st := chkTs_star ts sc l h
    have ln := tlen_of ts l h
    have pgs := (ih (hE.elim .inl fun q => .inr (by simpa only [namesT] using q))).2 l h
    obtain ⟨a, b⟩ := asg_len (env := X.env) st
    refine PG.imp (PG.or (pg_tup κc pgs a b) (pg_unl κc pgs a b)) fun v σV H Q ⟨Z, σ, h, μ, av, rs, rh, ra, g⟩ => ?_
    simp only [PI.asgT] at g
    split at g
    · rename_i xs hx
      split at g
      · rename_i hlen
        obtain ⟨p, vs, rfl, hp, rr⟩ := asSeq_rd rh ra hx
        have hn : vs.length = l.length := by rw [← rr.length, hlen, ln]
        have q : tGs C G ca W ts vs σV H Q := ⟨Z, σ, h, μ, xs, rs, rh, rr, g⟩
        rcases hp with hp | hp
        · exact .inr ⟨p, vs, rfl, .inl hp, hn, q⟩
        · exact .inl ⟨p, vs, rfl, .inl hp, hn, q⟩
      · exact g.elim
    · exact g.elim
  | nil =>
    intro _
    refine ⟨fun x h => by simp [chkT] at h, fun l h => ?_⟩
    cases l <;> simp only [chkTs, Bool.false_eq_true] at h
    refine PGs.imp pgs_nil fun vs σV H Q ⟨Z, σ, h, μ, l, rs, rh, rr, g⟩ => ?_
    cases l with
    | nil => exact ⟨rr.nil_eq, g σV H μ rs rh (Ext.refl _ _) fun _ _ => rfl⟩
    | cons _ _ => exact g.elim
  | cons t ts iht ihs =>
    intro hE
    refine ⟨fun x h => by simp [chkT] at h, fun l h => ?_⟩
    cases l <;> simp only [chkTs, Bool.false_eq_true, Bool.and_eq_true] at h
    rename_i x l
    obtain ⟨⟨h1, h2⟩, h3⟩ := h
    have hE1 : (∀ e x, chk T e sc x = true → Ok1 X x (tE C G ca W e)) ∨ namesT t = true := hE.elim .inl fun q => .inr (by simp only [namesT, Bool.and_eq_true] at q; exact q.1)
    have hE2 : (∀ e x, chk T e sc x = true → Ok1 X x (tE C G ca W e)) ∨ namesT ts = true := hE.elim .inl fun q => .inr (by simp only [namesT, Bool.and_eq_true] at q; exact q.2)
    refine PGs.imp (pgs_cons ((iht hE1).1 x h2) ((ihs hE2).2 l h3) (by rw [asg_cons h1]; rfl)) fun vs σV H Q ⟨Z, σ, h, μ, l, rs, rh, rr, g⟩ => ?_
    cases l with
    | nil => exact g.elim
    | cons a l =>
      obtain ⟨y, r, rfl, ra, rr'⟩ := rr.cases
      simp only [PI.asgT] at g
      refine ⟨y, r, rfl, Z, σ, h, μ, a, rs, rh, ra, (GoS.bind g).mono fun σ1 h1 μ1 σV1 H1 rs1 R1 E1 g1 own1 => ?_⟩
      refine ⟨Z, σ1, h1, μ1, l, rs1, R1, Reps.ext E1 _ _ rr', g1.mono fun σ2 h2 μ2 σV2 H2 _ _ _ q own2 => q fun own hown => ?_⟩
      simp only [PI.tslots, List.mem_append] at hown
      rw [own2 own fun i hi => hown i (.inr hi), own1 own fun i hi => hown i (.inl hi)]
  | tSub o i _ _ =>
    intro hE
    refine ⟨fun x h => ?_, fun l h => by simp [chkTs] at h⟩
    cases x <;> simp only [chkT, Bool.false_eq_true, Bool.and_eq_true] at h
    rename_i v s pos
    rcases hE with hE | hE
    · have pl := chk_plain (T := T) i sc s h.2
      refine PG.imp (pg_sub (hE o v h.1).pe (hE i s h.2).pe (set_go (by omega)) ?_) fun val σV H Q ⟨Z, σ, h, μ, av, rs, rh, ra, g⟩ => ?_
      · intro u
        cases s <;> first | rfl | (simp [plainX] at pl)
      · simp only [PI.asgT] at g
        refine ⟨Z, σ, h, μ, rs, rh, (GoS.then_ rs g).mono fun ov h1 μ1 ox H1 R1 E1 ro g1 => ?_⟩
        refine ⟨Z, σ, h1, μ1, rs.ext E1, R1, (GoS.then_ (rs.ext E1) g1).mono fun kv h2 μ2 kx H2 R2 E2 rk g2 => ?_⟩
        refine ⟨Z, μ2, h2, ov, kv, av, R2, Rep.ext E2 _ _ ro, rk, Rep.ext E2 _ _ (Rep.ext E1 _ _ ra), ?_⟩
        exact setIx_then ((rs.ext E1).ext E2) g2 fun h' μ' H' R3 E3 q => q fun _ _ => rfl
    · simp [namesT] at hE
  | _ => intro _; exact ⟨fun x h => by simp [chkT] at h, fun l h => by simp [chkTs] at h⟩
/-- targets of names alone do the same -/
theorem asgN_T : ∀ (tg : E) (v : Val) (σ σ' : PI.Env) (h : LH), PI.ev.asgN tg v σ = some σ' → PI.asgT C G tg v σ h = .nx σ' h := by
  intro tg
  induction tg with
  | tName i => intro v σ σ' h e; simp only [PI.ev.asgN, Option.some.injEq] at e; subst e; rfl
  | tTup ts ih =>
    intro v σ σ' h e
    simp only [PI.ev.asgN] at e
    split at e
    all_goals first
      | (split at e
         · rename_i hl
           simp only [PI.asgT, PI.asSeq, hl, if_true]
           exact ih _ _ _ h e
         · cases e)
      | cases e
  | nil =>
    intro v σ σ' h e
    simp only [PI.ev.asgN] at e
    split at e
    · cases e; rfl
    · cases e
  | cons t ts iht ihs =>
    intro v σ σ' h e
    simp only [PI.ev.asgN] at e
    split at e
    · simp only [Option.bind_eq_some_iff] at e
      obtain ⟨σ1, e1, e2⟩ := e
      simp only [PI.asgT, iht _ _ _ h e1, RS.bind]
      exact ihs _ _ _ h e2
    · cases e
  | _ => intro v σ σ' h e; simp [PI.ev.asgN] at e
end
end PIS

/-! zip of two sequences, each a list or a tuple; enumerate of either. -/
namespace PIS
open PySem PySem.Spec PyProof.Rows L2
abbrev itN (t : Bool) : String := if t then "tuple_iterator" else "list_iterator"
/-- the record of an iterator at its start -/
abbrev itO (t : Bool) (l : Addr) : Obj := { cls := .type (itN t), data := .fields #[.ref l, .int 0 0] }
def SqAt (t : Bool) (h : Heap) (l : Addr) (xs : Array Value) : Prop := if t then h.IsTuple l xs else h.IsList l xs
def ItAt (t : Bool) (h : Heap) (it l : Addr) (i : Nat) : Prop := if t then h.IsTupleIter it l i else h.IsListIter it l i
theorem SqAt.at {t : Bool} {h h' : Heap} {l : Addr} {xs : Array Value} (s : SqAt t h l xs) (k : ∀ o, h.get? l = some o → h'.get? l = some o) : SqAt t h' l xs := by
  cases t
  · exact Heap.IsList.at s k
  · exact Heap.IsTuple.at s k
theorem ItAt.at {t : Bool} {h h' : Heap} {it l : Addr} {i : Nat} (s : ItAt t h it l i) (k : ∀ o, h.get? it = some o → h'.get? it = some o) : ItAt t h' it l i := by
  cases t
  · exact Heap.IsListIter.at s k
  · exact Heap.IsTupleIter.at s k
theorem SqAt.obj {t : Bool} {h : Heap} {l : Addr} {xs : Array Value} (s : SqAt t h l xs) : ∃ o, h.get? l = some o := by
  cases t
  · obtain ⟨o, e, _⟩ := (show h.IsList l xs from s); exact ⟨o, e⟩
  · obtain ⟨o, e, _⟩ := (show h.IsTuple l xs from s); exact ⟨o, e⟩
theorem ItAt.obj {t : Bool} {h : Heap} {it l : Addr} {i : Nat} (s : ItAt t h it l i) : ∃ o, h.get? it = some o ∧ ∀ v, o.data ≠ .cell v := by
  cases t
  · obtain ⟨o, e, _, d⟩ := (show h.IsListIter it l i from s); exact ⟨o, e, fun v q => by rw [d] at q; cases q⟩
  · obtain ⟨o, e, _, d⟩ := (show h.IsTupleIter it l i from s); exact ⟨o, e, fun v q => by rw [d] at q; cases q⟩
theorem ItAt.new {t : Bool} {h : Heap} {it l : Addr} (e : h.get? it = some (itO t l)) : ItAt t h it l 0 := by
  cases t
  · exact ⟨_, e, rfl, rfl⟩
  · exact ⟨_, e, rfl, rfl⟩
theorem drawsB {prog : Program} {w : World} {A : Around} (hh : A.handled = none) (t : Bool) (it l : Addr) (ne : l ≠ it) (items : Array Value) :
    Draws prog w A it [it, l] items.size (fun i v => items[i]? = some v) (fun i h => ItAt t h it l i ∧ SqAt t h l items) := by
  cases t
  · exact Draws.list hh it l ne items
  · exact Draws.tuple hh it l ne items
section
variable {prog : Program} {w : World} {A : Around} {EE : Value → Shared → Prop} {s : Shared}
theorem pyIter_seq {t : Bool} {l : Addr} {xs : Array Value} {Q : Value → Shared → Prop} (hl : SqAt t s.heap l xs) (q : Q (.ref s.heap.objs.size) { s with heap := s.heap.push (itO t l) }) : wpAny (model prog w) A (pyIter (.ref l)) Q EE s := by
  cases t
  · exact wpAny_pyIter_list (show s.heap.IsList l xs from hl) q
  · exact wpAny_pyIter_tuple (show s.heap.IsTuple l xs from hl) q
end
abbrev zm1 (t1 : Bool) (h : Heap) (l1 : Addr) : Heap := h.push (itO t1 l1)
abbrev zm2 (t1 t2 : Bool) (h : Heap) (l1 l2 : Addr) : Heap := (zm1 t1 h l1).push (itO t2 l2)
abbrev zm3 (t1 t2 : Bool) (h : Heap) (l1 l2 : Addr) : Heap := (zm2 t1 t2 h l1 l2).push { cls := .type "tuple", data := .seq #[.ref h.objs.size, .ref (zm1 t1 h l1).objs.size] }
abbrev zm4 (t1 t2 : Bool) (h : Heap) (l1 l2 : Addr) : Heap := (zm3 t1 t2 h l1 l2).push { cls := .type "tuple", data := .seq #[.none, .none] }
abbrev zm5 (t1 t2 : Bool) (h : Heap) (l1 l2 : Addr) : Heap := (zm4 t1 t2 h l1 l2).push { cls := .type "zip", data := .fields #[.none, .bool false, .bool false, .ref (zm2 t1 t2 h l1 l2).objs.size, .ref (zm3 t1 t2 h l1 l2).objs.size] }
theorem meets_zm (t1 t2 : Bool) (l1 l2 : Addr) (xs ys : Array Value) :
    Meets (Builtin.«zip.__new__» ⟨[.type "zip", .ref l1, .ref l2], []⟩) (fun _ R s => SqAt t1 s.heap l1 xs ∧ SqAt t2 s.heap l2 ys ∧
      R (.ok (.ret (.ref (zm4 t1 t2 s.heap l1 l2).objs.size))) { s with heap := zm5 t1 t2 s.heap l1 l2 }) :=
  .of_wp fun prog w A R s hh => by
    obtain ⟨hp, g, d, tk, os⟩ := s
    obtain ⟨q1, q2, fin⟩ := hh
    have hsub := sub_zip
    have S1 : SqAt t1 (Shared.heap ⟨hp, g, d, tk, os⟩) l1 xs := q1
    have S2 : SqAt t2 (Shared.heap ⟨hp.push (itO t1 l1), g, d, tk, os⟩) l2 ys := q2.at fun o e => Heap.get?_push_of_some _ e
    wp_walk using pyIter_seq S1, pyIter_seq S2
    exact ⟨_, rfl, fin⟩
section
variable {prog : Program} {w : World} {A : Around} {EE : Value → Shared → Prop} {s : Shared}
theorem call_zm {t1 t2 : Bool} {l1 l2 : Addr} {xs ys : Array Value} {Q : Value → Shared → Prop} (q1 : SqAt t1 s.heap l1 xs) (q2 : SqAt t2 s.heap l2 ys)
    (fin : ∀ h', IsZip h' (s.heap.objs.size + 4) (s.heap.objs.size + 2) (s.heap.objs.size + 3) .none → IsPair h' (s.heap.objs.size + 2) (.ref s.heap.objs.size) (.ref (s.heap.objs.size + 1)) →
      IsPair h' (s.heap.objs.size + 3) .none .none → ItAt t1 h' s.heap.objs.size l1 0 → ItAt t2 h' (s.heap.objs.size + 1) l2 0 → (∀ c o, s.heap.get? c = some o → h'.get? c = some o) → Q (.ref (s.heap.objs.size + 4)) { s with heap := h' }) :
    wpAny (model prog w) A (call (.type "zip") [.ref l1, .ref l2]) Q EE s := by
  refine callType_new F.called_zip (by decide) (F.typeCall_zip_2 _ _) (F.newCall_zip_2 _ _) (fun obj => F.args_object_init_3 obj _ _) F.entry_zip_new (meets_zm t1 t2 l1 l2 xs ys) ⟨q1, q2, ?_⟩
  have n1 : (zm1 t1 s.heap l1).objs.size = s.heap.objs.size + 1 := Heap.size_push ..
  have n2 : (zm2 t1 t2 s.heap l1 l2).objs.size = s.heap.objs.size + 2 := by rw [Heap.size_push, n1]
  have n3 : (zm3 t1 t2 s.heap l1 l2).objs.size = s.heap.objs.size + 3 := by rw [Heap.size_push, n2]
  have n4 : (zm4 t1 t2 s.heap l1 l2).objs.size = s.heap.objs.size + 4 := by rw [Heap.size_push, n3]
  have up : ∀ {h : Heap} {c : Addr} {o ob : Obj}, h.get? c = some o → (h.push ob).get? c = some o := fun e => Heap.get?_push_of_some _ e
  have a5 : (zm5 t1 t2 s.heap l1 l2).get? (zm4 t1 t2 s.heap l1 l2).objs.size = some _ := Heap.get?_push_size _ rfl
  have a4 : (zm5 t1 t2 s.heap l1 l2).get? (zm3 t1 t2 s.heap l1 l2).objs.size = some _ := up (Heap.get?_push_size _ rfl)
  have a3 : (zm5 t1 t2 s.heap l1 l2).get? (zm2 t1 t2 s.heap l1 l2).objs.size = some _ := up (up (Heap.get?_push_size _ rfl))
  have a2 : (zm5 t1 t2 s.heap l1 l2).get? (zm1 t1 s.heap l1).objs.size = some (itO t2 l2) := up (up (up (Heap.get?_push_size _ rfl)))
  have a1 : (zm5 t1 t2 s.heap l1 l2).get? s.heap.objs.size = some (itO t1 l1) := up (up (up (up (Heap.get?_push_size _ rfl))))
  rw [n2, n3, n4] at a5
  rw [n3] at a4
  rw [n1, n2] at a3
  rw [n1] at a2
  show _ ∧ _
  rw [n4]
  exact ⟨⟨_, a5, rfl⟩, fin _ a5 a3 a4 (.new a1) (.new a2) fun c o e => up (up (up (up (up e))))⟩
end
/-- a list or a tuple, as it stands -/
def SqV (K : PySem.W.Frag) (t : Bool) (H : Hp) (a : Addr) (xs : List V) : Prop := if t then SqT K H a xs else SqL K H a xs
section
variable {X : Cx} {pins : List (Addr × Obj)} {σ : SV} {H : Hp} {s : Shared}
theorem sq_at {t : Bool} {a : Addr} {xs : List V} (I : Inv X pins σ H s) (q : SqV X.K t H a xs) : ∃ its : List Value, Vals xs its ∧ SqAt t s.heap a its.toArray ∧ a < s.heap.objs.size := by
  cases t
  · obtain ⟨its, rv, p, _⟩ := I.list (show SqL X.K H a xs from q)
    exact ⟨its, rv, p.isList, p.lt⟩
  · obtain ⟨its, rv, p, _⟩ := I.tuple (show SqT X.K H a xs from q)
    have p' : s.heap.IsTuple a its.toArray := p
    obtain ⟨o, e, _⟩ := id p'
    exact ⟨its, rv, p', Heap.lt_size e⟩
theorem sq_inj {t : Bool} {a : Addr} {xs ys : List V} (I : Inv X pins σ H s) (q : SqV X.K t H a xs) (r : SqV X.K t H a ys) : xs = ys := by
  cases t
  · exact I.list_inj q r
  · exact I.tuple_inj q r
end
/-- the sequences at a and b as they stand at each turn, their items in new pairs -/
def Itm (K : PySem.W.Frag) (t1 : Bool) (a : Addr) (t2 : Bool) (b : Addr) : It :=
  ⟨fun i H => ∃ (xs ys : List V) (x y : V), SqV K t1 H a xs ∧ SqV K t2 H b ys ∧ xs[i]? = some x ∧ ys[i]? = some y,
    fun i H v H' => ∃ T x y, v = .ref T ∧ H T = none ∧ H' = upd H T (.tup [x, y]) ∧ (∀ xs, SqV K t1 H a xs → xs[i]? = some x) ∧ ∀ ys, SqV K t2 H b ys → ys[i]? = some y,
    fun i H => ∃ xs ys : List V, SqV K t1 H a xs ∧ SqV K t2 H b ys ∧ i ≤ xs.length ∧ i ≤ ys.length ∧ (xs.length = i ∨ ys.length = i)⟩
theorem sep_of {z TI TO i1 i2 l1 l2 : Addr} (D : ZipApart z TI TO i1 i2 l1 l2) : ZipSep2 z TI TO i1 i2 [i1, l1] [i2, l2] where
  TIz := D.TIz
  TOz := D.TOz
  TITO := D.TITO
  TIi1 := D.TIi1
  mem1 := by simp
  zf1 := by simp [D.i1z.symm, D.l1z.symm]
  Tf1 := by simp [D.TOi1, D.l1TO.symm]
  TIi2 := D.TIi2
  mem2 := by simp
  zf2 := by simp [D.i2z.symm, D.l2z.symm]
  Tf2 := by simp [D.TOi2, D.l2TO.symm]
  sep1_2 := by simp [D.i12, D.l2i1.symm]
  sep2_1 := by simp [D.i12.symm, D.l1i2.symm]
theorem turn_zm {P : Program} {w : World} {K : PySem.W.Frag} {elts : List Expr} {kk : Nat} {tpos : Pos} {t1 t2 : Bool} {a b z TI TO i1 i2 : Addr} (D : ZipApart z TI TO i1 i2 a b) :
    Turn P w K (.Tuple elts kk tpos) (Itm K t1 a t2 b) [z, TI, TO, i1, i2] z (fun i h => IsZip h z TI TO .none ∧ IsPair h TI (.ref i1) (.ref i2) ∧ (∃ x y, IsPair h TO x y) ∧ ItAt t1 h i1 a i ∧ ItAt t2 h i2 b i) where
  mem := by simp
  obj := fun i h st c hc => by
    obtain ⟨hz, hTI, ⟨x, y, hTO⟩, h1, h2⟩ := st
    simp only [List.mem_cons, List.not_mem_nil, or_false] at hc
    rcases hc with rfl | rfl | rfl | rfl | rfl
    · exact ⟨_, hz, fun v q => nomatch q⟩
    · exact ⟨_, hTI, fun v q => nomatch q⟩
    · exact ⟨_, hTO, fun v q => nomatch q⟩
    · exact h1.obj
    · exact h2.obj
  keep := fun i h h' st k => by
    obtain ⟨hz, hTI, ⟨x, y, hTO⟩, h1, h2⟩ := st
    exact ⟨k z (by simp) _ hz, k TI (by simp) _ hTI, ⟨x, y, k TO (by simp) _ hTO⟩, h1.at fun o q => k i1 (by simp) o q, h2.at fun o q => k i2 (by simp) o q⟩
  item := by
    intro X hP hw hK hc i pins s σ H E I hf st hg
    subst hP hw hK
    obtain ⟨hz, hTI, ⟨x0, y0, hTO⟩, h1, h2⟩ := st
    obtain ⟨xs, ys, x, y, qx, qy, hx, hy⟩ := hg
    obtain ⟨its, rv, p, _⟩ := sq_at I qx
    obtain ⟨its2, rv2, p2, _⟩ := sq_at I qy
    obtain ⟨u, hu, ru⟩ := rv.get hx
    obtain ⟨u2, hu2, ru2⟩ := rv2.get hy
    have hd : X.A.in1.handled = none := I.ok.hd hc
    have hzl : z < s.heap.objs.size := Heap.lt_size hz
    refine wpAny_pyNext_zipD2_item (sep_of D) (drawsB hd t1 i1 a D.l1i1 its.toArray) (drawsB hd t2 i2 b D.l2i2 its2.toArray) hz hTI hTO ⟨h1, p⟩ ⟨h2, p2⟩ (i := i) (by rw [List.size_toArray]; exact lt_of_get hu) (by rw [List.size_toArray]; exact lt_of_get hu2)
      fun w1 w2 h' tk e1 e2 z' TO' s1' s2' hT hsz hk => ?_
    have e1' : u = w1 := by
      have : its.toArray[i]? = some u := by simpa using hu
      rw [this] at e1; exact Option.some.inj e1
    have e2' : u2 = w2 := by
      have : its2.toArray[i]? = some u2 := by simpa using hu2
      rw [this] at e2; exact Option.some.inj e2
    subst e1' e2'
    refine ⟨_, rfl, wpAny_letOwnedTupleGo_zip (s := { s with heap := h', toks := tk }) z' fun h'' z'' sb => ?_⟩
    have hT2 : h''.get? s.heap.objs.size = some { cls := .type "tuple", data := .seq #[u, u2] } := (sb.2 _ (Nat.ne_of_gt hzl)).trans hT
    have new : ObjOk X.prog X.w (upd H s.heap.objs.size (.tup [x, y])) h'' s.heap.objs.size (.tup [x, y]) :=
      ⟨by show 2 ≤ sizeLine; decide, [u, u2], .cons ru (.cons ru2 .nil), ⟨_, hT2, rfl, _, rfl⟩⟩
    have I1 : Inv X pins σ (upd H s.heap.objs.size (.tup [x, y])) { s with heap := h'', toks := tk } :=
      I.turnedNew (ch := [z, TI, TO, i1, i2]) (fun c o hb q => by
        simp only [List.mem_cons, List.not_mem_nil, or_false, not_or] at hb
        exact (sb.2 c hb.1).trans (hk c o hb.1 hb.2.2.1 hb.2.2.2.1 hb.2.2.2.2 q)) hf (Nat.le_refl _) new
    refine ⟨.ref s.heap.objs.size, _, I1, rfl, ⟨_, x, y, rfl, I.hok.fresh (Nat.le_refl _), rfl, fun l hl => by rw [sq_inj I hl qx]; exact hx, fun l hl => by rw [sq_inj I hl qy]; exact hy⟩, ⟨z'', ?_, ⟨u, u2, ?_⟩, ?_, ?_⟩, fun c hcm => ?_⟩
    · exact (sb.2 _ D.TIz).trans (hk _ _ D.TIz D.TITO D.TIi1 D.TIi2 hTI)
    · exact (sb.2 _ D.TOz).trans TO'
    · exact s1'.1.at fun o q => (sb.2 _ D.i1z).trans q
    · exact s2'.1.at fun o q => (sb.2 _ D.i2z).trans q
    · have lt : c < s.heap.objs.size := by
        simp only [List.mem_cons, List.not_mem_nil, or_false] at hcm
        rcases hcm with rfl | rfl | rfl | rfl | rfl
        · exact hzl
        · exact Heap.lt_size hTI
        · exact Heap.lt_size hTO
        · obtain ⟨_, e, _⟩ := h1.obj; exact Heap.lt_size e
        · obtain ⟨_, e, _⟩ := h2.obj; exact Heap.lt_size e
      rw [upd_ne (Nat.ne_of_lt lt)]
      exact (hf c hcm).1
  done := by
    intro X hP hw hK hc i pins s σ H E I hf st hg
    subst hP hw hK
    obtain ⟨hz, hTI, ⟨x0, y0, hTO⟩, h1, h2⟩ := st
    obtain ⟨xs, ys, qx, qy, le1, le2, hend⟩ := hg
    obtain ⟨its, rv, p, _⟩ := sq_at I qx
    obtain ⟨its2, rv2, p2, _⟩ := sq_at I qy
    have n1 := rv.length
    have n2 := rv2.length
    have hd : X.A.in1.handled = none := I.ok.hd hc
    refine wpAny_pyNext_zipD2_end (sep_of D) (drawsB hd t1 i1 a D.l1i1 its.toArray) (drawsB hd t2 i2 b D.l2i2 its2.toArray) hz hTI hTO ⟨h1, p⟩ ⟨h2, p2⟩ (i := i) (by simp; omega) (by simp; omega) (by simp; omega)
      fun h' tk hk => ⟨rfl, I.turnedL (ch := [z, TI, TO, i1, i2]) (fun c o hb q => ?_) hf⟩
    simp only [List.mem_cons, List.not_mem_nil, or_false, not_or] at hb
    exact hk c o hb.1 hb.2.2.1 hb.2.2.2.1 hb.2.2.2.2 q
  self := fun A i s Q E st h => wpAny_pyIter_zip st.1 h
/-- zip(a, b), each a list or a tuple -/
def iZm (K : PySem.W.Frag) (ta : TA) : TI := fun σ H R => ta σ H fun vs H1 => ∃ t1 t2 a b xs ys, vs = [.ref a, .ref b] ∧ SqV K t1 H1 a xs ∧ SqV K t2 H1 b ys ∧ R (Itm K t1 a t2 b) H1
theorem pi_zm {X : Cx} {e e2 : Expr} {ta : TA} {p pos tpos : Pos} {elts : List Expr} {kk : Nat} (hg : Gl X "zip") (hm : X.mg "zip" = none) (ha : PA X [e, e2] ta)
    (hs : starEach [e, e2] X.env = (false, eval e X.env) :: starEach [e2] X.env) (hpl : (backTo pos (starEach [e2] X.env)).any (·.1) = false) :
    PI X (.Tuple elts kk tpos) (.Call (.Name "zip" p) [e, e2] [] pos) (iZm X.K ta) := by
  refine ⟨fun pins s σ H R I hh => ?_⟩
  refine Call_ (ld_blt I hg hm PyProof.Rows.boot_zip (PyProof.Rows.callWith_type1 (thn (ha.run pos pins s σ H _ I hh) fun us s1 ⟨vs, H1, I1, r1, t1, t2, a, b, xs, ys, ex, q1, q2, q⟩ => ?_) hs hpl))
  subst ex
  obtain ⟨u1, u2, rfl, r1, r2⟩ := vals2 r1
  obtain rfl : u1 = Value.ref a := r1
  obtain rfl : u2 = Value.ref b := r2
  obtain ⟨its, rv, p1, lt1⟩ := sq_at I1 q1
  obtain ⟨its2, rv2, p2, lt2⟩ := sq_at I1 q2
  refine call_zm p1 p2 fun h' hz hTI hTO h1 h2 hk => wpAny_pyIter_zip hz ?_
  have I2 : Inv X pins σ H1 { s1 with heap := h' } := I1.kept (t' := s1.toks) hk
  refine ⟨s1.heap.objs.size + 4, [s1.heap.objs.size + 4, s1.heap.objs.size + 2, s1.heap.objs.size + 3, s1.heap.objs.size, s1.heap.objs.size + 1], _, _, H1, rfl, I2, turn_zm (PySem.W.ktu_apart s1.heap.objs.size a b lt1 lt2), ⟨hz, hTI, ⟨_, _, hTO⟩, h1, h2⟩, fun c hc => ?_, q⟩
  have le : s1.heap.objs.size ≤ c := by
    simp only [List.mem_cons, List.not_mem_nil, or_false] at hc
    rcases hc with z | z | z | z | z <;> rw [z] <;> first | exact Nat.le_refl _ | exact Nat.le_add_right _ _
  exact I1.fpOk le (I1.hok.fresh le)
/-! ### enumerate -/
abbrev em2 (t : Bool) (h : Heap) (l : Addr) : Heap := (h.push (itO t l)).push { cls := .type "enumerate", data := .fields #[.none, .bool false, .ref h.objs.size, rawInt 0, .none, .none] }
theorem meets_em (t : Bool) (l : Addr) (xs : Array Value) :
    Meets (Builtin.«enumerate.__new__» ⟨[.type "enumerate", .ref l], []⟩) (fun _ R s => SqAt t s.heap l xs ∧ R (.ok (.ret (.ref (s.heap.push (itO t l)).objs.size))) { s with heap := em2 t s.heap l }) :=
  .of_wp fun prog w A R s hh => by
    obtain ⟨hp, g, d, tk, os⟩ := s
    obtain ⟨q1, fin⟩ := hh
    have hsub := sub_enumerate
    have S1 : SqAt t (Shared.heap ⟨hp, g, d, tk, os⟩) l xs := q1
    wp_walk
    refine wpAny_stack_any fun st => wpAny_pure ?_
    split
    · rename_i c _ _ _ _ _
      cases (c == Value.type "enumerate") <;> (wp_walk using pyIter_seq S1; exact ⟨_, rfl, fin⟩)
    · wp_walk using pyIter_seq S1
      exact ⟨_, rfl, fin⟩
theorem call_em {prog : Program} {w : World} {A : Around} {EE : Value → Shared → Prop} {s : Shared} {t : Bool} {l : Addr} {xs : Array Value} {Q : Value → Shared → Prop} (q1 : SqAt t s.heap l xs)
    (fin : ∀ h', IsEnum h' (s.heap.objs.size + 1) s.heap.objs.size 0 .none → ItAt t h' s.heap.objs.size l 0 → (∀ b o, s.heap.get? b = some o → h'.get? b = some o) → Q (.ref (s.heap.objs.size + 1)) { s with heap := h' }) :
    wpAny (model prog w) A (call (.type "enumerate") [.ref l]) Q EE s := by
  refine callType_new F.called_enumerate (by decide) (F.typeCall_enumerate_1 _) (F.newCall_enumerate_1 _) (fun obj => F.args_object_init_2 obj _) F.entry_enumerate_new (meets_em t l xs) ⟨q1, ?_⟩
  have n1 : (s.heap.push (itO t l)).objs.size = s.heap.objs.size + 1 := Heap.size_push ..
  have a2 : (em2 t s.heap l).get? (s.heap.push (itO t l)).objs.size = some _ := Heap.get?_push_size _ rfl
  have a1 : (em2 t s.heap l).get? s.heap.objs.size = some (itO t l) := Heap.get?_push_of_some _ (Heap.get?_push_size _ rfl)
  rw [n1] at a2
  show _ ∧ _
  rw [n1]
  exact ⟨⟨_, a2, rfl⟩, fin _ a2 (.new a1) fun b o e => Heap.get?_push_of_some _ (Heap.get?_push_of_some _ e)⟩
/-- the sequence at a as it stands at each turn, each item in a new pair -/
def Iem (K : PySem.W.Frag) (t : Bool) (a : Addr) : It :=
  ⟨fun i H => ∃ (xs : List V) (x : V), SqV K t H a xs ∧ xs[i]? = some x, fun i H v H' => ∃ T x, v = .ref T ∧ H T = none ∧ H' = upd H T (.tup [.int (i : Nat), x]) ∧ ∀ xs, SqV K t H a xs → xs[i]? = some x, fun i H => ∃ xs : List V, SqV K t H a xs ∧ xs.length = i⟩
theorem turn_em {P : Program} {w : World} {K : PySem.W.Frag} {elts : List Expr} {kk : Nat} {tpos : Pos} {t : Bool} {a e it : Addr} (nai : a ≠ it) (nae : a ≠ e) :
    Turn P w K (.Tuple elts kk tpos) (Iem K t a) [e, it] e (fun i h => (∃ old, IsEnum h e it ((i : Nat) : Int) old) ∧ ItAt t h it a i ∧ e ≠ it) where
  mem := by simp
  obj := fun i h st b hb => by
    obtain ⟨⟨old, he⟩, hi, _⟩ := st
    simp only [List.mem_cons, List.not_mem_nil, or_false] at hb
    rcases hb with rfl | rfl
    · exact ⟨_, he, fun v q => nomatch q⟩
    · exact hi.obj
  keep := fun i h h' st k => let ⟨⟨old, he⟩, hi, ne⟩ := st; ⟨⟨old, k e (by simp) _ he⟩, hi.at fun o q => k it (by simp) o q, ne⟩
  item := by
    intro X hP hw hK hc i pins s σ H E I hf st hg
    subst hP hw hK
    obtain ⟨⟨old, he⟩, hit, ne⟩ := st
    obtain ⟨xs, x, hq, hx⟩ := hg
    obtain ⟨its, rv, p, _⟩ := sq_at I hq
    obtain ⟨u, hu, ru⟩ := rv.get hx
    have hd : X.A.in1.handled = none := I.ok.hd hc
    have hel : e < s.heap.objs.size := Heap.lt_size he
    have hil : it < s.heap.objs.size := by obtain ⟨_, q, _⟩ := hit.obj; exact Heap.lt_size q
    refine wpAny_pyNext_enum_itemD (drawsB hd t it a nai its.toArray) he ⟨hit, p⟩ (by rw [List.size_toArray]; exact lt_of_get hu) ne (by simp [ne, nae.symm]) fun w1 h' tk e1 ho hs' hT hsz hk => ?_
    have e1' : u = w1 := by
      have : its.toArray[i]? = some u := by simpa using hu
      rw [this] at e1; exact Option.some.inj e1
    subst e1'
    refine ⟨_, rfl, wpAny_letOwnedTupleGo_enum (s := { s with heap := h', toks := tk + 1 }) ho fun h'' he' sb => ?_⟩
    have hT2 : h''.get? s.heap.objs.size = some { cls := .type "tuple", data := .seq #[.int i tk, u] } := (sb.2 _ (Nat.ne_of_gt hel)).trans hT
    have new : ObjOk X.prog X.w (upd H s.heap.objs.size (.tup [.int (i : Nat), x])) h'' s.heap.objs.size (.tup [.int (i : Nat), x]) :=
      ⟨by show 2 ≤ sizeLine; decide, [.int i tk, u], .cons ⟨_, rfl⟩ (.cons ru .nil), ⟨_, hT2, rfl, _, rfl⟩⟩
    have I1 : Inv X pins σ (upd H s.heap.objs.size (.tup [.int (i : Nat), x])) { s with heap := h'', toks := tk + 1 } :=
      I.turnedNew (ch := [e, it]) (fun b o hb q => by
        simp only [List.mem_cons, List.not_mem_nil, or_false, not_or] at hb
        exact (sb.2 b hb.1).trans (hk b o hb.1 hb.2 q)) hf (Nat.le_refl _) new
    refine ⟨.ref s.heap.objs.size, _, I1, rfl, ⟨_, x, rfl, I.hok.fresh (Nat.le_refl _), rfl, fun ys hy => by rw [sq_inj I hy hq]; exact hx⟩, ⟨⟨u, ?_⟩, hs'.1.at fun o q => (sb.2 it (Ne.symm ne)).trans q, ne⟩, fun b hb => ?_⟩
    · have q : ((i + 1 : Nat) : Int) = (i : Int) + 1 := by omega
      rw [q]; exact he'
    · have lt : b < s.heap.objs.size := by
        simp only [List.mem_cons, List.not_mem_nil, or_false] at hb
        rcases hb with rfl | rfl
        · exact hel
        · exact hil
      rw [upd_ne (Nat.ne_of_lt lt)]
      exact (hf b hb).1
  done := by
    intro X hP hw hK hc i pins s σ H E I hf st hg
    subst hP hw hK
    obtain ⟨⟨old, he⟩, hit, ne⟩ := st
    obtain ⟨xs, hq, hx⟩ := hg
    obtain ⟨its, rv, p, _⟩ := sq_at I hq
    have n1 := rv.length
    have hd : X.A.in1.handled = none := I.ok.hd hc
    obtain ⟨f0, f1, f2, f3, f4, f5⟩ := hf it (by simp)
    have ei : i = its.toArray.size := by simp; omega
    subst ei
    exact wpAny_pyNext_enum_endD (drawsB hd t it a nai its.toArray) he ⟨hit, p⟩ fun h' eb => ⟨rfl, I.turned (t' := s.toks) (fun b o hb q => eb b o hb q) f0 f1 f3 f4 f5⟩
  self := fun A i s Q E st h => let ⟨⟨_, he⟩, _⟩ := st; wpAny_pyIter_enum he h
def iEm (K : PySem.W.Frag) (ta : TA) : TI := fun σ H R => ta σ H fun vs H1 => ∃ t a xs, vs = [.ref a] ∧ SqV K t H1 a xs ∧ R (Iem K t a) H1
theorem pi_em {X : Cx} {e : Expr} {ta : TA} {p pos tpos : Pos} {elts : List Expr} {kk : Nat} (hg : Gl X "enumerate") (hm : X.mg "enumerate" = none) (ha : PA X [e] ta) (hs : starEach [e] X.env = (false, eval e X.env) :: starEach [] X.env) :
    PI X (.Tuple elts kk tpos) (.Call (.Name "enumerate" p) [e] [] pos) (iEm X.K ta) := by
  refine ⟨fun pins s σ H R I hh => ?_⟩
  refine Call_ (ld_blt I hg hm PyProof.Rows.boot_enumerate (PyProof.Rows.callWith_type1 (thn (ha.run pos pins s σ H _ I hh) fun us s1 ⟨vs, H1, I1, r1, t, a, xs, ex, hq, q⟩ => ?_) hs rfl))
  subst ex
  obtain ⟨u1, eu, r2⟩ := vals1 r1
  obtain rfl : u1 = Value.ref a := r2
  subst eu
  obtain ⟨its, rv, p1, lt1⟩ := sq_at I1 hq
  refine call_em p1 fun h' he hit hk => wpAny_pyIter_enum he ?_
  have I2 : Inv X pins σ H1 { s1 with heap := h' } := I1.kept (t' := s1.toks) hk
  refine ⟨s1.heap.objs.size + 1, [s1.heap.objs.size + 1, s1.heap.objs.size], _, _, H1, rfl, I2, turn_em (Nat.ne_of_lt lt1) (Nat.ne_of_lt (Nat.lt_succ_of_lt lt1)), ⟨⟨.none, he⟩, hit, Nat.succ_ne_self _⟩, fun b hb => ?_, q⟩
  have le : s1.heap.objs.size ≤ b := by
    simp only [List.mem_cons, List.not_mem_nil, or_false] at hb
    rcases hb with z | z <;> rw [z] <;> first | exact Nat.le_refl _ | exact Nat.le_add_right _ _
  exact I1.fpOk le (I1.hok.fresh le)
end PIS

/-! What a for walks. -/
namespace PIS
open PySem PySem.Spec PyProof.Rows L2
open PI (Val Ob LH R E S CallT RS)
mutual
theorem vsame_eq : ∀ (a b : Val), PI.vsame a b = true → a = b
  | .non, b, h => by cases b <;> simp [PI.vsame] at h ⊢
  | .bl x, b, h => by cases b <;> simp [PI.vsame] at h ⊢; exact h
  | .int x, b, h => by cases b <;> simp [PI.vsame] at h ⊢; exact h
  | .str x, b, h => by cases b <;> simp [PI.vsame] at h ⊢; exact h
  | .tup x, b, h => by cases b <;> simp [PI.vsame] at h ⊢; exact vsames_eq _ _ h
  | .ftup x, b, h => by cases b <;> simp [PI.vsame] at h ⊢; exact vsames_eq _ _ h
  | .lst x, b, h => by cases b <;> simp [PI.vsame] at h ⊢; exact vsames_eq _ _ h
  | .dct t x y, b, h => by cases b <;> simp [PI.vsame] at h ⊢; exact ⟨h.1.1, vsames_eq _ _ h.1.2, vsames_eq _ _ h.2⟩
  | .ref x, b, h => by cases b <;> simp [PI.vsame] at h ⊢; exact h
  | .fn x, b, h => by cases b <;> simp [PI.vsame] at h ⊢; exact h
  | .exc x, b, h => by cases b <;> simp [PI.vsame] at h ⊢; exact h
theorem vsames_eq : ∀ (a b : List Val), PI.vsames a b = true → a = b
  | [], b, h => by cases b <;> simp [PI.vsames] at h ⊢
  | x :: xs, b, h => by
    cases b <;> simp [PI.vsames] at h ⊢
    exact ⟨vsame_eq _ _ h.1, vsames_eq _ _ h.2⟩
end
/-- a sequence that a loop walks, as long as it stays -/
structure Src (Z : Addr → Prop) (K : PySem.W.Frag) (w xs : List Val) (t : Bool) (a : Addr) (μ0 : Mu) (H0 : L2.Hp) : Prop where
  at_ : ∀ Z' μ h H, ZNew Z Z' H0 → Ext μ0 H0 μ H → RelH Z' μ h H → PI.stays w h = true → ∃ vs, SqV K t H a vs ∧ Reps Z' μ H xs vs
/-- an iterator that gives the items -/
structure Feed (Z : Addr → Prop) (J : It) (w items : List Val) (μ0 : Mu) (H0 : L2.Hp) : Prop where
  go : ∀ Z' i μ h H v, ZNew Z Z' H0 → Ext μ0 H0 μ H → RelH Z' μ h H → PI.stays w h = true → items[i]? = some v → J.go i H ∧ ∀ x H', J.yld i H x H' → RelH Z' μ h H' ∧ Ext μ H μ H' ∧ Rep Z' μ H' v x
  stop : ∀ Z' μ h H, ZNew Z Z' H0 → Ext μ0 H0 μ H → RelH Z' μ h H → PI.stays w h = true → J.stop items.length H
section
variable {Z : Addr → Prop} {K : PySem.W.Frag} {μ : Mu} {h : LH} {H : L2.Hp}
theorem stays_app {w w' : List Val} {h : LH} (q : PI.stays (w ++ w') h = true) : PI.stays w h = true ∧ PI.stays w' h = true := by
  unfold PI.stays at q ⊢
  rw [List.all_append, Bool.and_eq_true] at q
  exact q
theorem src_of {v : Val} {x : V} {xs : List Val} (R0 : RelH Z μ h H) (r : Rep Z μ H v x) (e : PI.asSeq h v = some xs) : ∃ a t, x = .ref a ∧ Src Z K (PI.srcOf v xs) xs t a μ H ∧ ((t = true ∧ ∃ ys, v = .tup ys) ∨ (t = true ∧ ∃ ys, v = .ftup ys) ∨ (t = false ∧ ∃ ys, v = .lst ys) ∨ (t = false ∧ ∃ l, v = .ref l)) := by
  cases v with
  | tup ys =>
    simp only [PI.asSeq, Option.some.injEq] at e
    subst e
    have r0 := r
    simp only [Rep] at r
    obtain ⟨p, vs, rfl, fz, hp, rr⟩ := r
    refine ⟨p, true, rfl, ⟨fun Z' μ' h' H' hZ E' _ _ => ⟨vs, .inl (.inl (E'.frame _ _ hp fz.1)), Reps.extZ E' hZ rr⟩⟩, .inl ⟨rfl, _, rfl⟩⟩
  | ftup ys =>
    simp only [PI.asSeq, Option.some.injEq] at e
    subst e
    simp only [Rep] at r
    obtain ⟨p, o, vs, rfl, fz, hp, _, rr⟩ := r
    refine ⟨p, true, rfl, ⟨fun Z' μ' h' H' hZ E' _ _ => ⟨vs, .inl (.inr ⟨o, E'.frame _ _ hp fz.1⟩), Reps.extZ E' hZ rr⟩⟩, .inr (.inl ⟨rfl, _, rfl⟩)⟩
  | lst ys =>
    simp only [PI.asSeq, Option.some.injEq] at e
    subst e
    simp only [Rep] at r
    obtain ⟨p, vs, rfl, fz, hp, rr⟩ := r
    exact ⟨p, false, rfl, ⟨fun Z' μ' h' H' hZ E' _ _ => ⟨vs, .inl (E'.rd hp fz).1, Reps.extZ E' hZ rr⟩⟩, .inr (.inr (.inl ⟨rfl, _, rfl⟩))⟩
  | ref l =>
    simp only [PI.asSeq] at e
    split at e
    · rename_i ys hl
      cases e
      obtain ⟨p, vs, rfl, hm, hp, rr⟩ := refL R0 r hl
      refine ⟨p, false, rfl, ⟨fun Z' μ' h' H' hZ E' R' st => ?_⟩, .inr (.inr (.inr ⟨rfl, _, rfl⟩))⟩
      simp only [PI.srcOf, PI.stays, List.all_cons, List.all_nil, Bool.and_true] at st
      split at st
      · rename_i zs hz
        have := vsames_eq _ _ st
        subst this
        have hl' : l < μ.length := lt_of_get hm
        have hlm : l < μ'.length := Nat.lt_of_lt_of_le hl' E'.len
        cases hm' : μ'[l] with
        | none =>
          have := R'.dead l (by rw [List.getElem?_eq_getElem hlm, hm'])
          rw [hz] at this; cases this
        | some a' =>
          have e1 : μ'[l]? = some (some a') := by rw [List.getElem?_eq_getElem hlm, hm']
          have e2 := E'.old l a' hl' e1
          rw [hm] at e2; cases e2
          obtain ⟨o, ho, q⟩ := R'.at_ l p e1
          rw [hz] at ho; cases ho
          obtain ⟨vs', q1, q2⟩ := q
          exact ⟨vs', .inl (.inl q1), q2⟩
      · cases st
    · cases e
  | _ => simp [PI.asSeq] at e
mutual
theorem vsame_refl : ∀ a : Val, PI.vsame a a = true
  | .non => rfl
  | .bl x => by simp [PI.vsame]
  | .int x => by simp [PI.vsame]
  | .str x => by simp [PI.vsame]
  | .tup x => by simp only [PI.vsame]; exact vsames_refl x
  | .ftup x => by simp only [PI.vsame]; exact vsames_refl x
  | .lst x => by simp only [PI.vsame]; exact vsames_refl x
  | .dct t x y => by simp only [PI.vsame, vsames_refl x, vsames_refl y]; simp
  | .ref x => by simp [PI.vsame]
  | .fn x => by simp [PI.vsame]
  | .exc x => by simp [PI.vsame]
theorem vsames_refl : ∀ a : List Val, PI.vsames a a = true
  | [] => rfl
  | x :: xs => by simp only [PI.vsames, vsame_refl x, vsames_refl xs]; rfl
end
theorem src_stays {v : Val} {xs : List Val} {h : LH} (e : PI.asSeq h v = some xs) : PI.stays (PI.srcOf v xs) h = true := by
  cases v with
  | ref l =>
    simp only [PI.asSeq] at e
    split at e
    · rename_i ys hl
      cases e
      simp only [PI.srcOf, PI.stays, List.all_cons, List.all_nil, hl, Bool.and_true]
      exact vsames_refl _
    · cases e
  | _ => rfl
theorem feed_list {w xs : List Val} {a : Addr} (S : Src Z K w xs false a μ H) : Feed Z (Itl K a) w xs μ H where
  go := fun Z' i μ' h' H' v hZ E' R' st e => by
    obtain ⟨vs, q, rr⟩ := S.at_ Z' μ' h' H' hZ E' R' st
    obtain ⟨x, hx, rx⟩ := rr.get e
    refine ⟨⟨vs, x, q, hx⟩, fun y H2 hy => ?_⟩
    obtain ⟨rfl, hy⟩ := hy
    have := hy vs q
    rw [hx] at this; cases this
    exact ⟨R', Ext.refl _ _, rx⟩
  stop := fun Z' μ' h' H' hZ E' R' st => by
    obtain ⟨vs, q, rr⟩ := S.at_ Z' μ' h' H' hZ E' R' st
    exact ⟨vs, q, by rw [rr.length]; exact Nat.le_refl _⟩
theorem feed_tup {w xs : List Val} {a : Addr} (S : Src Z K w xs true a μ H) : Feed Z (Itt K a) w xs μ H where
  go := fun Z' i μ' h' H' v hZ E' R' st e => by
    obtain ⟨vs, q, rr⟩ := S.at_ Z' μ' h' H' hZ E' R' st
    obtain ⟨x, hx, rx⟩ := rr.get e
    refine ⟨⟨vs, x, q, hx⟩, fun y H2 hy => ?_⟩
    obtain ⟨rfl, hy⟩ := hy
    have := hy vs q
    rw [hx] at this; cases this
    exact ⟨R', Ext.refl _ _, rx⟩
  stop := fun Z' μ' h' H' hZ E' R' st => by
    obtain ⟨vs, q, rr⟩ := S.at_ Z' μ' h' H' hZ E' R' st
    exact ⟨vs, q, by rw [rr.length]; exact Nat.le_refl _⟩
theorem rangeV_len (lo hi : Int) : (PI.rangeV lo hi).length = (hi - lo).toNat := by unfold PI.rangeV; simp
theorem feed_range {lo hi : Int} : Feed Z (Itr lo (hi - lo).toNat) [] (PI.rangeV lo hi) μ H where
  go := fun Z' i μ' h' H' v hZ E' R' st e => by
    have hl := lt_of_get e
    rw [rangeV_len] at hl
    refine ⟨hl, fun y H2 hy => ?_⟩
    obtain ⟨rfl, rfl⟩ := hy
    unfold PI.rangeV at e
    rw [List.getElem?_map, List.getElem?_range hl] at e
    cases e
    exact ⟨R', Ext.refl _ _, rep_int.mpr rfl⟩
  stop := fun Z' μ' h' H' hZ E' R' st => by
    show (hi - lo).toNat ≤ _
    rw [rangeV_len]; exact Nat.le_refl _
theorem enumV_get : ∀ (xs : List Val) (n i : Nat) (v : Val), (PI.enumV n xs)[i]? = some v → ∃ x, xs[i]? = some x ∧ v = .tup [.int ((n + i : Nat) : Int), x]
  | [], n, i, v, e => by simp [PI.enumV] at e
  | y :: ys, n, i, v, e => by
    cases i with
    | zero => simp [PI.enumV] at e; exact ⟨y, rfl, by rw [← e]; rfl⟩
    | succ i =>
      simp only [PI.enumV, List.getElem?_cons_succ] at e
      obtain ⟨x, h1, h2⟩ := enumV_get ys (n + 1) i v e
      exact ⟨x, by simpa using h1, by rw [h2]; congr 4; omega⟩
theorem enumV_len : ∀ (xs : List Val) (n : Nat), (PI.enumV n xs).length = xs.length
  | [], _ => rfl
  | _ :: ys, n => by simp only [PI.enumV, List.length_cons, enumV_len ys]
theorem feed_enum {w xs : List Val} {t : Bool} {a : Addr} (S : Src Z K w xs t a μ H) : Feed Z (Iem K t a) w (PI.enumV 0 xs) μ H where
  go := fun Z' i μ' h' H' v hZ E' R' st e => by
    obtain ⟨x, e1, rfl⟩ := enumV_get xs 0 i v e
    obtain ⟨vs, q, rr⟩ := S.at_ Z' μ' h' H' hZ E' R' st
    obtain ⟨y, hy, ry⟩ := rr.get e1
    refine ⟨⟨vs, y, q, hy⟩, fun z H2 hz => ?_⟩
    obtain ⟨p, y', rfl, n, rfl, hz⟩ := hz
    have := hz vs q
    rw [hy] at this; cases this
    refine ⟨R'.fresh n, ext_upd n, ?_⟩
    rw [Nat.zero_add]
    exact rep_tup R' n (.cons (rep_int.mpr rfl) (.cons ry .nil))
  stop := fun Z' μ' h' H' hZ E' R' st => by
    obtain ⟨vs, q, rr⟩ := S.at_ Z' μ' h' H' hZ E' R' st
    exact ⟨vs, q, by rw [enumV_len, rr.length]⟩
theorem zipV_get : ∀ (xs ys : List Val) (i : Nat) (v : Val), (PI.zipV xs ys)[i]? = some v → ∃ x y, xs[i]? = some x ∧ ys[i]? = some y ∧ v = .tup [x, y]
  | [], _, i, v, e => by simp [PI.zipV] at e
  | _ :: _, [], i, v, e => by simp [PI.zipV] at e
  | x :: xs, y :: ys, i, v, e => by
    cases i with
    | zero => simp [PI.zipV] at e; exact ⟨x, y, rfl, rfl, e.symm⟩
    | succ i =>
      simp only [PI.zipV, List.getElem?_cons_succ] at e
      simpa using zipV_get xs ys i v e
theorem zipV_len : ∀ (xs ys : List Val), (PI.zipV xs ys).length = min xs.length ys.length
  | [], _ => by simp [PI.zipV]
  | _ :: _, [] => by simp [PI.zipV]
  | x :: xs, y :: ys => by simp only [PI.zipV, List.length_cons, zipV_len xs ys]; omega
theorem feed_zip {w w' xs ys : List Val} {t t' : Bool} {a b : Addr} (S : Src Z K w xs t a μ H) (S' : Src Z K w' ys t' b μ H) : Feed Z (Itm K t a t' b) (w ++ w') (PI.zipV xs ys) μ H where
  go := fun Z' i μ' h' H' v hZ E' R' st e => by
    obtain ⟨x, y, e1, e2, rfl⟩ := zipV_get xs ys i v e
    obtain ⟨vs, q, rr⟩ := S.at_ Z' μ' h' H' hZ E' R' (stays_app st).1
    obtain ⟨vs', q', rr'⟩ := S'.at_ Z' μ' h' H' hZ E' R' (stays_app st).2
    obtain ⟨u, hu, ru⟩ := rr.get e1
    obtain ⟨u', hu', ru'⟩ := rr'.get e2
    refine ⟨⟨vs, vs', u, u', q, q', hu, hu'⟩, fun z H2 hz => ?_⟩
    obtain ⟨p, y1, y2, rfl, n, rfl, hz, hz'⟩ := hz
    have := hz vs q
    rw [hu] at this; cases this
    have := hz' vs' q'
    rw [hu'] at this; cases this
    exact ⟨R'.fresh n, ext_upd n, rep_tup R' n (.cons ru (.cons ru' .nil))⟩
  stop := fun Z' μ' h' H' hZ E' R' st => by
    obtain ⟨vs, q, rr⟩ := S.at_ Z' μ' h' H' hZ E' R' (stays_app st).1
    obtain ⟨vs', q', rr'⟩ := S'.at_ Z' μ' h' H' hZ E' R' (stays_app st).2
    have := rr.length
    have := rr'.length
    refine ⟨vs, vs', q, q', ?_, ?_, ?_⟩ <;> rw [zipV_len] <;> omega
end
/-- what a for walks, by the interpreter -/
def GoI (Z : Addr → Prop) (μ : Mu) (H : L2.Hp) (EX : Nat → L2.Hp → Prop) (K : List Val → List Val → LH → Mu → It → L2.Hp → Prop) : R Val → Prop
  | .ok w h' => match w with
    | .dct _ src items => ∀ J H' μ', RelH Z μ' h' H' → Ext μ H μ' H' → Feed Z J src items μ' H' → K src items h' μ' J H'
    | _ => False
  | .exc c h' => ∀ H' μ', RelH Z μ' h' H' → Ext μ H μ' H' → EX c H'
  | .err => False
section
variable {Z : Addr → Prop} {μ μ1 : Mu} {H H1 : L2.Hp} {EX : Nat → L2.Hp → Prop} {KI KI' : List Val → List Val → LH → Mu → It → L2.Hp → Prop} {r : R Val}
theorem GoI.shift (E : Ext μ H μ1 H1) (g : GoI Z μ H EX KI r) : GoI Z μ1 H1 EX KI r := by
  cases r with
  | ok w h' =>
    cases w with
    | dct t a b => exact fun J H' μ' R' E' F => g J H' μ' R' (E.trans E') F
    | _ => exact g
  | exc c h' => exact fun H' μ' R' E' => g H' μ' R' (E.trans E')
  | err => exact g
theorem GoI.bind {f : Val → LH → R Val} (g : GoI Z μ H EX KI (r.bind f)) : Go Z μ H EX (fun v h1 μ1 x H1 => GoI Z μ1 H1 EX KI (f v h1)) r := by
  cases r with
  | ok v h' => exact fun x H' μ' _ E' _ => GoI.shift E' g
  | exc c h' => exact g
  | err => exact g
theorem GoI.mono (g : GoI Z μ H EX KI r) (f : ∀ src items h' μ' J H', RelH Z μ' h' H' → Ext μ H μ' H' → Feed Z J src items μ' H' → KI src items h' μ' J H' → KI' src items h' μ' J H') : GoI Z μ H EX KI' r := by
  cases r with
  | ok w h' =>
    cases w with
    | dct t a b => exact fun J H' μ' R' E' F => f _ _ _ _ _ _ R' E' F (g J H' μ' R' E' F)
    | _ => exact g
  | exc c h' => exact g
  | err => exact g
end
section
variable {T : Tab} {C : CallT} {G : Nat → Val} {ca : Nat → Addr} {k : Nat} {sc : Scope} {X : Cx} {W : WX}
def tI (C : CallT) (G : Nat → Val) (ca : Nat → Addr) (W : WX) (it : E) : TI := fun σV H Rn => ∃ Z σ h μ, RelS Z μ H σ σV ∧ RelH Z μ h H ∧ GoI Z μ H (fun c H' => W (.ref (ca c)) none σV H') (fun _ _ _ _ J H' => Rn J H') (PI.ev C G it σ h)
theorem piImp {tg x : Expr} {t t' : TI} (h : L2.PI X tg x t) (f : ∀ σ H Q, t' σ H Q → t σ H Q) : L2.PI X tg x t' := ⟨fun pins s σ H Rn I q => h.run pins s σ H Rn I (f _ _ _ q)⟩
theorem piOr {tg x : Expr} {t t' : TI} (h : L2.PI X tg x t) (h' : L2.PI X tg x t') : L2.PI X tg x (fun σ H Q => t σ H Q ∨ t' σ H Q) := ⟨fun pins s σ H Rn I q => q.elim (h.run pins s σ H Rn I) (h'.run pins s σ H Rn I)⟩
theorem ok_iSeq {a : E} {x tg : Expr} (ha : PE X x (tE C G ca W a)) : L2.PI X tg x (tI C G ca W (.iSeq a)) := by
  refine piImp (piOr (pi_list ha) (pi_tup ha)) fun σV H Rn ⟨Z, σ, h, μ, rs, rh, g⟩ => ?_
  simp only [PI.ev] at g
  cases hv : PI.ev C G a σ h with
  | err => rw [hv] at g; exact g.elim
  | exc c h1 => rw [hv] at g; exact .inl ⟨Z, σ, h, μ, rs, rh, by rw [hv]; exact g⟩
  | ok v h1 =>
    rw [hv] at g
    simp only [PI.R.bind] at g
    cases hx : PI.asSeq h1 v with
    | none => rw [hx] at g; exact g.elim
    | some xs =>
      rw [hx] at g
      have g' : ∀ J H' μ', RelH Z μ' h1 H' → Ext μ H μ' H' → Feed Z J (PI.srcOf v xs) xs μ' H' → Rn J H' := g
      by_cases ht : (∃ ys, v = .tup ys) ∨ ∃ ys, v = .ftup ys
      · refine .inr ⟨Z, σ, h, μ, rs, rh, ?_⟩
        rw [hv]
        intro y H1 μ1 R1 E1 ry
        obtain ⟨p, t, rfl, S, q⟩ := src_of (K := X.K) R1 ry hx
        have t1 : t = true := by
          rcases q with q | q | q | q
          · exact q.1
          · exact q.1
          · obtain ⟨_, ys, rfl⟩ := q
            rcases ht with ⟨_, e⟩ | ⟨_, e⟩ <;> cases e
          · obtain ⟨_, ys, rfl⟩ := q
            rcases ht with ⟨_, e⟩ | ⟨_, e⟩ <;> cases e
        subst t1
        have st : PI.stays (PI.srcOf v xs) h1 = true := by rcases ht with ⟨ys, rfl⟩ | ⟨ys, rfl⟩ <;> rfl
        obtain ⟨vs, hq, _⟩ := S.at_ Z μ1 h1 H1 ZNew.refl (Ext.refl _ _) R1 st
        exact ⟨p, rfl, ⟨vs, hq⟩, g' _ H1 μ1 R1 E1 (feed_tup S)⟩
      · refine .inl ⟨Z, σ, h, μ, rs, rh, ?_⟩
        rw [hv]
        intro y H1 μ1 R1 E1 ry
        obtain ⟨p, t, rfl, S, q⟩ := src_of (K := X.K) R1 ry hx
        obtain ⟨p', vs, e', hq, _⟩ := asSeq_rd R1 ry hx
        cases e'
        have t1 : t = false := by
          rcases q with q | q | q | q
          · exact absurd (.inl q.2) ht
          · exact absurd (.inr q.2) ht
          · exact q.1
          · exact q.1
        subst t1
        refine ⟨p, rfl, ?_, g' _ H1 μ1 R1 E1 (feed_list S)⟩
        rcases q with q | q | ⟨_, ys, rfl⟩ | ⟨_, l, rfl⟩
        · cases q.1
        · cases q.1
        · simp only [Rep] at ry
          obtain ⟨p', vs, e', _, hp, _⟩ := ry
          cases e'
          exact ⟨vs, .inl hp⟩
        · simp only [PI.asSeq] at hx
          split at hx
          · rename_i ys hl
            obtain ⟨p', vs, e', _, hp, _⟩ := refL R1 ry hl
            cases e'
            exact ⟨vs, .inl (.inl hp)⟩
          · cases hx
theorem rgB {lo hi : Int} (ok : PI.rangeOk lo hi = true) : -(2 ^ 62) ≤ lo ∧ lo < 2 ^ 62 ∧ -(2 ^ 62) ≤ hi ∧ hi < 2 ^ 62 := by
  obtain ⟨a, b, c, d, _⟩ := rgOk_of ok
  exact ⟨a, b, c, d⟩
theorem ok_iRange1 (κ : Ctx T C ca k sc X W) {a : E} {x tg : Expr} {n : Str} {p pos : Pos} (hn : n = "range") (hg : gloB sc n = true) (ha : PE X x (tE C G ca W a)) (ns : noStar x = true) : L2.PI X tg (.Call (.Name n p) [x] [] pos) (tI C G ca W (.iRange1 a)) := by
  subst hn
  refine piImp (pi_range1 (κ.glo hg).1 (κ.no (by decide)) (pa_cons ha pa_nil (star1 ns)) (star1 ns)) fun σV H Rn ⟨Z, σ, h, μ, rs, rh, g⟩ => ?_
  simp only [PI.ev] at g
  refine ⟨Z, σ, h, μ, rs, rh, (GoI.bind g).mono fun v h1 μ1 x H1 R1 E1 rx g1 => ?_⟩
  cases v <;> first | exact g1.elim | skip
  rename_i j
  by_cases ok : PI.rangeOk 0 j = true
  · simp only [ok, if_true] at g1
    obtain ⟨_, _, q1, q2⟩ := rgB ok
    have F := feed_range (Z := Z) (μ := μ1) (H := H1) (lo := 0) (hi := j)
    rw [Int.sub_zero] at F
    exact ⟨j, by rw [rep_int.mp rx], q1, q2, g1 _ H1 μ1 R1 (Ext.refl _ _) F⟩
  · simp only [ok] at g1; exact g1.elim
theorem ok_iRange2 (κ : Ctx T C ca k sc X W) {a b : E} {x y tg : Expr} {n : Str} {p pos : Pos} (hn : n = "range") (hg : gloB sc n = true) (ha : PE X x (tE C G ca W a)) (ns : noStar x = true) (hb : PE X y (tE C G ca W b)) (ns2 : noStar y = true) :
    L2.PI X tg (.Call (.Name n p) [x, y] [] pos) (tI C G ca W (.iRange2 a b)) := by
  subst hn
  refine piImp (pi_range2 (κ.glo hg).1 (κ.no (by decide)) (pa_cons ha (pa_cons hb pa_nil (star1 ns2)) (star_cons ns)) (by rw [star_cons ns, star1 ns2]; rfl) (star1 ns2)) fun σV H Rn ⟨Z, σ, h, μ, rs, rh, g⟩ => ?_
  simp only [PI.ev] at g
  refine ⟨Z, σ, h, μ, rs, rh, (GoI.bind g).mono fun v h1 μ1 x H1 R1 E1 rx g1 => ?_⟩
  refine ⟨Z, σ, h1, μ1, rs.ext E1, R1, (GoI.bind g1).mono fun v2 h2 μ2 x2 H2 R2 E2 rx2 g2 => ?_⟩
  cases v <;> first | exact g2.elim | skip
  cases v2 <;> first | exact g2.elim | skip
  rename_i i j
  by_cases ok : PI.rangeOk i j = true
  · simp only [ok, if_true] at g2
    exact ⟨i, j, by rw [rep_int.mp rx, rep_int.mp rx2], rgB ok, g2 _ H2 μ2 R2 (Ext.refl _ _) feed_range⟩
  · simp only [ok] at g2; exact g2.elim
theorem ok_iEnum (κ : Ctx T C ca k sc X W) {a : E} {x : Expr} {n : Str} {p pos tpos : Pos} {elts : List Expr} {kk : Nat} (hn : n = "enumerate") (hg : gloB sc n = true) (ha : PE X x (tE C G ca W a)) (ns : noStar x = true) :
    L2.PI X (.Tuple elts kk tpos) (.Call (.Name n p) [x] [] pos) (tI C G ca W (.iEnum a)) := by
  subst hn
  refine piImp (pi_em (κ.glo hg).1 (κ.no (by decide)) (pa_cons ha pa_nil (star1 ns)) (star1 ns)) fun σV H Rn ⟨Z, σ, h, μ, rs, rh, g⟩ => ?_
  simp only [PI.ev] at g
  refine ⟨Z, σ, h, μ, rs, rh, (GoI.bind g).mono fun v h1 μ1 x H1 R1 E1 rx g1 => ?_⟩
  split at g1
  · rename_i xs hx
    obtain ⟨q, t, rfl, S, _⟩ := src_of (K := X.K) R1 rx hx
    have st : PI.stays (PI.srcOf v xs) h1 = true := src_stays hx
    obtain ⟨vs, hq, _⟩ := S.at_ Z μ1 h1 H1 ZNew.refl (Ext.refl _ _) R1 st
    exact ⟨t, q, vs, rfl, hq, g1 _ H1 μ1 R1 (Ext.refl _ _) (feed_enum S)⟩
  · exact g1.elim
theorem ok_iZip (κ : Ctx T C ca k sc X W) {a b : E} {x y : Expr} {n : Str} {p pos tpos : Pos} {elts : List Expr} {kk : Nat} (hn : n = "zip") (hg : gloB sc n = true) (ha : PE X x (tE C G ca W a)) (ns : noStar x = true) (hb : PE X y (tE C G ca W b)) (ns2 : noStar y = true) :
    L2.PI X (.Tuple elts kk tpos) (.Call (.Name n p) [x, y] [] pos) (tI C G ca W (.iZip a b)) := by
  subst hn
  refine piImp (pi_zm (κ.glo hg).1 (κ.no (by decide)) (pa_cons ha (pa_cons hb pa_nil (star1 ns2)) (star_cons ns)) (star_cons ns) (star_none (es := [y]) (by simp [ns2]))) fun σV H Rn ⟨Z, σ, h, μ, rs, rh, g⟩ => ?_
  simp only [PI.ev] at g
  refine ⟨Z, σ, h, μ, rs, rh, (GoI.bind g).mono fun v h1 μ1 x H1 R1 E1 rx g1 => ?_⟩
  refine ⟨Z, σ, h1, μ1, rs.ext E1, R1, (GoI.bind g1).mono fun v2 h2 μ2 x2 H2 R2 E2 rx2 g2 => ?_⟩
  split at g2
  · rename_i xs ys hx hy
    obtain ⟨q, t, rfl, S, _⟩ := src_of (K := X.K) R2 (Rep.ext E2 _ _ rx) hx
    obtain ⟨q', t', rfl, S', _⟩ := src_of (K := X.K) R2 rx2 hy
    obtain ⟨vs, hq, _⟩ := S.at_ Z μ2 h2 H2 ZNew.refl (Ext.refl _ _) R2 (src_stays hx)
    obtain ⟨vs', hq', _⟩ := S'.at_ Z μ2 h2 H2 ZNew.refl (Ext.refl _ _) R2 (src_stays hy)
    exact ⟨t, t', q, q', vs, vs', rfl, hq, hq', g2 _ H2 μ2 R2 (Ext.refl _ _) (feed_zip S S')⟩
  · exact g2.elim
/-! ### a frozen dict's keys -/
theorem rep_key {Z : Addr → Prop} {μ : Mu} {H : L2.Hp} (k0 : Key) : Rep Z μ H (keyV k0) (kV k0) := by
  cases k0 with
  | inl i => exact rep_int.mpr rfl
  | inr s => exact rep_str.mpr (by simp [keyV, kV])
theorem reps_keys {Z : Addr → Prop} {μ : Mu} {H : L2.Hp} : ∀ ks : List Key, Reps Z μ H (ks.map keyV) (ks.map kV)
  | [] => .nil
  | k0 :: ks => .cons (rep_key k0) (reps_keys ks)
theorem notLive_tup {Z : Addr → Prop} {μ : Mu} {h : LH} {H : L2.Hp} (r : RelH Z μ h H) {q : Addr} {vs : List V} (e : H q = some (.tup vs)) : Fz Z μ q :=
  ⟨fun la => by obtain ⟨o, e1, n⟩ := r.thereN la; rw [e] at e1; cases e1; exact n _ rfl, fun z => by obtain ⟨o, e1, n⟩ := r.kept q z; rw [e] at e1; cases e1; exact n _ rfl⟩
theorem feed_keysK {Z : Addr → Prop} {μ : Mu} {H : L2.Hp} {ks : List Val} {p : Addr} {o : Obj} {kvs : List (Key × V)} (fz : Fz Z μ p) (hp : H p = some (.frz o (.dK kvs))) (hk : KeysK ks kvs) : Feed Z (Itk p o kvs) [] ks μ H where
  go := fun Z' i μ' h' H' v hZ E' R' st e => by
    unfold KeysK at hk
    subst hk
    rw [List.getElem?_map] at e
    simp only [Option.map_eq_some_iff] at e
    obtain ⟨kv, e1, rfl⟩ := e
    refine ⟨⟨E'.frame _ _ hp fz.1, lt_of_get e1⟩, fun y H2 hy => ?_⟩
    obtain ⟨rfl, k1, v1, e2, rfl⟩ := hy
    rw [e1] at e2; cases e2
    exact ⟨R', Ext.refl _ _, rep_key _⟩
  stop := fun Z' μ' h' H' hZ E' R' st => ⟨E'.frame _ _ hp fz.1, by unfold KeysK at hk; subst hk; simp⟩
theorem feed_keysT {Z : Addr → Prop} {μ : Mu} {H : L2.Hp} {ks : List Val} {p : Addr} {o : Obj} {kvs : List (List Key × V)} (fz : Fz Z μ p) (hp : H p = some (.frz o (.dT kvs))) (hk : KeysT ks kvs) : Feed Z (Itkt p o kvs) [] ks μ H where
  go := fun Z' i μ' h' H' v hZ E' R' st e => by
    unfold KeysT at hk
    subst hk
    rw [List.getElem?_map] at e
    simp only [Option.map_eq_some_iff] at e
    obtain ⟨kv, e1, rfl⟩ := e
    refine ⟨⟨E'.frame _ _ hp fz.1, lt_of_get e1⟩, fun y H2 hy => ?_⟩
    obtain ⟨rfl, k1, v1, q, e2, rfl, hq⟩ := hy
    rw [e1] at e2; cases e2
    refine ⟨R', Ext.refl _ _, ?_⟩
    simp only [Rep]
    exact ⟨q, _, rfl, notLive_tup R' hq, hq, reps_keys _⟩
  stop := fun Z' μ' h' H' hZ E' R' st => ⟨E'.frame _ _ hp fz.1, by unfold KeysT at hk; subst hk; simp⟩
theorem ok_iKeys {a : E} {x tg : Expr} (ha : PE X x (tE C G ca W a)) : L2.PI X tg x (tI C G ca W (.iKeys a)) := by
  refine piImp (pi_keys ha) fun σV H Rn ⟨Z, σ, h, μ, rs, rh, g⟩ => ?_
  simp only [PI.ev] at g
  refine ⟨Z, σ, h, μ, rs, rh, (GoI.bind g).mono fun v h1 μ1 y H1 R1 E1 ry g1 => ?_⟩
  cases v <;> first | exact g1.elim | skip
  rename_i t ks vs
  simp only [Rep] at ry
  obtain ⟨p, rfl, fz, q⟩ := ry
  rcases q with ⟨_, o, kvs, hp, hk, _⟩ | ⟨_, o, kvs, hp, hk, _⟩
  · exact ⟨p, o, rfl, .inl ⟨kvs, hp, g1 _ H1 μ1 R1 (Ext.refl _ _) (feed_keysK fz hp hk)⟩⟩
  · exact ⟨p, o, rfl, .inr ⟨kvs, hp, g1 _ H1 μ1 R1 (Ext.refl _ _) (feed_keysT fz hp hk)⟩⟩
end
end PIS

/-! Comprehensions. -/
namespace PIS
open PySem PySem.Spec PyProof.Rows L2
open PI (Val Ob LH R E S CallT RS)
/-- nothing is raised -/
abbrev W0 : WX := fun _ _ _ _ => False
section
variable {T : Tab} {C : CallT} {G : Nat → Val} {ca : Nat → Addr} {k : Nat} {sc : Scope} {X : Cx} {W : WX}
theorem Ctx.blk (κ : Ctx T C ca k sc X W) (s : Shared) (H : Hp) (scope : Scope) (c : Addr) (cl : List (Str × Addr)) (fp : List Addr) : Ctx T C ca k (relS scope sc) (X.blk s H scope (compEnvC scope cl c X.env) fp) W0 where
  calm := κ.calm
  names := κ.names
  nd := κ.nd
  scope := by
    rw [← κ.scope]
    rfl
  room := κ.room
  takes := takes0
  fns := κ.fns
  blt := κ.blt
theorem wipe_idem (l : List Nat) (σ : SV) : L2.wipe (L2.wipe σ l) l = L2.wipe σ l := by
  have key : ∀ (l m : List Nat) (σ : SV), (∀ i ∈ l, i ∈ m) → L2.wipe (L2.wipe σ l) m = L2.wipe σ m := by
    intro l
    induction l with
    | nil => intro m σ _; rfl
    | cons i l ih =>
      intro m σ h
      show L2.wipe ((L2.wipe σ l).set i none) m = _
      rw [wipe_set (h i (by simp))]
      exact ih m σ fun j hj => h j (List.mem_cons_of_mem _ hj)
  exact key l l σ fun _ h => h
theorem RelS.wipe {Z : Addr → Prop} {μ : Mu} {H : L2.Hp} {σ : PI.Env} {σV : SV} (rs : RelS Z μ H σ σV) : ∀ l : List Nat, RelS Z μ H (PI.wipe σ l) (L2.wipe σV l)
  | [] => rs
  | i :: l => by
    have r := rs.wipe l
    unfold PI.wipe L2.wipe
    refine ⟨by simp [r.1], fun j v e => ?_⟩
    by_cases hj : i = j
    · subst hj
      have hl := lt_of_get e
      rw [List.length_set] at hl
      rw [List.getElem?_set_self hl] at e; cases e
    · rw [List.getElem?_set_ne hj] at e
      obtain ⟨x, a, b⟩ := r.2 j v e
      exact ⟨x, by rw [List.getElem?_set_ne hj]; exact a, b⟩
theorem RelS.extZ {Z Z' : Addr → Prop} {μ μ' : Mu} {H H' : L2.Hp} {σ : PI.Env} {σV : SV} (rs : RelS Z μ H σ σV) (E' : Ext μ H μ' H') (hZ : ZNew Z Z' H) : RelS Z' μ' H' σ σV :=
  ⟨rs.1, fun i v e => let ⟨x, a, b⟩ := rs.2 i v e; ⟨x, a, Rep.extZ E' hZ b⟩⟩
/-- the reserved places and the one new list -/
abbrev ZD (Z : Addr → Prop) (D : Addr) : Addr → Prop := fun a => Z a ∨ a = D
theorem zd_new {Z : Addr → Prop} {D : Addr} {H : L2.Hp} (n : H D = none) : ZNew Z (ZD Z D) H := fun a z => z.elim .inl fun e => .inr (by rw [e]; exact n)
theorem ext_updD {μ μ' : Mu} {H H' : L2.Hp} {D : Addr} {o : HO} (E' : Ext μ H μ' H') (n : H D = none) : Ext μ H μ' (upd H' D o) :=
  ⟨E'.len, E'.old, E'.new, fun a u e nl => by rw [upd_ne (ne_of_none e n)]; exact E'.frame a u e nl, fun a e => by
    by_cases h : a = D
    · rw [h]; exact n
    · rw [upd_ne h] at e; exact E'.dom a e⟩
/-- the new list changes: nothing else does -/
theorem move_D {Z : Addr → Prop} {μ : Mu} {H : L2.Hp} {D : Addr} {o : HO} (p : Addr) (u : HO) (e : H p = some u) (n : Fz (ZD Z D) μ p) : upd H D o p = some u ∧ Fz (ZD Z D) μ p :=
  ⟨by rw [upd_ne fun z => n.2 (.inr z)]; exact e, n⟩
theorem refs_same {μ : Mu} (l : Nat) (o : Option Addr) (e : μ[l]? = some o) : ∃ o' : Option Addr, μ[l]? = some o' ∧ ∀ a, o' = some a → o = some a := ⟨o, e, fun _ q => q⟩
theorem RelH.updD {Z : Addr → Prop} {μ : Mu} {h : LH} {H : L2.Hp} {D : Addr} {ys : List V} (r : RelH (ZD Z D) μ h H) : RelH (ZD Z D) μ h (upd H D (.lst ys)) where
  len := r.len
  at_ := fun l a e => by
    obtain ⟨u, e1, q⟩ := r.at_ l a e
    exact ⟨u, e1, RepO.move move_D refs_same (upd_ne fun z => r.apart a ⟨l, e⟩ (.inr z)) q⟩
  inj := r.inj
  dead := r.dead
  apart := r.apart
  kept := fun a z => by
    by_cases h : a = D
    · subst h; exact ⟨_, upd_same, fun _ z => nomatch z⟩
    · obtain ⟨u, e, eu⟩ := r.kept a z
      exact ⟨u, by rw [upd_ne h]; exact e, eu⟩
theorem RelH.openD {Z : Addr → Prop} {μ : Mu} {h : LH} {H : L2.Hp} {D : Addr} {ys : List V} (r : RelH Z μ h H) (n : H D = none) : RelH (ZD Z D) μ h (upd H D (.lst ys)) where
  len := r.len
  at_ := fun l a e => by
    obtain ⟨u, e1, q⟩ := r.at_ l a e
    refine ⟨u, e1, RepO.move (ext_z (ext_upd n) (zd_new n)) refs_same (upd_ne fun z => ?_) q⟩
    subst z
    exact r.notLive n ⟨l, e⟩
  inj := r.inj
  dead := r.dead
  apart := fun a la z => z.elim (r.apart a la) fun e => by subst e; exact r.notLive n la
  kept := fun a z => by
    by_cases h : a = D
    · subst h; exact ⟨_, upd_same, fun _ z => nomatch z⟩
    · obtain ⟨u, e, eu⟩ := r.kept a (z.elim id fun q => absurd q h)
      exact ⟨u, by rw [upd_ne h]; exact e, eu⟩
theorem move_close {Z : Addr → Prop} {μ : Mu} {H : L2.Hp} {D : Addr} (p : Addr) (u : HO) (e : H p = some u) (n : Fz (ZD Z D) μ p) : H p = some u ∧ Fz Z μ p := ⟨e, n.1, fun z => n.2 (.inl z)⟩
theorem RelH.closeD {Z : Addr → Prop} {μ : Mu} {h : LH} {H : L2.Hp} {D : Addr} (r : RelH (ZD Z D) μ h H) : RelH Z μ h H where
  len := r.len
  at_ := fun l a e => by
    obtain ⟨u, e1, q⟩ := r.at_ l a e
    exact ⟨u, e1, RepO.move move_close refs_same rfl q⟩
  inj := r.inj
  dead := r.dead
  apart := fun a la z => r.apart a la (.inl z)
  kept := fun a z => r.kept a (.inl z)
theorem get_snoc_l {α : Type} {xs : List α} {x : α} {l : Nat} {y : α} (e : xs[l]? = some y) : (xs ++ [x])[l]? = some y := by
  rw [List.getElem?_append_left (lt_of_get e)]; exact e
theorem move_adopt {Z : Addr → Prop} {μ : Mu} {H : L2.Hp} {D : Addr} (p : Addr) (u : HO) (e : H p = some u) (n : Fz (ZD Z D) μ p) : H p = some u ∧ Fz Z (μ ++ [some D]) p :=
  ⟨e, fun ⟨l, q⟩ => by
    rcases get_snoc q with q | ⟨_, q⟩
    · exact n.1 ⟨l, q⟩
    · cases q; exact n.2 (.inr rfl), fun z => n.2 (.inl z)⟩
theorem refs_adopt {μ : Mu} {D : Addr} (l : Nat) (o : Option Addr) (e : μ[l]? = some o) : ∃ o' : Option Addr, (μ ++ [some D])[l]? = some o' ∧ ∀ a, o' = some a → o = some a := ⟨o, get_snoc_l e, fun _ q => q⟩
/-- the new list comes into the local heap -/
theorem RelH.adopt {Z : Addr → Prop} {μ : Mu} {h : LH} {H : L2.Hp} {D : Addr} {acc : List V} {xs : List Val} (r : RelH (ZD Z D) μ h H) (e : H D = some (.lst acc)) (ra : Reps (ZD Z D) μ H xs acc) (nz : ¬ Z D) : RelH Z (μ ++ [some D]) (h ++ [.lst xs]) H where
  len := by simp [r.len]
  at_ := fun l a e0 => by
    rcases get_snoc e0 with q | ⟨q, q2⟩
    · obtain ⟨u, e1, qo⟩ := r.at_ l a q
      exact ⟨u, get_snoc_l e1, RepO.move move_adopt refs_adopt rfl qo⟩
    · cases q2
      refine ⟨.lst xs, ?_, acc, e, Reps.move move_adopt refs_adopt _ _ ra⟩
      rw [q, r.len, List.getElem?_append_right (Nat.le_refl _), Nat.sub_self]; rfl
  inj := fun l l' a e e' => by
    rcases get_snoc e with e | ⟨z, e2⟩ <;> rcases get_snoc e' with e' | ⟨z', e2'⟩
    · exact r.inj l l' a e e'
    · cases e2'; exact absurd (.inr rfl) (r.apart _ ⟨l, e⟩)
    · cases e2; exact absurd (.inr rfl) (r.apart _ ⟨l', e'⟩)
    · rw [z, z']
  dead := fun l e => by
    rcases get_snoc e with e | ⟨_, e⟩
    · exact get_snoc_l (r.dead l e)
    · cases e
  apart := fun a ⟨l, e0⟩ z => by
    rcases get_snoc e0 with e | ⟨_, e⟩
    · exact r.apart a ⟨l, e⟩ (.inl z)
    · cases e; exact nz z
  kept := fun a z => r.kept a (.inl z)
theorem ext_adopt {μ μ' : Mu} {H H' : L2.Hp} {D : Addr} (E' : Ext μ H μ' H') (n : H D = none) : Ext μ H (μ' ++ [some D]) H' where
  len := by have := E'.len; simp; omega
  old := fun l a hl e => by
    rcases get_snoc e with e | ⟨z, _⟩
    · exact E'.old l a hl e
    · have := E'.len; omega
  new := fun l a hl e => by
    rcases get_snoc e with e | ⟨_, e⟩
    · exact E'.new l a hl e
    · cases e; exact n
  frame := E'.frame
  dom := E'.dom
/-- one turn of a comprehension -/
def cTurn (C : CallT) (G : Nat → Val) (own : List Nat) (tg cond elt : E) (σ : PI.Env) (x : Val) (h : LH) : R (Option Val) :=
  match PI.ev.asgN tg x (PI.wipe σ own) with
  | some σ' => (PI.ev C G cond σ' h).nox.bind fun c h => PI.onB c ((PI.ev C G elt σ' h).nox.bind fun y h => .ok (some y) h) (.ok none h)
  | none => .err
theorem cTurn_ok {own : List Nat} {tg cond elt : E} {σ : PI.Env} {x : Val} {h h2 : LH} {o : Option Val} (e : cTurn C G own tg cond elt σ x h = .ok o h2) :
    ∃ σ' b h1, PI.ev.asgN tg x (PI.wipe σ own) = some σ' ∧ PI.ev C G cond σ' h = .ok (.bl b) h1 ∧ ((b = true ∧ ∃ y, PI.ev C G elt σ' h1 = .ok y h2 ∧ o = some y) ∨ (b = false ∧ h1 = h2 ∧ o = none)) := by
  unfold cTurn at e
  split at e
  · rename_i σ' hs
    cases hc : PI.ev C G cond σ' h with
    | ok c h1 =>
      rw [hc] at e
      simp only [PI.R.nox, PI.R.bind] at e
      cases c <;> first | cases e | skip
      rename_i b
      refine ⟨σ', b, h1, hs, hc, ?_⟩
      cases b with
      | true =>
        simp only [PI.onB] at e
        cases he : PI.ev C G elt σ' h1 with
        | ok y h3 =>
          rw [he] at e
          simp only [PI.R.nox, PI.R.bind, PI.R.ok.injEq] at e
          exact .inl ⟨rfl, y, by rw [e.2], e.1.symm⟩
        | exc c h3 => rw [he] at e; cases e
        | err => rw [he] at e; cases e
      | false =>
        simp only [PI.onB, PI.R.ok.injEq] at e
        exact .inr ⟨rfl, e.2, e.1.symm⟩
    | exc c h1 => rw [hc] at e; cases e
    | err => rw [hc] at e; cases e
  · cases e
theorem compGo_nil {ok : LH → Bool} {f : Val → LH → R (Option Val)} {h h' : LH} {r : List Val} (e : PI.compGo ok f [] h = .ok r h') : ok h = true ∧ r = [] ∧ h' = h := by
  unfold PI.compGo at e
  split at e
  · rename_i q; simp only [PI.R.ok.injEq] at e; exact ⟨q, e.1.symm, e.2.symm⟩
  · cases e
theorem compGo_cons {ok : LH → Bool} {f : Val → LH → R (Option Val)} {x : Val} {xs : List Val} {h h' : LH} {r : List Val} (e : PI.compGo ok f (x :: xs) h = .ok r h') :
    ok h = true ∧ ∃ o h1 r1, f x h = .ok o h1 ∧ PI.compGo ok f xs h1 = .ok r1 h' ∧ r = (match o with | some y => y :: r1 | none => r1) := by
  unfold PI.compGo at e
  split at e
  · rename_i q
    refine ⟨q, ?_⟩
    cases hf : f x h with
    | ok o h1 =>
      rw [hf] at e
      simp only [PI.R.bind] at e
      cases hr : PI.compGo ok f xs h1 with
      | ok r1 h2 =>
        rw [hr] at e
        simp only [PI.R.bind, PI.R.ok.injEq] at e
        exact ⟨o, h1, r1, rfl, by rw [hr, e.2], e.1.symm⟩
      | exc c h2 => rw [hr] at e; cases e
      | err => rw [hr] at e; cases e
    | exc c h1 => rw [hf] at e; cases e
    | err => rw [hf] at e; cases e
  · cases e
theorem compGo_nox {ok : LH → Bool} {f : Val → LH → R (Option Val)} (hf : ∀ x h c h', f x h ≠ .exc c h') : ∀ (xs : List Val) (h : LH) (c : Nat) (h' : LH), PI.compGo ok f xs h ≠ .exc c h'
  | [], h, c, h', e => by unfold PI.compGo at e; split at e <;> cases e
  | x :: xs, h, c, h', e => by
    unfold PI.compGo at e
    split at e
    · cases h1 : f x h with
      | ok o h1' =>
        rw [h1] at e
        simp only [PI.R.bind] at e
        cases h2 : PI.compGo ok f xs h1' with
        | ok r h3 => rw [h2] at e; cases e
        | exc c' h3 => exact compGo_nox hf xs h1' c' h3 h2
        | err => rw [h2] at e; cases e
      | exc c' h1' => exact hf x h c' h1' h1
      | err => rw [h1] at e; cases e
    · cases e
theorem cTurn_nox {own : List Nat} {tg cond elt : E} {σ : PI.Env} (x : Val) (h : LH) (c : Nat) (h' : LH) : cTurn C G own tg cond elt σ x h ≠ .exc c h' := by
  intro e
  unfold cTurn at e
  split at e
  · rename_i σ' _
    cases hc : PI.ev C G cond σ' h with
    | ok v h1 =>
      rw [hc] at e
      simp only [PI.R.nox, PI.R.bind] at e
      cases v <;> first | cases e | skip
      rename_i b
      cases b with
      | true =>
        simp only [PI.onB] at e
        cases he : PI.ev C G elt σ' h1 <;> (rw [he] at e; cases e)
      | false => cases e
    | exc c h1 => rw [hc] at e; cases e
    | err => rw [hc] at e; cases e
  · cases e
/-- a comprehension, by its turns -/
theorem comp_f {m : Bool} {own : List Nat} {tg it cond elt : E} (hsub : ∀ i ∈ PI.tslots tg, i ∈ own) :
    ∀ σ H Q, tE C G ca W (.comp m own tg it cond elt) σ H Q → tLc (tI C G ca W it) (tG C G ca W0 tg) (tB (tE C G ca W0 cond)) (tE C G ca W0 elt) own σ H Q := by
  intro σV H Q ⟨Z, σ, h, μ, rs, rh, g⟩
  simp only [PI.ev] at g
  refine ⟨Z, σ, h, μ, rs, rh, ?_⟩
  cases hi : PI.ev C G it σ h with
  | err => rw [hi] at g; exact g.elim
  | exc c h1 => rw [hi] at g; exact g
  | ok w h1 =>
    rw [hi] at g
    simp only [PI.R.bind] at g
    cases w <;> first | exact g.elim | skip
    rename_i t src items
    intro J H1 μ1 R1 E1 Fd D nD
    simp only at g
    split at g
    case isFalse => exact g.elim
    rename_i hsz
    have g0 : Go Z μ H _ _ ((PI.compGo (PI.stays src) (cTurn C G own tg cond elt σ) items h1).bind fun r h => PI.mkL m r h) := g
    cases hall : PI.compGo (PI.stays src) (cTurn C G own tg cond elt σ) items h1 with
    | err => rw [hall] at g0; exact g0.elim
    | exc c h2 => exact absurd hall (compGo_nox (fun x h c h' => cTurn_nox x h c h') items h1 c h2)
    | ok rAll hf =>
      rw [hall] at g0
      simp only [PI.R.bind] at g0
      have g1 := Go.toV (fun c h' => mkL_nox c h') (g0.shift E1)
      have nZ : ¬ Z D := fun z => by obtain ⟨o, e, _⟩ := R1.kept D z; rw [nD] at e; cases e
      have zn : ZNew Z (ZD Z D) H1 := zd_new nD
      -- the invariant, by the turn
      have base : ∃ μ' h' ra acc r, Ext μ1 H1 μ' (upd H1 D (.lst [])) ∧ RelH (ZD Z D) μ' h' (upd H1 D (.lst [])) ∧ (upd H1 D (.lst [])) D = some (.lst acc) ∧ Reps (ZD Z D) μ' (upd H1 D (.lst [])) ra acc ∧ ra.length ≤ 0 ∧
          PI.compGo (PI.stays src) (cTurn C G own tg cond elt σ) (items.drop 0) h' = .ok r hf ∧ ra ++ r = rAll :=
        ⟨μ1, h1, [], [], rAll, ext_upd nD, R1.openD nD, upd_same, .nil, Nat.le_refl _, hall, rfl⟩
      refine ⟨fun i m H' => m = items.length - i ∧ i ≤ items.length ∧ ∃ μ' h' ra acc r, Ext μ1 H1 μ' H' ∧ RelH (ZD Z D) μ' h' H' ∧ H' D = some (.lst acc) ∧ Reps (ZD Z D) μ' H' ra acc ∧ ra.length ≤ i ∧
          PI.compGo (PI.stays src) (cTurn C G own tg cond elt σ) (items.drop i) h' = .ok r hf ∧ ra ++ r = rAll, ⟨items.length, rfl, Nat.zero_le _, base⟩, ?_⟩
      rintro i m' H' ⟨rfl, hi', μ', h', ra, acc, r, E', R', eD, rr, hl, hgo, hra⟩
      by_cases hlt : i < items.length
      · -- a turn
        have hd : items.drop i = items[i] :: items.drop (i + 1) := List.drop_eq_getElem_cons hlt
        rw [hd] at hgo
        obtain ⟨st, o, h2, r1, hturn, hrest, hr⟩ := compGo_cons hgo
        obtain ⟨jg, jy⟩ := Fd.go (ZD Z D) i μ' h' H' items[i] zn E' R' st (List.getElem?_eq_getElem hlt)
        refine .inr ⟨jg, fun H'' => i + 1 ≤ items.length ∧ ∃ μ' h' ra acc r, Ext μ1 H1 μ' H'' ∧ RelH (ZD Z D) μ' h' H'' ∧ H'' D = some (.lst acc) ∧ Reps (ZD Z D) μ' H'' ra acc ∧ ra.length ≤ i + 1 ∧
          PI.compGo (PI.stays src) (cTurn C G own tg cond elt σ) (items.drop (i + 1)) h' = .ok r hf ∧ ra ++ r = rAll, fun H'' q => ⟨items.length - (i + 1), by omega, rfl, q.1, q.2⟩, fun y H2 hy => ?_⟩
        obtain ⟨R2, E2, ry⟩ := jy y H2 hy
        obtain ⟨σ', b, h3, hasg, hcond, hcase⟩ := cTurn_ok hturn
        have rs2 : RelS (ZD Z D) μ' H2 (PI.wipe σ own) (L2.wipe σV own) := ((((rs.ext E1).extZ E' zn).ext E2).wipe own)
        have eD2 : H2 D = some (.lst acc) := E2.frame _ _ eD fun la => R'.apart D la (.inr rfl)
        refine ⟨ZD Z D, PI.wipe σ own, h', μ', items[i], rs2, R2, ry, ?_⟩
        rw [asgN_T tg _ _ _ h' hasg]
        intro σV3 H3 μ3 rs3 R3 E3 hown
        refine ⟨(hown own hsub).trans (wipe_idem own σV), ZD Z D, σ', h', μ3, rs3, R3, ?_⟩
        rw [hcond]
        intro x4 H4 μ4 R4 E4 rx4
        have eD4 : H4 D = some (.lst acc) := E4.frame _ _ (E3.frame _ _ eD2 fun la => R2.apart D la (.inr rfl)) fun la => R3.apart D la (.inr rfl)
        have EE : Ext μ1 H1 μ4 H4 := ((E'.trans E2).trans E3).trans E4
        have rr4 : Reps (ZD Z D) μ4 H4 ra acc := Reps.ext E4 _ _ (Reps.ext E3 _ _ (Reps.ext E2 _ _ rr))
        refine ⟨b, rep_bl.mp rx4, ?_⟩
        rcases hcase with ⟨rfl, yv, helt, rfl⟩ | ⟨rfl, rfl, rfl⟩
        · refine iteT ⟨ZD Z D, σ', h3, μ4, rs3.ext E4, R4, ?_⟩
          rw [helt]
          intro x5 H5 μ5 R5 E5 rx5
          have eD5 : H5 D = some (.lst acc) := E5.frame _ _ eD4 fun la => R4.apart D la (.inr rfl)
          have rr5 := Reps.ext E5 _ _ rr4
          have nl : acc.length = ra.length := rr5.length.symm
          refine ⟨acc, eD5, by rw [nl, sizeLine_eq]; have : items.length ≤ 16777216 := hsz; omega, by omega, μ5, h2, ra ++ [yv], acc ++ [x5], r1, ext_updD (EE.trans E5) nD, R5.updD, upd_same, ?_, by simp; omega, hrest, by rw [List.append_assoc, ← hra, hr]; rfl⟩
          exact (Reps.move move_D refs_same _ _ rr5).append (.cons (Rep.move move_D refs_same _ _ rx5) .nil)
        · refine iteF ⟨by omega, μ4, h3, ra, acc, r1, EE, R4, eD4, rr4, by omega, hrest, by rw [← hra, hr]⟩
      · -- the end
        have ei : i = items.length := by omega
        subst ei
        rw [List.drop_length] at hgo
        obtain ⟨st, rfl, rfl⟩ := compGo_nil hgo
        rw [List.append_nil] at hra
        subst hra
        refine .inl ⟨Fd.stop (ZD Z D) μ' hf H' zn E' R' st, ?_⟩
        unfold PI.mkL at g1
        split at g1
        case isFalse => exact g1.elim
        split at g1
        · refine g1 (.ref D) H' (μ' ++ [some D]) (R'.adopt eD rr nZ) (ext_adopt E' nD) ?_
          simp only [Rep]
          refine ⟨some D, ?_, fun a e => by cases e; rfl⟩
          rw [← R'.len, List.getElem?_append_right (Nat.le_refl _), Nat.sub_self]; rfl
        · refine g1 (.ref D) H' μ' R'.closeD E' ?_
          simp only [Rep]
          exact ⟨D, acc, rfl, ⟨fun la => R'.apart D la (.inr rfl), nZ⟩, .inl eD, Reps.move move_close refs_same _ _ rr⟩
end
end PIS

/-! Every checked expression. -/
namespace PIS
open PySem PySem.Spec PyProof.Rows L2
open PI (Val Ob LH R E S CallT RS)
section
variable {T : Tab} {C : CallT} {G : Nat → Val} {ca : Nat → Addr}
/-- what is shown of a term -/
structure Sound (T : Tab) (C : CallT) (G : Nat → Val) (ca : Nat → Addr) (e : E) : Prop where
  one : ∀ k sc X W, Ctx T C ca k sc X W → ∀ x, chk T e sc x = true → Ok1 X x (tE C G ca W e)
  all : ∀ k sc X W, Ctx T C ca k sc X W → ∀ l, chks T e sc l = true → OkL X (tE C G ca W) e l
  iter : ∀ k sc X W, Ctx T C ca k sc X W → ∀ tg x, chkI T e sc tg x = true → L2.PI X tg x (tI C G ca W e)
/-- the cases that are plain expressions -/
theorem Sound.of {e : E} (h : ∀ k sc X W, Ctx T C ca k sc X W → ∀ x, chk T e sc x = true → Ok1 X x (tE C G ca W e)) (ha : ∀ sc l, chks T e sc l = false) (hi : ∀ sc tg x, chkI T e sc tg x = false) : Sound T C G ca e where
  one := h
  all := fun k sc X W κ l q => by rw [ha] at q; cases q
  iter := fun k sc X W κ tg x q => by rw [hi] at q; cases q
theorem folded {iter : Expr} (h : plainX iter = true) (env : Env) (x : Value) : foldedSetIterable iter env x = pure x := by
  unfold foldedSetIterable
  split
  · simp [plainX] at h
  · rfl
theorem chkI_plain {e : E} {sc : Scope} {tg x : Expr} (h : chkI T e sc tg x = true) : plainX x = true := by
  unfold chkI at h
  split at h <;> first | contradiction | rfl | exact chk_plain _ _ _ h
theorem own_map {N : List Str} : ∀ own : List Nat, (own.map fun i => (N.getD i "", i)).map (·.2) = own
  | [] => rfl
  | i :: own => by simp only [List.map_cons, own_map own]
theorem blk_loc {scope : Scope} {X : Cx} {s : Shared} {H : Hp} {c : Addr} {cl : List (Str × Addr)} {fp : List Addr} {x : Str} (h : locB scope x = true) :
    Loc (X.blk s H scope (compEnvC scope cl c X.env) fp).env.scope x ∧ ((X.blk s H scope (compEnvC scope cl c X.env) fp).fn x = true ∨ (X.blk s H scope (compEnvC scope cl c X.env) fp).env.scope.names.lookup x = some .local) := by
  unfold locB at h
  split at h
  · rename_i e
    have q : (compEnvC scope cl c X.env).scope.names.lookup x = some .local := lookup_relS_keep (sc := X.env.scope) (by simp) e
    exact ⟨.inl q, .inr q⟩
  · rename_i e
    have q : (compEnvC scope cl c X.env).scope.names.lookup x = some .cell := lookup_relS_keep (sc := X.env.scope) (by simp) e
    exact ⟨.inr q, .inl (by simp [e])⟩
  · cases h
theorem ok_comp {m : Bool} {own : List Nat} {tg it cond elt : E} (hi : Sound T C G ca it) (hc : Sound T C G ca cond) (he : Sound T C G ca elt) {k : Nat} {sc : Scope} {X : Cx} {W : WX} (κ : Ctx T C ca k sc X W) {x : Expr}
    (h : chk T (.comp m own tg it cond elt) sc x = true) : Ok1 X x (tE C G ca W (.comp m own tg it cond elt)) := by
  unfold chk at h
  split at h <;> try contradiction
  rename_i q
  cases q
  rename_i el t i ifs scope pos
  simp only [Bool.and_eq_true, decide_eq_true_eq] at h
  obtain ⟨⟨⟨⟨⟨⟨⟨h1, h2⟩, h3⟩, h4⟩, h5⟩, h6⟩, h7⟩, h8⟩ := h
  have hsub : ∀ j ∈ PI.tslots tg, j ∈ own := fun j hj => by
    have := List.all_eq_true.mp h6 j hj
    simpa using this
  have ok : BlkOk X.N X.env.scope scope (own.map fun i => (T.N.getD i "", i)) := by
    rw [κ.names, κ.scope]
    exact blkOk_by h1
  have tgs : ∀ (s : Shared) (H : Hp) (c : Addr) (cl : List (Str × Addr)) (fp : List Addr), PG (X.blk s H scope (compEnvC scope cl c X.env) fp) t (tG C G ca W0 tg) := fun s H c cl fp =>
    (okT (T := T) (sc := scope) (X := X.blk s H scope (compEnvC scope cl c X.env) fp) (W := W0) κ.calm κ.names κ.nd κ.hu (fun x hx => blk_loc hx) tg (.inr h5)).1 t h4
  have els : ∀ (s : Shared) (H : Hp) (c : Addr) (cl : List (Str × Addr)) (fp : List Addr), PE (X.blk s H scope (compEnvC scope cl c X.env) fp) el (tE C G ca W0 elt) := fun s H c cl fp =>
    (he.one k _ _ W0 (κ.blk s H scope c cl fp) el h7).pe
  have tts : ∀ (s : Shared) (H : Hp) (c : Addr) (cl : List (Str × Addr)) (fp : List Addr), PTs (X.blk s H scope (compEnvC scope cl c X.env) fp) ifs (tB (tE C G ca W0 cond)) := fun s H c cl fp => by
    split at h8
    · refine ⟨fun pins s0 σ H0 Q I hh => pts_nil.run pins s0 σ H0 Q I ?_⟩
      obtain ⟨Z, σ', h, μ, rs, rh, g⟩ := hh
      simp only [PI.ev] at g
      obtain ⟨b, e, q⟩ := g (.bl true) H0 μ rh (Ext.refl _ _) (rep_bl.mpr rfl)
      cases e
      exact q
    · exact pts_one (hc.one k _ _ W0 (κ.blk s H scope c cl fp) _ h8).pt
    · cases h8
  have pe := pe_lc (pos := pos) κ.calm (by rw [κ.names]; exact κ.nd) (hi.iter k _ X W κ t i h3) ok tgs tts els (folded (chkI_plain h3) X.env)
  rw [own_map] at pe
  exact .val (PE.imp pe (comp_f hsub)) (fun _ => rfl) (fun _ _ _ e => by cases e)
theorem Sound.iterOnly {e : E} (h1 : ∀ sc x, chk T e sc x = false) (ha : ∀ sc l, chks T e sc l = false) (hi : ∀ k sc X W, Ctx T C ca k sc X W → ∀ tg x, chkI T e sc tg x = true → L2.PI X tg x (tI C G ca W e)) : Sound T C G ca e where
  one := fun k sc X W κ x q => by rw [h1] at q; cases q
  all := fun k sc X W κ l q => by rw [ha] at q; cases q
  iter := hi
theorem Sound.none {e : E} (h1 : ∀ sc x, chk T e sc x = false) (ha : ∀ sc l, chks T e sc l = false) (hi : ∀ sc tg x, chkI T e sc tg x = false) : Sound T C G ca e where
  one := fun k sc X W κ x q => by rw [h1] at q; cases q
  all := fun k sc X W κ l q => by rw [ha] at q; cases q
  iter := fun k sc X W κ tg x q => by rw [hi] at q; cases q
theorem s_var (i : Nat) : Sound T C G ca (.var i) := by
  refine .of (fun k sc X W κ x h => ?_) (fun sc l => by simp [chks]) (fun sc tg x => by simp [chkI])
  · unfold chk at h
    split at h <;> try contradiction
    rename_i q; cases q
    simp only [Bool.and_eq_true] at h
    exact ok_var κ h.1 h.2
theorem s_int (z : Int) : Sound T C G ca (.int z) := by
  refine .of (fun k sc X W κ x h => ?_) (fun sc l => by simp [chks]) (fun sc tg x => by simp [chkI])
  · unfold chk at h
    split at h <;> try contradiction
    rename_i q; cases q
    simp only [beq_iff_eq] at h
    subst h; exact ok_int
theorem s_bl (z : Bool) : Sound T C G ca (.bl z) := by
  refine .of (fun k sc X W κ x h => ?_) (fun sc l => by simp [chks]) (fun sc tg x => by simp [chkI])
  unfold chk at h
  split at h <;> try contradiction
  rename_i q; cases q
  simp only [beq_iff_eq] at h
  subst h; exact ok_bl
theorem s_non : Sound T C G ca .non where
  one := fun k sc X W κ x h => by
    unfold chk at h
    split at h <;> try contradiction
    exact ok_non
  all := fun k sc X W κ l q => by simp [chks] at q
  iter := fun k sc X W κ tg x q => by simp [chkI] at q
theorem s_str (z : List Nat) : Sound T C G ca (.str z) := by
  refine .of (fun k sc X W κ x h => ?_) (fun sc l => by simp [chks]) (fun sc tg x => by simp [chkI])
  unfold chk at h
  split at h <;> try contradiction
  rename_i q; cases q
  simp only [beq_iff_eq] at h
  subst h; exact ok_str
theorem s_nil : Sound T C G ca .nil where
  one := fun k sc X W κ x h => by simp [chk] at h
  all := fun k sc X W κ l q => by
    cases l with
    | nil => exact .nil
    | cons _ _ => simp [chks] at q
  iter := fun k sc X W κ tg x q => by simp [chkI] at q
theorem s_cons {a b : E} (ha : Sound T C G ca a) (hb : Sound T C G ca b) : Sound T C G ca (.cons a b) where
  one := fun k sc X W κ x h => by simp [chk] at h
  all := fun k sc X W κ l q => by
    cases l with
    | nil => simp [chks] at q
    | cons x l =>
      simp only [chks, Bool.and_eq_true] at q
      exact .cons (ha.one k sc X W κ x q.1.2) q.1.1 (hb.all k sc X W κ l q.2)
  iter := fun k sc X W κ tg x q => by simp [chkI] at q
theorem s_tup {a : E} (ha : Sound T C G ca a) : Sound T C G ca (.tup a) := by
  refine .of (fun k sc X W κ x h => ?_) (fun sc l => by simp [chks]) (fun sc tg x => by simp [chkI])
  unfold chk at h
  split at h <;> try contradiction
  rename_i q; cases q
  exact ok_tup (ha.all k _ X W κ _ h).pa
theorem s_lst {m : Bool} {a : E} (ha : Sound T C G ca a) : Sound T C G ca (.lst m a) := by
  refine .of (fun k sc X W κ x h => ?_) (fun sc l => by simp [chks]) (fun sc tg x => by simp [chkI])
  unfold chk at h
  split at h <;> try contradiction
  rename_i q; cases q
  exact ok_lst (ha.all k _ X W κ _ h).pa
theorem s_dnew {t : Bool} : Sound T C G ca (.dnew t) := by
  refine .of (fun k sc X W κ x h => ?_) (fun sc l => by simp [chks]) (fun sc tg x => by simp [chkI])
  unfold chk at h
  split at h <;> try contradiction
  exact ok_dnew
theorem s_bin {m : Bool} {op : PI.Bop} {a b : E} (ha : Sound T C G ca a) (hb : Sound T C G ca b) : Sound T C G ca (.bin m op a b) := by
  refine .of (fun k sc X W κ x h => ?_) (fun sc l => by simp [chks]) (fun sc tg x => by simp [chkI])
  · unfold chk at h
    split at h <;> try contradiction
    rename_i q; cases q
    simp only [Bool.and_eq_true, decide_eq_true_eq] at h
    obtain ⟨⟨rfl, h1⟩, h2⟩ := h
    exact ok_bin (ha.one k _ X W κ _ h1).pe (hb.one k _ X W κ _ h2).pe
theorem s_cmp {op : PI.Cop} {a b : E} (ha : Sound T C G ca a) (hb : Sound T C G ca b) : Sound T C G ca (.cmp op a b) := by
  refine .of (fun k sc X W κ x h => ?_) (fun sc l => by simp [chks]) (fun sc tg x => by simp [chkI])
  unfold chk at h
  split at h <;> try contradiction
  rename_i q; cases q
  simp only [Bool.and_eq_true, decide_eq_true_eq] at h
  obtain ⟨⟨rfl, h1⟩, h2⟩ := h
  exact ok_cmp κ (ha.one k _ X W κ _ h1).pe (hb.one k _ X W κ _ h2).pe (chk_plain _ _ _ h2)
theorem s_chain {op op' : PI.Cop} {a b c : E} (ha : Sound T C G ca a) (hb : Sound T C G ca b) (hc : Sound T C G ca c) : Sound T C G ca (.chain op op' a b c) := by
  refine .of (fun k sc X W κ x h => ?_) (fun sc l => by simp [chks]) (fun sc tg x => by simp [chkI])
  unfold chk at h
  split at h <;> try contradiction
  rename_i q; cases q
  simp only [Bool.and_eq_true, decide_eq_true_eq] at h
  obtain ⟨⟨⟨⟨rfl, rfl⟩, h1⟩, h2⟩, h3⟩ := h
  exact ok_chain κ (ha.one k _ X W κ _ h1).pe (hb.one k _ X W κ _ h2).pe (hc.one k _ X W κ _ h3).pe (chk_plain _ _ _ h3)
theorem s_and {a b : E} (ha : Sound T C G ca a) (hb : Sound T C G ca b) : Sound T C G ca (.and a b) := by
  refine .of (fun k sc X W κ x h => ?_) (fun sc l => by simp [chks]) (fun sc tg x => by simp [chkI])
  unfold chk at h
  split at h <;> try contradiction
  rename_i q; cases q
  rename_i xx yy rr pp
  simp only [Bool.and_eq_true] at h
  obtain ⟨h1, h2⟩ := h
  cases rr with
  | nil => exact ok_and1 (ha.one k _ X W κ _ h1) (hb.one k _ X W κ _ h2)
  | cons z r => exact ok_and2 (ha.one k _ X W κ _ h1) (hb.one k _ X W κ _ h2)
theorem s_or {a b : E} (ha : Sound T C G ca a) (hb : Sound T C G ca b) : Sound T C G ca (.or a b) := by
  refine .of (fun k sc X W κ x h => ?_) (fun sc l => by simp [chks]) (fun sc tg x => by simp [chkI])
  unfold chk at h
  split at h <;> try contradiction
  rename_i q; cases q
  rename_i xx yy rr pp
  simp only [Bool.and_eq_true] at h
  obtain ⟨h1, h2⟩ := h
  cases rr with
  | nil => exact ok_or1 (ha.one k _ X W κ _ h1) (hb.one k _ X W κ _ h2)
  | cons z r => exact ok_or2 (ha.one k _ X W κ _ h1) (hb.one k _ X W κ _ h2)
theorem s_not {a : E} (ha : Sound T C G ca a) : Sound T C G ca (.not a) := by
  refine .of (fun k sc X W κ x h => ?_) (fun sc l => by simp [chks]) (fun sc tg x => by simp [chkI])
  unfold chk at h
  split at h <;> try contradiction
  rename_i q; cases q
  exact ok_not (ha.one k _ X W κ _ h)
theorem s_neg {a : E} (ha : Sound T C G ca a) : Sound T C G ca (.neg a) := by
  refine .of (fun k sc X W κ x h => ?_) (fun sc l => by simp [chks]) (fun sc tg x => by simp [chkI])
  · unfold chk at h
    split at h <;> try contradiction
    rename_i q; cases q
    exact ok_neg (ha.one k _ X W κ _ h).pe
theorem s_ite {c a b : E} (hc : Sound T C G ca c) (ha : Sound T C G ca a) (hb : Sound T C G ca b) : Sound T C G ca (.ite c a b) := by
  refine .of (fun k sc X W κ x h => ?_) (fun sc l => by simp [chks]) (fun sc tg x => by simp [chkI])
  unfold chk at h
  split at h <;> try contradiction
  rename_i q; cases q
  simp only [Bool.and_eq_true] at h
  exact ok_ite (hc.one k _ X W κ _ h.1.1) (ha.one k _ X W κ _ h.1.2) (hb.one k _ X W κ _ h.2)
theorem s_call {f : Nat} {a : E} (ha : Sound T C G ca a) : Sound T C G ca (.call f a) := by
  refine .of (fun k sc X W κ x h => ?_) (fun sc l => by simp [chks]) (fun sc tg x => by simp [chkI])
  unfold chk at h
  split at h <;> try contradiction
  rename_i q; cases q
  simp only [Bool.and_eq_true, beq_iff_eq] at h
  exact ok_call κ h.1.1.1 h.1.1.2 h.1.2 (ha.all k _ X W κ _ h.2)
theorem s_mth {f : PI.Mth} {o a : E} (ho : Sound T C G ca o) (ha : Sound T C G ca a) : Sound T C G ca (.mth f o a) := by
  refine .of (fun k sc X W κ x h => ?_) (fun sc l => by simp [chks]) (fun sc tg x => by simp [chkI])
  unfold chk at h
  split at h <;> try contradiction
  rename_i q; cases q
  simp only [Bool.and_eq_true, beq_iff_eq, decide_eq_true_eq] at h
  obtain ⟨⟨⟨⟨⟨⟨h1, h2⟩, h3⟩, h4⟩, h5⟩, h6⟩, h7⟩ := h
  exact ok_mth κ h1 h2 (ho.one k _ X W κ _ h3) (chk_base h3) (ha.all k _ X W κ _ h4) h6 h7 (by simpa using h5)
theorem s_idx {a b : E} (ha : Sound T C G ca a) (hb : Sound T C G ca b) : Sound T C G ca (.idx a b) := by
  refine .of (fun k sc X W κ x h => ?_) (fun sc l => by simp [chks]) (fun sc tg x => by simp [chkI])
  unfold chk at h
  split at h <;> try contradiction
  rename_i q; cases q
  simp only [Bool.and_eq_true] at h
  exact ok_idx κ (ha.one k _ X W κ _ h.1).pe (hb.one k _ X W κ _ h.2).pe (chk_plain _ _ _ h.2)
theorem s_slc {m : Bool} {a lo hi : E} (ha : Sound T C G ca a) (hl : Sound T C G ca lo) (hh : Sound T C G ca hi) : Sound T C G ca (.slc m a lo hi) := by
  refine .of (fun k sc X W κ x h => ?_) (fun sc l => by simp [chks]) (fun sc tg x => by simp [chkI])
  unfold chk at h
  split at h <;> try contradiction
  rename_i q; cases q
  simp only [Bool.and_eq_true] at h
  obtain ⟨⟨h1, h2⟩, h3⟩ := h
  have part : ∀ {e : E} {o : Option Expr} {sc : Scope} (κ : Ctx T C ca k sc X W), Sound T C G ca e → (match o with | none => isNonE e | some x => !isNonE e && chk T e sc x) = true → OkO X (tE C G ca W) e o := fun {e o sc} κ he q => by
    cases o with
    | none => exact .inl ⟨by cases e <;> first | rfl | (simp [isNonE] at q), rfl⟩
    | some x =>
      simp only [Bool.and_eq_true, Bool.not_eq_true'] at q
      exact .inr ⟨x, rfl, fun z => by rw [z] at q; simp [isNonE] at q, (he.one k sc X W κ x q.2).pe⟩
  exact ok_slc (ha.one k _ X W κ _ h1).pe (part κ hl h2) (part κ hh h3)
theorem s_rev {m : Bool} {a : E} (ha : Sound T C G ca a) : Sound T C G ca (.rev m a) := by
  refine .of (fun k sc X W κ x h => ?_) (fun sc l => by simp [chks]) (fun sc tg x => by simp [chkI])
  unfold chk at h
  split at h <;> try contradiction
  rename_i q; cases q
  exact ok_rev (ha.one k _ X W κ _ h).pe
theorem s_frz {a : E} (ha : Sound T C G ca a) : Sound T C G ca (.frz a) := by
  refine .of (fun k sc X W κ x h => ?_) (fun sc l => by simp [chks]) (fun sc tg x => by simp [chkI])
  simp only [chk, Bool.and_eq_true] at h
  obtain ⟨h1, h2⟩ := h
  cases a <;> first | (simp [isVarE] at h1; done) | skip
  have h3 := h2
  unfold chk at h3
  split at h3 <;> try contradiction
  exact ok_frz (ha.one k _ X W κ _ h2)
theorem s_comp {m : Bool} {own : List Nat} {tg it cond elt : E} (hi : Sound T C G ca it) (hc : Sound T C G ca cond) (he : Sound T C G ca elt) : Sound T C G ca (.comp m own tg it cond elt) := by
  refine .of (fun k sc X W κ x h => ?_) (fun sc l => by simp [chks]) (fun sc tg x => by simp [chkI])
  exact ok_comp hi hc he κ h
theorem s_bi {m : Bool} {f : PI.Bi} {a : E} (ha : Sound T C G ca a) : Sound T C G ca (.bi m f a) := by
  refine .of (fun k sc X W κ x h => ?_) (fun sc l => by simp [chks]) (fun sc tg x => by simp [chkI])
  · unfold chk at h
    split at h <;> try contradiction
    rename_i q; cases q
    simp only [Bool.and_eq_true, beq_iff_eq] at h
    obtain ⟨⟨h1, h2⟩, h3⟩ := h
    rename_i ee ll xx pp pp2
    cases f with
    | isinst ks =>
      simp only at h3
      split at h3
      · simp only [Bool.and_eq_true, decide_eq_true_eq] at h3
        exact ok_isiT κ h1 h2 (ha.all k _ X W κ _ h3.1.1.1) h3.1.1.2 h3.1.2 h3.2
      · simp only [Bool.and_eq_true] at h3
        cases ks with
        | nil => simp [kindsB] at h3
        | cons n ks =>
          cases ks with
          | nil => exact ok_isi κ h1 h2 (ha.all k _ X W κ _ h3.1) h3.2
          | cons _ _ => simp [kindsB] at h3
      · cases h3
    | rangeL1 =>
      simp only at h3
      split at h3
      · simp only [Bool.and_eq_true, beq_iff_eq] at h3
        obtain ⟨⟨h4, h5⟩, h6⟩ := h3
        have ol := ha.all k _ X W κ _ h6
        exact ok_rangeL1 κ h1 h4 h2 h5.1 ol (by simpa using h5.2)
      · cases h3
    | rangeL2 =>
      simp only at h3
      split at h3
      · simp only [Bool.and_eq_true, beq_iff_eq] at h3
        obtain ⟨⟨h4, h5⟩, h6⟩ := h3
        have ol := ha.all k _ X W κ _ h6
        exact ok_rangeL2 κ h1 h4 h2 h5.1 ol (by simpa using h5.2)
      · cases h3
    | _ =>
      simp only [Bool.and_eq_true] at h3
      exact ok_bi κ h1 h3.1 h2 (ha.all k _ X W κ _ h3.2)
/-- every term is sound -/
theorem sound_all : ∀ e : E, Sound T C G ca e := by
  intro e
  induction e with
  | var i => exact s_var i
  | int z => exact s_int z
  | bl b => exact s_bl b
  | non => exact s_non
  | str z => exact s_str z
  | nil => exact s_nil
  | cons a b ha hb => exact s_cons ha hb
  | tup a ha => exact s_tup ha
  | lst m a ha => exact s_lst ha
  | dnew t => exact s_dnew
  | bin m op a b ha hb => exact s_bin ha hb
  | cmp op a b ha hb => exact s_cmp ha hb
  | chain op op' a b c ha hb hc => exact s_chain ha hb hc
  | and a b ha hb => exact s_and ha hb
  | or a b ha hb => exact s_or ha hb
  | not a ha => exact s_not ha
  | neg a ha => exact s_neg ha
  | ite c a b hc ha hb => exact s_ite hc ha hb
  | call f a ha => exact s_call ha
  | bi m f a ha => exact s_bi ha
  | mth f o a ho ha => exact s_mth ho ha
  | idx a b ha hb => exact s_idx ha hb
  | slc m a lo hi ha hl hh => exact s_slc ha hl hh
  | rev m a ha => exact s_rev ha
  | frz a ha => exact s_frz ha
  | comp m own tg it cond elt _ hi hc he => exact s_comp hi hc he
  | iSeq a ha =>
    refine .iterOnly (fun sc x => by simp [chk]) (fun sc l => by simp [chks]) fun k sc X W κ tg x h => ?_
    exact ok_iSeq (ha.one k sc X W κ x (by simpa only [chkI] using h)).pe
  | iKeys a ha =>
    refine .iterOnly (fun sc x => by simp [chk]) (fun sc l => by simp [chks]) fun k sc X W κ tg x h => ?_
    exact ok_iKeys (ha.one k sc X W κ x (by simpa only [chkI] using h)).pe
  | iRange1 a ha =>
    refine .iterOnly (fun sc x => by simp [chk]) (fun sc l => by simp [chks]) fun k sc X W κ tg x h => ?_
    unfold chkI at h
    split at h <;> try contradiction
    rename_i q; cases q
    simp only [Bool.and_eq_true, beq_iff_eq] at h
    exact ok_iRange1 κ h.1.1.1 h.1.1.2 (ha.one k _ X W κ _ h.1.2).pe h.2
  | iRange2 a b ha hb =>
    refine .iterOnly (fun sc x => by simp [chk]) (fun sc l => by simp [chks]) fun k sc X W κ tg x h => ?_
    unfold chkI at h
    split at h <;> try contradiction
    rename_i q; cases q
    simp only [Bool.and_eq_true, beq_iff_eq] at h
    obtain ⟨⟨⟨⟨⟨h1, h2⟩, h3⟩, h4⟩, h5⟩, h6⟩ := h
    exact ok_iRange2 κ h1 h2 (ha.one k _ X W κ _ h3).pe h5 (hb.one k _ X W κ _ h4).pe h6
  | iEnum a ha =>
    refine .iterOnly (fun sc x => by simp [chk]) (fun sc l => by simp [chks]) fun k sc X W κ tg x h => ?_
    unfold chkI at h
    split at h <;> try contradiction
    rename_i q; cases q
    simp only [Bool.and_eq_true, beq_iff_eq] at h
    exact ok_iEnum κ h.1.1.1 h.1.1.2 (ha.one k _ X W κ _ h.1.2).pe h.2
  | iZip a b ha hb =>
    refine .iterOnly (fun sc x => by simp [chk]) (fun sc l => by simp [chks]) fun k sc X W κ tg x h => ?_
    unfold chkI at h
    split at h <;> try contradiction
    rename_i q; cases q
    simp only [Bool.and_eq_true, beq_iff_eq] at h
    obtain ⟨⟨⟨⟨⟨h1, h2⟩, h3⟩, h4⟩, h5⟩, h6⟩ := h
    exact ok_iZip κ h1 h2 (ha.one k _ X W κ _ h3).pe h5 (hb.one k _ X W κ _ h4).pe h6
  | _ => exact .none (fun sc x => by simp [chk]) (fun sc l => by simp [chks]) (fun sc tg x => by simp [chkI])
end
end PIS

/-! Every checked statement. -/
namespace PIS
open PySem PySem.Spec PyProof.Rows L2
open PI (Val Ob LH R E S CallT RS)
section
variable {T : Tab} {C : CallT} {G : Nat → Val} {ca : Nat → Addr} {k : Nat} {sc : Scope} {X : Cx} {W : WX}
/-- a def's own body -/
structure CtxS (T : Tab) (C : CallT) (ca : Nat → Addr) (k : Nat) (sc : Scope) (X : Cx) (W : WX) : Prop where
  ctx : Ctx T C ca k sc X W
  own : PassesOwn (model X.prog X.w) X.A X.env X.xe
  fnA : ∀ x, X.fn x = true
  kind : sc.kind = .function
def tS (C : CallT) (G : Nat → Val) (ca : Nat → Addr) (W : WX) (s : S) : TS := fun D σV H => ∃ Z σ h μ, RelS Z μ H σ σV ∧ RelH Z μ h H ∧ GoS Z μ H (fun c σV' H' => W (.ref (ca c)) none σV' H') (fun _ _ _ σV' H' => D.nx σV' H') D.rt (PI.ex C G s σ h)
theorem PS.imp {st : Stmt} {t t' : TS} (h : PS X st t) (f : ∀ D σ H, t' D σ H → t D σ H) : PS X st t' := ⟨fun pins s σ H D I q => h.run pins s σ H D I (f D σ H q)⟩
theorem PSs.imp {st : List Stmt} {t t' : TS} (h : PSs X st t) (f : ∀ D σ H, t' D σ H → t D σ H) : PSs X st t' := ⟨fun pins s σ H D I q => h.run pins s σ H D I (f D σ H q)⟩
theorem CtxS.loc (κ : CtxS T C ca k sc X W) {x : Str} (h : locB sc x = true) : Loc X.env.scope x ∧ (X.fn x = true ∨ X.env.scope.names.lookup x = some .local) := by
  refine ⟨?_, .inl (κ.fnA x)⟩
  rw [κ.ctx.scope]
  unfold locB at h
  split at h
  · rename_i e; exact .inl e
  · rename_i e; exact .inr e
  · cases h
theorem CtxS.tg (κ : CtxS T C ca k sc X W) {tg : E} {t : Expr} (h : chkT T tg sc t = true) : PG X t (tG C G ca W tg) :=
  (okT κ.ctx.calm κ.ctx.names κ.ctx.nd κ.ctx.hu (fun x hx => κ.loc hx) tg (.inl fun e x hx => (sound_all e).one k sc X W κ.ctx x hx)).1 t h
theorem CtxS.ex (κ : CtxS T C ca k sc X W) {e : E} {x : Expr} (h : chk T e sc x = true) : Ok1 X x (tE C G ca W e) := (sound_all e).one k sc X W κ.ctx x h
theorem then_nort {α : Type} {σ : PI.Env} {r : R α} {f : α → LH → RS} {v : Val} {h' : LH} (hf : ∀ a h, f a h ≠ .rt v h') : r.then σ f ≠ .rt v h' := by
  cases r with
  | ok a h => exact hf a h
  | exc c h => intro z; cases z
  | err => intro z; cases z
theorem asgT_nort : ∀ (tg : E) (v : Val) (σ : PI.Env) (h : LH) (v' : Val) (h' : LH), PI.asgT C G tg v σ h ≠ .rt v' h' := by
  intro tg
  induction tg with
  | tName i => intro v σ h v' h' e; cases e
  | tTup ts ih =>
    intro v σ h v' h' e
    simp only [PI.asgT] at e
    split at e
    · split at e
      · exact ih _ _ _ _ _ e
      · cases e
    · cases e
  | nil =>
    intro v σ h v' h' e
    simp only [PI.asgT] at e
    split at e <;> cases e
  | cons t ts iht ihs =>
    intro v σ h v' h' e
    simp only [PI.asgT] at e
    split at e
    · rename_i x l
      cases hq : PI.asgT C G t x σ h with
      | nx σ1 h1 => rw [hq] at e; exact ihs _ _ _ _ _ e
      | rt a b => exact iht _ _ _ _ _ hq
      | exc c σ1 h1 => rw [hq] at e; cases e
      | err => rw [hq] at e; cases e
    · cases e
  | tSub o i _ _ =>
    intro v σ h v' h'
    simp only [PI.asgT]
    exact then_nort fun a h => then_nort fun b h => then_nort fun _ h z => by cases z
  | _ => intro v σ h v' h' e; cases e
theorem asg_imp {tg e : E} : ∀ D σ H, tS C G ca W (.asg tg e) D σ H → tAsg (tE C G ca W e) (tG C G ca W tg) D σ H := by
  intro D σV H ⟨Z, σ, h, μ, rs, rh, g⟩
  simp only [PI.ex] at g
  refine ⟨Z, σ, h, μ, rs, rh, (GoS.then_ rs g).mono fun v h1 μ1 x H1 R1 E1 rx g1 => ?_⟩
  refine ⟨Z, σ, h1, μ1, v, rs.ext E1, R1, rx, ?_⟩
  cases hq : PI.asgT C G tg v σ h1 with
  | nx σ' h' => rw [hq] at g1; exact fun σV' H' μ' a b c _ => g1 σV' H' μ' a b c
  | rt v' h' => exact absurd hq (asgT_nort tg v σ h1 v' h')
  | exc c σ' h' => rw [hq] at g1; exact g1
  | err => rw [hq] at g1; exact g1
theorem tE_mono {e : E} : ∀ σ H Q Q', (∀ x H', Q x H' → Q' x H') → tE C G ca W e σ H Q → tE C G ca W e σ H Q' := fun σV H Q Q' f ⟨Z, σ, h, μ, rs, rh, g⟩ =>
  ⟨Z, σ, h, μ, rs, rh, g.mono fun v h1 μ1 x H1 R1 E1 rx q => f _ _ q⟩
theorem sw_none {t x : Expr} {line : Nat} {env : Env} (hk : env.scope.kind = .function) (h : (match t with | .Name y py => swN env.scope y py x | .Subscript _ _ _ => true | .Tuple _ _ _ => true | _ => false) = true) (hc : noComp x = true ∨ ∃ a b c d, x = .ListComp a b c d) : swapsWithSole [t] x line env = pure false := by
  rcases hc with hc | ⟨el, gs, scope, pos, rfl⟩
  · cases x <;> first | (simp [noComp] at hc; done) | (cases t <;> rfl)
  · cases t <;> first | rfl | skip
    rename_i y py
    simp only [swN, Bool.not_eq_true'] at h
    have hb : env.blockKind = .function := by unfold Env.blockKind; rw [hk]; rfl
    show swapsWith (.ListComp el gs scope pos) (some (.Name y py)) line env = pure false
    unfold swapsWith
    have hkd : (env.kindOf y == some NameKind.local) = (match env.scope.names.lookup y with | some .local => true | _ => false) := by
      show (env.scope.names.lookup y == some NameKind.local) = _
      cases env.scope.names.lookup y with
      | none => rfl
      | some k0 => cases k0 <;> rfl
    have : (env.blockKind == .function && env.kindOf y == some .local && py.line == (Expr.ListComp el gs scope pos).pos.line && !(scope.names.any fun (n, k) => n == y && (k == .local || k == .cell))) = false := by
      rw [hkd, hb]
      exact h
    simp only [this]
    first | rfl | done
theorem stores_none {t x : Expr} {env : Env} (h : (match t with | .Name _ _ => true | .Subscript _ _ _ => true | .Tuple _ _ _ => !isTupX x | _ => false) = true) : swappedStores [t] x env = pure none := by
  cases t <;> first | cases h | skip
  all_goals (cases x <;> first | rfl | (simp [isTupX] at h))
theorem chk_comp (e : E) : ∀ (sc : Scope) (x : Expr), chk T e sc x = true → noComp x = true ∨ ∃ a b c d, x = .ListComp a b c d := by
  induction e with
  | frz e ih => intro sc x h; simp only [chk, Bool.and_eq_true] at h; exact ih sc x h.2
  | comp m own tg it cond elt _ _ _ _ =>
    intro sc x h
    cases x <;> first | exact .inl rfl | exact .inr ⟨_, _, _, _, rfl⟩ | (simp [chk] at h)
  | _ => intro sc x h; cases x <;> first | exact .inl rfl | (simp [chk] at h)
/-- a comprehension's parts, at a def's own level -/
theorem comp_parts {m : Bool} {own : List Nat} {tg it cond elt : E} (κ : Ctx T C ca k sc X W) {y : Str} {py pos spos : Pos} {i : Nat} {el : Expr} {gs : List Comprehension} {scope : Scope}
    (h : chk T (.comp m own tg it cond elt) sc (.ListComp el gs scope pos) = true) (hy : X.N[i]? = some y) (hyl : X.env.scope.names.lookup y = some .local)
    (hsw : swapsWith (.ListComp el gs scope pos) (some (.Name y py)) spos.line X.env = pure true) :
    PS X (.Assign [.Name y py] (.ListComp el gs scope pos) spos) (tAsg (tE C G ca W (.comp m own tg it cond elt)) (gName i)) := by
  unfold chk at h
  split at h <;> try contradiction
  rename_i q q2
  cases q
  cases q2
  rename_i t0 i0 ifs
  simp only [Bool.and_eq_true, decide_eq_true_eq] at h
  obtain ⟨⟨⟨⟨⟨⟨⟨h1, h2⟩, h3⟩, h4⟩, h5⟩, h6⟩, h7⟩, h8⟩ := h
  have hsub : ∀ j ∈ PI.tslots tg, j ∈ own := fun j hj => by
    have := List.all_eq_true.mp h6 j hj
    simpa using this
  have ok : BlkOk X.N X.env.scope scope (own.map fun i => (T.N.getD i "", i)) := by
    rw [κ.names, κ.scope]
    exact blkOk_by h1
  have tgs : ∀ (s : Shared) (H : Hp) (c : Addr) (cl : List (Str × Addr)) (fp : List Addr), PG (X.blk s H scope (compEnvC scope cl c X.env) fp) t0 (tG C G ca W0 tg) := fun s H c cl fp =>
    (okT (T := T) (sc := scope) (X := X.blk s H scope (compEnvC scope cl c X.env) fp) (W := W0) κ.calm κ.names κ.nd κ.hu (fun x hx => blk_loc hx) tg (.inr h5)).1 t0 h4
  have els : ∀ (s : Shared) (H : Hp) (c : Addr) (cl : List (Str × Addr)) (fp : List Addr), PE (X.blk s H scope (compEnvC scope cl c X.env) fp) el (tE C G ca W0 elt) := fun s H c cl fp =>
    ((sound_all elt).one k _ _ W0 (κ.blk s H scope c cl fp) el h7).pe
  have tts : ∀ (s : Shared) (H : Hp) (c : Addr) (cl : List (Str × Addr)) (fp : List Addr), PTs (X.blk s H scope (compEnvC scope cl c X.env) fp) ifs (tB (tE C G ca W0 cond)) := fun s H c cl fp => by
    split at h8
    · refine ⟨fun pins s0 σ H0 Q I hh => pts_nil.run pins s0 σ H0 Q I ?_⟩
      obtain ⟨Z, σ', h, μ, rs, rh, g⟩ := hh
      simp only [PI.ev] at g
      obtain ⟨b, e, q⟩ := g (.bl true) H0 μ rh (Ext.refl _ _) (rep_bl.mpr rfl)
      cases e
      exact q
    · exact pts_one ((sound_all cond).one k _ _ W0 (κ.blk s H scope c cl fp) _ h8).pt
    · cases h8
  have ps := ps_setLc (spos := spos) (py := py) κ.calm (by rw [κ.names]; exact κ.nd) hy hyl hsw ((sound_all (G := G) it).iter k _ X W κ t0 i0 h3) ok tgs tts els (folded (chkI_plain h3) X.env)
  rw [own_map] at ps
  exact PS.imp ps fun D σ H q => comp_f hsub σ H _ q
theorem ps_asgS (κ : CtxS T C ca k sc X W) {tg e : E} {t x : Expr} {pos : Pos} (ht : chkT T tg sc t = true) (hx : chk T e sc x = true) (hm : tgB sc x t = true) : PS X (.Assign [t] x pos) (tS C G ca W (.asg tg e)) := by
  have hk : X.env.scope.kind = .function := by rw [κ.ctx.scope]; exact κ.kind
  have hcmp := chk_comp (T := T) e sc x hx
  have h1 : (assignEach [t] X.env).map (·.2) = [assign t X.env] := by cases t <;> first | rfl | (simp [tgB] at hm)
  have hst : swappedStores [t] x X.env = pure none := stores_none (by cases t <;> first | rfl | exact hm | (simp [tgB] at hm))
  by_cases hN : swapsWithSole [t] x pos.line X.env = pure false
  · exact PS.imp (ps_asg (κ.ex hx).pe (κ.tg ht) hN hst h1) asg_imp
  · -- name = [..], on one row
    cases t with
    | Name y py =>
      simp only [tgB, Bool.or_eq_true] at hm
      rcases hm with hm | hm
      · cases x <;> first | (simp [swB] at hm; done) | skip
        rename_i el gs scope lp
        have hcp : ∀ e : E, chk T e sc (.ListComp el gs scope lp) = true → PS X (.Assign [.Name y py] (.ListComp el gs scope lp) pos) (tAsg (tE C G ca W e) (tG C G ca W tg)) := by
          have hm' := hm
          simp only [swB, Bool.and_eq_true, Bool.not_eq_true'] at hm'
          obtain ⟨⟨q1, q2⟩, q3⟩ := hm'
          have hyl : X.env.scope.names.lookup y = some .local := by
            rw [κ.ctx.scope]
            split at q1
            · rename_i e; exact e
            · cases q1
          have sw : swapsWith (.ListComp el gs scope lp) (some (.Name y py)) pos.line X.env = pure true := sw_true hk hyl q2 q3
          obtain ⟨i, rfl⟩ : ∃ i, tg = .tName i := by cases tg <;> first | exact ⟨_, rfl⟩ | (simp [chkT] at ht)
          simp only [chkT, Bool.and_eq_true, decide_eq_true_eq] at ht
          have hyi : X.N[i]? = some y := by rw [κ.ctx.names]; exact ht.1
          have fin : ∀ {te : TE}, PS X (.Assign [.Name y py] (.ListComp el gs scope lp) pos) (tAsg te (gName i)) → (∀ σ H Q Q', (∀ x H', Q x H' → Q' x H') → te σ H Q → te σ H Q') → PS X (.Assign [.Name y py] (.ListComp el gs scope lp) pos) (tAsg te (tG C G ca W (.tName i))) := fun {te} p mono => PS.imp p fun D σ H q =>
            mono σ H _ _ (fun x H' ⟨Z, σ', h, μ, a, rs, rh, ra, g⟩ => by
              simp only [PI.asgT] at g
              exact g _ H' μ (rs.set ra) rh (Ext.refl _ _) fun own hown => wipe_set (hown i (by simp [PI.tslots]))) q
          intro e he
          induction e with
          | comp m own tg it cond elt _ _ _ _ => exact fin (comp_parts κ.ctx he hyi hyl sw) tE_mono
          | frz e ih =>
            simp only [chk, Bool.and_eq_true] at he
            cases e <;> first | (simp [isVarE] at he; done) | skip
            simp [chk] at he
          | _ => simp [chk] at he
        exact PS.imp (hcp e hx) asg_imp
      · exact absurd (sw_none hk (by rw [κ.ctx.scope]; exact hm) hcmp) hN
    | Subscript v s p => exact absurd (sw_none (t := .Subscript v s p) hk rfl hcmp) hN
    | Tuple l j p => exact absurd (sw_none (t := .Tuple l j p) hk rfl hcmp) hN
    | _ => simp [tgB] at hm
/-! ### what new objects leave behind -/
mutual
theorem mapRef_id : ∀ v : Val, PI.mapRef id v = v
  | .non => rfl
  | .bl _ => rfl
  | .int _ => rfl
  | .str _ => rfl
  | .tup xs => by simp only [PI.mapRef, mapRefs_id xs]
  | .ftup xs => by simp only [PI.mapRef, mapRefs_id xs]
  | .lst xs => by simp only [PI.mapRef, mapRefs_id xs]
  | .dct t ks vs => by simp only [PI.mapRef, mapRefs_id ks, mapRefs_id vs]
  | .ref _ => rfl
  | .fn _ => rfl
  | .exc _ => rfl
theorem mapRefs_id : ∀ v : List Val, PI.mapRefs id v = v
  | [] => rfl
  | x :: xs => by simp only [PI.mapRefs, mapRef_id x, mapRefs_id xs]
end
theorem mapObj_id (o : Ob) : PI.mapObj id o = o ∨ ∃ c fs, o = .ins c fs := by
  cases o with
  | lst xs => exact .inl (by simp only [PI.mapObj, mapRefs_id])
  | dct t ks vs => exact .inl (by simp only [PI.mapObj, mapRefs_id])
  | ins c fs => exact .inr ⟨_, _, rfl⟩
  | dead => exact .inl rfl
theorem below_of {n : Nat} {ls : List Nat} (h : PI.below n ls = true) : ∀ l ∈ ls, l < n := fun l hl => by
  unfold PI.below at h
  simpa using List.all_eq_true.mp h l hl
theorem live_take {μ : Mu} {n : Nat} {a : Addr} (h : Live (μ.take n) a) : Live μ a := by
  obtain ⟨l, e⟩ := h
  rw [List.getElem?_take] at e
  split at e
  · exact ⟨l, e⟩
  · cases e
theorem fz_take {Z : Addr → Prop} {μ : Mu} {n : Nat} {a : Addr} (h : Fz Z μ a) : Fz Z (μ.take n) a := ⟨fun q => h.1 (live_take q), h.2⟩
theorem take_get {α : Type} {xs : List α} {n l : Nat} {o : α} (h : l < n) (e : xs[l]? = some o) : (xs.take n)[l]? = some o := by
  rw [List.getElem?_take, if_pos h]; exact e
theorem Rep.take {Z : Addr → Prop} {μ : Mu} {H : L2.Hp} {n : Nat} {v : Val} {x : V} (hb : PI.below n (PI.refsOf v) = true) (r : Rep Z μ H v x) : Rep Z (μ.take n) H v x := by
  have q := Rep.map (Z' := Z) (μ' := μ.take n) (g := id) (fun _ _ _ f => fz_take f) v x (fun l hl o e => take_get (below_of hb l hl) e) r
  rwa [mapRef_id] at q
theorem RelH.take {Z : Addr → Prop} {μ : Mu} {h : LH} {H : L2.Hp} (r : RelH Z μ h H) {n : Nat} (hc : ((h.take n).all fun o => PI.below n (PI.objRefs o)) = true) : RelH Z (μ.take n) (h.take n) H where
  len := by rw [List.length_take, List.length_take, r.len]
  at_ := fun l a e => by
    rw [List.getElem?_take] at e
    split at e
    · rename_i hl
      obtain ⟨o, e1, q⟩ := r.at_ l a e
      have e2 : (h.take n)[l]? = some o := take_get hl e1
      have hb := List.all_eq_true.mp hc o (List.mem_of_getElem? e2)
      have q' := RepO.map (Z' := Z) (μ' := μ.take n) (g := id) (fun _ _ _ f => fz_take f) (fun m hm o' e' => take_get (below_of hb m hm) e') q
      refine ⟨o, e2, ?_⟩
      rcases mapObj_id o with q2 | ⟨c, fs, rfl⟩
      · rwa [q2] at q'
      · exact q.elim
    · cases e
  inj := fun l l' a e e' => by
    rw [List.getElem?_take] at e e'
    split at e <;> split at e' <;> first | exact r.inj l l' a e e' | cases e | cases e'
  dead := fun l e => by
    rw [List.getElem?_take] at e ⊢
    split at e
    · rename_i hl; rw [if_pos hl]; exact r.dead l e
    · cases e
  apart := fun a la => r.apart a (live_take la)
  kept := r.kept
theorem Ext.take {μ μ' : Mu} {H H' : L2.Hp} (E' : Ext μ H μ' H') {n : Nat} (hn : μ.length ≤ n) : Ext μ H (μ'.take n) H' where
  len := by rw [List.length_take]; have := E'.len; omega
  old := fun l a hl e => by
    rw [List.getElem?_take] at e
    split at e
    · exact E'.old l a hl e
    · cases e
  new := fun l a hl e => by
    rw [List.getElem?_take] at e
    split at e
    · exact E'.new l a hl e
    · cases e
  frame := E'.frame
  dom := E'.dom
/-- a scoped block -/
theorem scoped_imp {b : S} : ∀ D σ H, tS C G ca W (.scoped b) D σ H → tS C G ca W b D σ H := by
  intro D σV H ⟨Z, σ, h, μ, rs, rh, g⟩
  simp only [PI.ex] at g
  refine ⟨Z, σ, h, μ, rs, rh, ?_⟩
  cases hb : PI.ex C G b σ h with
  | nx σ1 h1 =>
    rw [hb] at g
    simp only [PI.RS.bind, PI.leave] at g
    split at g
    · rename_i hc
      intro σV' H' μ' rs' R' E'
      refine g σV' H' (μ'.take h.length) ⟨by simp [rs'.1], fun i v e => ?_⟩ (R'.take hc) (E'.take (by rw [rh.len]; exact Nat.le_refl _))
      rw [List.getElem?_map] at e
      cases h0 : σ1[i]? with
      | none => rw [h0] at e; cases e
      | some o =>
        rw [h0] at e
        simp only [Option.map_some, Option.some.injEq] at e
        cases o with
        | none => cases e
        | some w =>
          simp only [Option.bind_some] at e
          split at e
          · rename_i hw
            cases e
            obtain ⟨x, a, r⟩ := rs'.2 i v h0
            exact ⟨x, a, Rep.take hw r⟩
          · cases e
    · exact g.elim
  | rt v h1 => rw [hb] at g; exact g
  | exc c σ1 h1 => rw [hb] at g; exact g
  | err => rw [hb] at g; exact g
theorem if_bool {Z : Addr → Prop} {μ : Mu} {H : L2.Hp} {Wn : Nat → SV → L2.Hp → Prop} {K : PI.Env → LH → Mu → SV → L2.Hp → Prop} {Rt : V → L2.Hp → Prop} {v : Val} {x : V} {p q : RS} (rx : Rep Z μ H v x)
    (g : GoS Z μ H Wn K Rt (PI.onBS v p q)) : (x = .bl true ∧ GoS Z μ H Wn K Rt p) ∨ (x = .bl false ∧ GoS Z μ H Wn K Rt q) := by
  cases v <;> first | exact g.elim | skip
  rename_i b
  cases b with
  | true => exact .inl ⟨rep_bl.mp rx, g⟩
  | false => exact .inr ⟨rep_bl.mp rx, g⟩
theorem if_imp {c : E} {a b : S} : ∀ D σ H, tS C G ca W (.ife c a b) D σ H → tIfS (tB (tE C G ca W c)) (tS C G ca W a) (tS C G ca W b) D σ H := by
  intro D σV H ⟨Z, σ, h, μ, rs, rh, g⟩
  simp only [PI.ex] at g
  refine ⟨Z, σ, h, μ, rs, rh, (GoS.then_ rs g).mono fun v h1 μ1 x H1 R1 E1 rx g1 => ?_⟩
  rcases if_bool rx g1 with ⟨rfl, g2⟩ | ⟨rfl, g2⟩
  · exact ⟨true, rfl, iteT ⟨Z, σ, h1, μ1, rs.ext E1, R1, g2⟩⟩
  · exact ⟨false, rfl, iteF ⟨Z, σ, h1, μ1, rs.ext E1, R1, g2⟩⟩
theorem while_imp {c : E} {b : S} : ∀ D σ H, tS C G ca W (.whl c b) D σ H → tWhile (tB (tE C G ca W c)) (tS C G ca W b) D σ H := by
  intro D σV H ⟨Z, σ, h, μ, rs, rh, g⟩
  simp only [PI.ex] at g
  refine ⟨fun m σV' H' => ∃ σ' h' μ', RelS Z μ' H' σ' σV' ∧ RelH Z μ' h' H' ∧ GoS Z μ' H' (fun c σV' H' => W (.ref (ca c)) none σV' H') (fun _ _ _ σV' H' => D.nx σV' H') D.rt (PI.whileGo (PI.ex C G b) (PI.ev C G c) m σ' h'),
    ⟨PI.WF, σ, h, μ, rs, rh, g⟩, fun m σV' H' ⟨σ', h', μ', rs', rh', g'⟩ => ?_⟩
  cases m with
  | zero => exact g'.elim
  | succ m =>
    simp only [PI.whileGo] at g'
    refine ⟨Z, σ', h', μ', rs', rh', (GoS.then_ rs' g').mono fun v h1 μ1 x H1 R1 E1 rx g1 => ?_⟩
    rcases if_bool rx g1 with ⟨rfl, g2⟩ | ⟨rfl, g2⟩
    · refine ⟨true, rfl, iteT ⟨fun σV'' H'' => ∃ σ' h' μ', RelS Z μ' H'' σ' σV'' ∧ RelH Z μ' h' H'' ∧ GoS Z μ' H'' (fun c σV' H' => W (.ref (ca c)) none σV' H') (fun _ _ _ σV' H' => D.nx σV' H') D.rt (PI.whileGo (PI.ex C G b) (PI.ev C G c) m σ' h'),
        fun σ'' H'' q => ⟨m, Nat.lt_succ_self m, q⟩, Z, σ', h1, μ1, rs'.ext E1, R1, ?_⟩⟩
      exact (GoS.bind g2).mono fun σ2 h2 μ2 σV2 H2 rs2 R2 E2 g3 => ⟨σ2, h2, μ2, rs2, R2, g3⟩
    · exact ⟨false, rfl, iteF (g2 σV' H1 μ1 (rs'.ext E1) R1 (Ext.refl _ _))⟩
theorem for_imp {tg it : E} {b : S} : ∀ D σ H, tS C G ca W (.for tg it b) D σ H → tFor (tI C G ca W it) (tG C G ca W tg) (tS C G ca W b) D σ H := by
  intro D σV H ⟨Z, σ, h, μ, rs, rh, g⟩
  simp only [PI.ex] at g
  refine ⟨Z, σ, h, μ, rs, rh, ?_⟩
  cases hi : PI.ev C G it σ h with
  | err => rw [hi] at g; exact g.elim
  | exc c h1 =>
    rw [hi] at g
    exact fun H' μ' R' E' => g σV H' μ' (rs.ext E') R' E'
  | ok w h1 =>
    rw [hi] at g
    simp only [PI.R.then] at g
    cases w <;> first | exact g.elim | skip
    rename_i t src items
    intro J H1 μ1 R1 E1 Fd
    simp only at g
    refine ⟨fun i m σV' H' => i + m = items.length ∧ ∃ σ' h' μ', RelS Z μ' H' σ' σV' ∧ RelH Z μ' h' H' ∧ Ext μ1 H1 μ' H' ∧
      GoS Z μ' H' (fun c σV' H' => W (.ref (ca c)) none σV' H') (fun _ _ _ σV' H' => D.nx σV' H') D.rt (PI.forGo (PI.stays src) (fun x σ h => (PI.asgT C G tg x σ h).bind fun σ h => PI.ex C G b σ h) (items.drop i) σ' h'),
      ⟨items.length, by simp, σ, h1, μ1, rs.ext E1, R1, Ext.refl _ _, by rw [List.drop_zero]; exact g.shift E1⟩, ?_⟩
    rintro i m σV' H' ⟨him, σ', h', μ', rs', R', E', g'⟩
    by_cases hlt : i < items.length
    · rw [List.drop_eq_getElem_cons hlt] at g'
      simp only [PI.forGo] at g'
      split at g'
      · rename_i st
        obtain ⟨jg, jy⟩ := Fd.go Z i μ' h' H' items[i] ZNew.refl E' R' st (List.getElem?_eq_getElem hlt)
        refine .inr ⟨jg, fun σV'' H'' => ∃ σ' h' μ', RelS Z μ' H'' σ' σV'' ∧ RelH Z μ' h' H'' ∧ Ext μ1 H1 μ' H'' ∧
          GoS Z μ' H'' (fun c σV' H' => W (.ref (ca c)) none σV' H') (fun _ _ _ σV' H' => D.nx σV' H') D.rt (PI.forGo (PI.stays src) (fun x σ h => (PI.asgT C G tg x σ h).bind fun σ h => PI.ex C G b σ h) (items.drop (i + 1)) σ' h'),
          fun σ'' H'' q => ⟨m - 1, by omega, by omega, q⟩, fun y H2 hy => ?_⟩
        obtain ⟨R2, E2, ry⟩ := jy y H2 hy
        have g2 := GoS.bind (GoS.bind (g'.shift E2))
        refine ⟨Z, σ', h', μ', items[i], rs'.ext E2, R2, ry, ?_⟩
        cases hq : PI.asgT C G tg items[i] σ' h' with
        | nx σ3 h3 =>
          rw [hq] at g2
          intro σV3 H3 μ3 rs3 R3 E3 _
          refine ⟨Z, σ3, h3, μ3, rs3, R3, ?_⟩
          have g3 := g2 σV3 H3 μ3 rs3 R3 E3
          exact g3.mono fun σ4 h4 μ4 σV4 H4 rs4 R4 E4 g4 => ⟨σ4, h4, μ4, rs4, R4, ((E'.trans E2).trans E3).trans E4, g4⟩
        | rt v4 h4 => exact absurd hq (asgT_nort tg _ _ _ v4 h4)
        | exc c σ4 h4 => rw [hq] at g2; exact g2
        | err => rw [hq] at g2; exact g2
      · exact g'.elim
    · have ei : i = items.length := by omega
      subst ei
      rw [List.drop_length] at g'
      simp only [PI.forGo] at g'
      split at g'
      · rename_i st
        exact .inl ⟨Fd.stop Z μ' h' H' ZNew.refl E' R' st, g' σV' H' μ' rs' R' (Ext.refl _ _)⟩
      · exact g'.elim
/-- every statement, every block -/
theorem sound_stm (κ : CtxS T C ca k sc X W) : ∀ s : S, (∀ st, chkS T s sc st = true → PS X st (tS C G ca W s)) ∧ (∀ l, chkS.chkB T s sc l = true → PSs X l (tS C G ca W s)) := by
  intro s
  induction s with
  | nil =>
    refine ⟨fun st h => by simp [chkS] at h, fun l h => ?_⟩
    cases l <;> simp only [chkS.chkB, Bool.false_eq_true] at h
    exact PSs.imp pss_nil fun D σV H ⟨Z, σ, h, μ, rs, rh, g⟩ => g σV H μ rs rh (Ext.refl _ _)
  | seq a b iha ihb =>
    refine ⟨fun st h => by simp [chkS] at h, fun l h => ?_⟩
    cases l <;> simp only [chkS.chkB, Bool.false_eq_true, Bool.and_eq_true] at h
    refine PSs.imp (pss_cons (iha.1 _ h.1) (ihb.2 _ h.2)) fun D σV H ⟨Z, σ, h, μ, rs, rh, g⟩ => ?_
    simp only [PI.ex] at g
    exact ⟨Z, σ, h, μ, rs, rh, (GoS.bind g).mono fun σ1 h1 μ1 σV1 H1 rs1 R1 E1 g1 => ⟨Z, σ1, h1, μ1, rs1, R1, g1⟩⟩
  | asg tg e =>
    refine ⟨fun st h => ?_, fun l h => by simp [chkS.chkB] at h⟩
    unfold chkS at h
    split at h <;> try contradiction
    rename_i q; cases q
    simp only [Bool.and_eq_true] at h
    exact ps_asgS κ h.1.1 h.1.2 h.2
  | expr e =>
    refine ⟨fun st h => ?_, fun l h => by simp [chkS.chkB] at h⟩
    unfold chkS at h
    split at h <;> try contradiction
    rename_i q; cases q
    simp only [Bool.and_eq_true] at h
    refine PS.imp (ps_expr (CtxS.ex (G := G) κ h.1).pe ?_) fun D σV H ⟨Z, σ, h, μ, rs, rh, g⟩ => ?_
    · have hn := h.2
      rename_i x pos
      cases x <;> first | rfl | (simp [noComp] at hn)
    · simp only [PI.ex] at g
      exact ⟨Z, σ, h, μ, rs, rh, (GoS.then_ rs g).mono fun v h1 μ1 x H1 R1 E1 rx g1 => g1 σV H1 μ1 (rs.ext E1) R1 (Ext.refl _ _)⟩
  | ret e =>
    refine ⟨fun st h => ?_, fun l h => by simp [chkS.chkB] at h⟩
    unfold chkS at h
    split at h <;> try contradiction
    rename_i q; cases q
    refine PS.imp (ps_ret (CtxS.ex (G := G) κ h).pe) fun D σV H ⟨Z, σ, h, μ, rs, rh, g⟩ => ?_
    simp only [PI.ex] at g
    exact ⟨Z, σ, h, μ, rs, rh, (GoS.then_ rs g).mono fun v h1 μ1 x H1 R1 E1 rx g1 => g1 x H1 μ1 R1 (Ext.refl _ _) rx⟩
  | retN =>
    refine ⟨fun st h => ?_, fun l h => by simp [chkS.chkB] at h⟩
    unfold chkS at h
    split at h <;> try contradiction
    exact PS.imp ps_retN fun D σV H ⟨Z, σ, h, μ, rs, rh, g⟩ => g .non H μ rh (Ext.refl _ _) (rep_non.mpr rfl)
  | ife c a b iha ihb =>
    refine ⟨fun st h => ?_, fun l h => by simp [chkS.chkB] at h⟩
    unfold chkS at h
    split at h <;> try contradiction
    rename_i q; cases q
    simp only [Bool.and_eq_true] at h
    exact PS.imp (ps_if (CtxS.ex (G := G) κ h.1.1).pt (iha.2 _ h.1.2) (ihb.2 _ h.2)) if_imp
  | whl c b ih =>
    refine ⟨fun st h => ?_, fun l h => by simp [chkS.chkB] at h⟩
    unfold chkS at h
    split at h <;> try contradiction
    rename_i q; cases q
    simp only [Bool.and_eq_true] at h
    exact PS.imp (ps_while κ.own (CtxS.ex (G := G) κ h.1).pt (ih.2 _ h.2)) while_imp
  | «for» tg it b ih =>
    refine ⟨fun st h => ?_, fun l h => by simp [chkS.chkB] at h⟩
    unfold chkS at h
    split at h <;> try contradiction
    rename_i q; cases q
    simp only [Bool.and_eq_true] at h
    exact PS.imp (ps_for κ.own κ.ctx.calm ((sound_all (G := G) it).iter k _ X W κ.ctx _ _ h.1.2) (CtxS.tg (G := G) κ h.1.1) (ih.2 _ h.2) (folded (chkI_plain h.1.2) X.env)) for_imp
  | never =>
    refine ⟨fun st h => PS.imp ps_never fun D σV H ⟨Z, σ, h, μ, rs, rh, g⟩ => g.elim, fun l h => by simp [chkS.chkB] at h⟩
  | «scoped» b ih =>
    refine ⟨fun st h => by simp [chkS] at h, fun l h => ?_⟩
    simp only [chkS.chkB] at h
    exact PSs.imp (ih.2 l h) scoped_imp
end
end PIS

/-! Every checked def, as deep as it is called. -/
namespace PIS
open PySem PySem.Spec PyProof.Rows L2
open PI (Val Ob LH R E S CallT RS)
/-- a def: its number, its name, its text, its slots, its parameters, its term -/
structure DRow where
  id : Nat
  name : Str
  st : Stmt
  N : List Str
  ps : List Str
  d : PI.Def
def rowOf (rows : List DRow) (f : Nat) : Option DRow := rows.find? fun r => r.id == f
def tabOf (rows : List DRow) (N : List Str) : Tab := ⟨N, fun f => ((rowOf rows f).map (·.name)).getD "", fun f => (rowOf rows f).isSome, fun _ => "", fun _ => false⟩
def defT (rows : List DRow) (f : Nat) : Option PI.Def := (rowOf rows f).map (·.d)
/-- FnScope, by evaluation -/
def fnScB (N ps : List Str) (sc : Scope) : Bool :=
  (match sc.kind with | .function => true | _ => false) && !sc.isCoroutine && !sc.isGenerator && decide N.Nodup && decide (N.take ps.length = ps) && (ps.all fun x => locB sc x) && sc.names.all fun y => match y.2 with | .free => false | _ => true
theorem fnSc_of {N ps : List Str} {sc : Scope} (h : fnScB N ps sc = true) : FnScope N ps sc := by
  unfold fnScB at h
  simp only [Bool.and_eq_true, Bool.not_eq_true', decide_eq_true_eq] at h
  obtain ⟨⟨⟨⟨⟨⟨h1, h2⟩, h3⟩, h4⟩, h5⟩, h6⟩, h7⟩ := h
  refine ⟨?_, h2, h3, h4, h5, fun x hx => ?_, fun y hy e => ?_⟩
  · split at h1
    · rename_i e; exact e
    · cases h1
  · have := List.all_eq_true.mp h6 x hx
    unfold locB at this
    split at this
    · rename_i e; exact .inl e
    · rename_i e; exact .inr e
    · cases this
  · have := List.all_eq_true.mp h7 y hy
    rw [e] at this; cases this
/-- a row's text is the term's -/
def rowB (rows : List DRow) (r : DRow) : Bool :=
  chkS.chkB (tabOf rows r.N) r.d.body (defScope r.st) (defBody r.st) && fnScB r.N r.ps (defScope r.st) && decide (r.d.np = r.ps.length) && decide (r.d.ns = r.N.length)
section
variable {P : Program} {w : World} {K : PySem.W.Frag} {mg : Str → Option Value} {base : Heap} {ca : Nat → Addr}
/-- what the top says of a def -/
def DefAt (K : PySem.W.Frag) (mg : Str → Option Value) (r : DRow) : Prop := ∃ a fd, mg r.name = some (.ref a) ∧ Fun K r.name r.name r.st a fd ∧ Binds K fd r.ps []
theorem start_rel {Z : Addr → Prop} {μ : Mu} {H : L2.Hp} {d : PI.Def} {N : List Str} {as : List Val} {vs : List V} (hn : d.ns = N.length) (r : Reps Z μ H as vs) : RelS Z μ H (PI.start d as) (L2.start N vs) := by
  unfold PI.start L2.start
  have hl := r.length
  refine ⟨by simp [hl, hn], fun i v e => ?_⟩
  by_cases hi : i < as.length
  · rw [List.getElem?_append_left (by simpa using hi), List.getElem?_map] at e
    simp only [Option.map_eq_some_iff] at e
    obtain ⟨x, e1, e2⟩ := e
    cases e2
    obtain ⟨y, h1, h2⟩ := r.get e1
    refine ⟨y, ?_, h2⟩
    rw [List.getElem?_append_left (by simp; omega), List.getElem?_map, h1]; rfl
  · rw [List.getElem?_append_right (by simp; omega)] at e
    rw [List.getElem?_replicate] at e
    split at e <;> cases e
theorem fin_go {Z : Addr → Prop} {μ : Mu} {h : LH} {H : L2.Hp} {Ex : XK} {Q : VK} {rs : RS} (R0 : RelH Z μ h H) (g : Go Z μ H (fun c H' => Ex (.ref (ca c)) none H') (fun _ _ _ x H' => Q x H') (PI.fin h.length rs)) :
    GoS Z μ H (fun c _ H' => Ex (.ref (ca c)) none H') (fun _ _ _ _ H' => Q .non H') Q rs := by
  have hn : μ.length ≤ h.length := by rw [R0.len]; exact Nat.le_refl _
  have trim : ∀ {h1 : LH} {μ' : Mu} {H' : L2.Hp}, RelH Z μ' h1 H' → Ext μ H μ' H' → ∃ μ'', RelH Z μ'' (PI.trimTo h.length h1) H' ∧ Ext μ H μ'' H' ∧ (μ'' = μ' ∨ μ'' = μ'.take h.length) := fun {h1 μ' H'} R' E' => by
    unfold PI.trimTo
    split
    · rename_i hc; exact ⟨_, R'.take hc, E'.take hn, .inr rfl⟩
    · exact ⟨μ', R', E', .inl rfl⟩
  cases rs with
  | nx σ h1 =>
    intro σV' H' μ' _ R' E'
    obtain ⟨μ'', a, b, _⟩ := trim R' E'
    exact g .non H' μ'' a b (rep_non.mpr rfl)
  | rt v h1 =>
    intro x H' μ' R' E' rx
    have g' : Go Z μ H (fun c H' => Ex (.ref (ca c)) none H') (fun _ _ _ x H' => Q x H') (if PI.below h.length (PI.refsOf v) then .ok v (PI.trimTo h.length h1) else .ok v h1) := g
    by_cases hv : PI.below h.length (PI.refsOf v) = true
    · rw [if_pos hv] at g'
      obtain ⟨μ'', a, b, c⟩ := trim R' E'
      refine g' x H' μ'' a b ?_
      rcases c with rfl | rfl
      · exact rx
      · exact Rep.take hv rx
    · rw [if_neg hv] at g'
      exact g' x H' μ' R' E' rx
  | exc c σ h1 =>
    intro σV' H' μ' _ R' E'
    obtain ⟨μ'', a, b, _⟩ := trim R' E'
    exact g H' μ'' a b
  | err => exact g
/-- the defs, as deep as they are called -/
theorem defs_ok (rows : List DRow) (hB : rows.all (rowB rows) = true) (G : Nat → Val) (hD : ∀ r ∈ rows, DefAt K mg r)
    (hblt : ∀ b : Str, b ∈ (["len", "list", "tuple", "any", "all", "sum", "max", "min", "abs", "int", "sorted", "isinstance", "range", "enumerate", "zip", "bool", "str"] : List Str) → mg b = none) :
    ∀ (n : Nat) (r : DRow), rowOf rows r.id = some r → ∃ a fd, mg r.name = some (.ref a) ∧ FnOk P w K mg base (L2.CX P w) n a fd r.ps (spI (PI.callN (defT rows) G n) ca r.id) ∧ PySem.W.keepIn K (.ref a) = true ∧ Binds K fd r.ps [] ∧ Fun K r.name r.name r.st a fd := by
  intro n
  induction n with
  | zero =>
    intro r hr
    obtain ⟨a, fd, m, F, b⟩ := hD r (List.mem_of_find?_eq_some hr)
    refine ⟨a, fd, m, ⟨fun vs H Q E' ⟨Z, μ, h, as, _, _, g⟩ => g.elim, fun A outer s H args us vs Q E' _ _ _ _ ⟨Z, μ, h, as, _, _, g⟩ => g.elim⟩, F.kp, b, F⟩
  | succ n ih =>
    intro r hr
    have hm := List.mem_of_find?_eq_some hr
    obtain ⟨a, fd, m, F, b⟩ := hD r hm
    refine ⟨a, fd, m, ?_, F.kp, b, F⟩
    have hb := List.all_eq_true.mp hB r hm
    unfold rowB at hb
    simp only [Bool.and_eq_true, decide_eq_true_eq] at hb
    obtain ⟨⟨⟨h1, h2⟩, h3⟩, h4⟩ := hb
    have hS := fnSc_of h2
    have hc : ∀ as h, PI.callN (defT rows) G (n + 1) r.id as h = if as.length = r.d.np then PI.fin h.length (PI.ex (PI.callN (defT rows) G n) G r.d.body (PI.start r.d as) h) else .err := fun as h => by
      show (match defT rows r.id with | some d => _ | none => _) = _
      unfold defT
      rw [hr]; rfl
    have hlen : ∀ vs H Q E', spI (PI.callN (defT rows) G (n + 1)) ca r.id vs H Q E' → vs.length = r.ps.length := fun vs H Q E' ⟨Z, μ, h, as, R0, ra, g⟩ => by
      rw [hc] at g
      split at g
      · rename_i e; rw [← ra.length, e, h3]
      · exact g.elim
    refine F.okX hS hlen fun cdv A outer s H vs Q E' hroom hsp => ?_
    obtain ⟨Z, μ, h, as, R0, ra, g⟩ := hsp
    rw [hc] at g
    split at g
    case isFalse => exact g.elim
    have κ : CtxS (tabOf rows r.N) (PI.callN (defT rows) G n) ca n (defScope r.st) (cxOf (L2.CX P w) P w K mg base r.N r.name (defScope r.st) a cdv A outer s H E') (fun cls d _ H' => E' cls d H') := by
      refine ⟨⟨rfl, rfl, hS.nd, rfl, hroom, takes_of rfl rfl rfl rfl, fun f hf => ?_, hblt⟩, passes_of rfl, fun _ => rfl, hS.kind⟩
      have hf' : (rowOf rows f).isSome = true := hf
      obtain ⟨r', hr'⟩ := Option.isSome_iff_exists.mp hf'
      have hid : r'.id = f := by
        have := List.find?_some hr'
        simpa using this
      subst hid
      obtain ⟨a', fd', m', F', k', b', _⟩ := ih r' hr'
      refine ⟨a', fd', r'.ps, ?_, F', k', b'⟩
      show mg (((rowOf rows r'.id).map (·.name)).getD "") = _
      rw [hr']; exact m'
    refine ⟨_, (sound_stm (G := G) κ r.d.body).2 _ h1, ?_⟩
    exact ⟨Z, PI.start r.d as, h, μ, start_rel h4 ra, R0, fin_go R0 g⟩
end
/-- the script, a frozen list -/
theorem rep_script {H : L2.Hp} {a : Addr} {ns : List Int} (h : H a = some (.lst (ns.map V.int)) ∨ ∃ o, H a = some (.frz o (.lst (ns.map V.int)))) : Rep (fun _ => False) [] H (.lst (ns.map Val.int)) (.ref a) := by
  simp only [Rep]
  refine ⟨a, ns.map V.int, rfl, ⟨fun ⟨l, e⟩ => by simp at e, fun z => z⟩, h, Reps.ofInts ns⟩
theorem relH_nil {H : L2.Hp} : RelH (fun _ => False) [] [] H := ⟨rfl, fun l a e => by simp at e, fun l l' a e => by simp at e, fun l e => by simp at e, fun a ⟨l, e⟩ => by simp at e, fun a z => z.elim⟩
end PIS

/-! From a law's answers to its statement. -/
namespace PIS
open PySem PySem.Spec PyProof.Rows L2
open PI (Val Ob LH R E S CallT RS)
/-- no object of the written part is a list -/
def noListK (K : PySem.W.Frag) : Bool := K.all fun p => match p.2.cls with
  | .type n => !(n == "list")
  | _ => true
theorem mem_look : ∀ {K : PySem.W.Frag} {a : Addr} {o : Obj}, K.lookup a = some o → (a, o) ∈ K
  | [], _, _, e => by cases e
  | (b, u) :: K, a, o, e => by
    rw [List.lookup_cons] at e
    cases h : a == b with
    | true =>
      rw [h] at e
      have hb : a = b := by simpa using h
      cases e
      rw [hb]; exact List.mem_cons_self
    | false =>
      rw [h] at e
      exact List.mem_cons_of_mem _ (mem_look e)
theorem noList_of {K : PySem.W.Frag} (h : noListK K = true) {a : Addr} {o : Obj} (e : K.lookup a = some o) : o.cls ≠ .type "list" := fun z => by
  have hm : (a, o) ∈ K := mem_look e
  have := List.all_eq_true.mp h _ hm
  simp only [z] at this
  simp at this
/-- the law's promise -/
def spLaw (K : PySem.W.Frag) : Sp := fun vs H Q _ => ∃ (a : Addr) (ns : List Int), vs = [.ref a] ∧ SqL K H a (ns.map V.int) ∧ ns.length ≤ 63 ∧ ∀ H', Q (.bl true) H'
theorem law_imp {C : CallT} {ca : Nat → Addr} {K : PySem.W.Frag} {f : Nat} (hK : noListK K = true) (hl : ∀ ns : List Int, ns.length ≤ 63 → ∃ h', C f [.lst (ns.map Val.int)] [] = .ok (.bl true) h') : ∀ vs H Q E', spLaw K vs H Q E' → spI C ca f vs H Q E' := by
  intro vs H Q E' ⟨a, ns, e, hS, hn, q⟩
  subst e
  have hR : H a = some (.lst (ns.map V.int)) ∨ ∃ o, H a = some (.frz o (.lst (ns.map V.int))) := by
    rcases hS with h | ⟨o, its, n, hk, hc, _⟩
    · exact h
    · exact absurd hc (noList_of hK hk)
  obtain ⟨h', he⟩ := hl ns hn
  refine ⟨fun _ => False, [], [], [.lst (ns.map Val.int)], relH_nil, .cons (rep_script hR) .nil, ?_⟩
  rw [he]
  intro x H' μ' _ _ rx
  rw [rep_bl.mp rx]
  exact q H'
section
variable {P : Program} {w : World} {K : PySem.W.Frag} {mg : Str → Option Value} {base : Heap}
/-- the law's def -/
theorem law_fn (rows : List DRow) (hB : rows.all (rowB rows) = true) (G : Nat → Val) (hD : ∀ r ∈ rows, DefAt K mg r)
    (hblt : ∀ b : Str, b ∈ (["len", "list", "tuple", "any", "all", "sum", "max", "min", "abs", "int", "sorted", "isinstance", "range", "enumerate", "zip", "bool", "str"] : List Str) → mg b = none) (hK : noListK K = true)
    (n : Nat) (r : DRow) (hr : rowOf rows r.id = some r) (hl : ∀ ns : List Int, ns.length ≤ 63 → ∃ h', PI.callN (defT rows) G n r.id [.lst (ns.map Val.int)] [] = .ok (.bl true) h') {fa : Addr} {fd : FuncData} (hm : mg r.name = some (.ref fa)) (hF : Fun K r.name r.name r.st fa fd) :
    FnOk P w K mg base (L2.CX P w) n fa fd r.ps (spLaw K) := by
  obtain ⟨a, fd', m, F, _, _, FF⟩ := defs_ok (P := P) (w := w) (K := K) (mg := mg) (base := base) (ca := fun _ => 0) rows hB G hD hblt n r hr
  rw [hm] at m
  cases m
  have e : fd' = fd := by
    obtain ⟨oc, od, kV, doc, pm, an, cdv, ct, osl, e1, l1, _⟩ := hF.ex
    obtain ⟨oc', od', kV', doc', pm', an', cdv', ct', osl', e2, l2, _⟩ := FF.ex
    rw [l1] at l2
    cases l2
    rfl
  subst e
  exact F.imp (law_imp hK hl)
end
/-- nothing is let out of the law -/
theorem cx_false {P : Program} {w : World} {H : Hp} {s s' : Shared} {e : Value} (h : L2.CX P w [] H s (fun _ _ _ => False) e s') : False := by
  obtain ⟨_, _, _, _, _, _, _, _, _, _, _, _, z⟩ := h
  exact z
end PIS

/-! Plain lemmas for the laws: calls, loops, comprehensions of the interpreter. -/
namespace PI
mutual
theorem mapRef_no (g : Nat → Nat) : ∀ v : Val, noRef v = true → mapRef g v = v
  | .non, _ => rfl
  | .bl _, _ => rfl
  | .int _, _ => rfl
  | .str _, _ => rfl
  | .tup xs, h => by simp only [noRef] at h; simp only [mapRef, mapRefs_no g xs h]
  | .ftup xs, h => by simp only [noRef] at h; simp only [mapRef, mapRefs_no g xs h]
  | .lst xs, h => by simp only [noRef] at h; simp only [mapRef, mapRefs_no g xs h]
  | .dct t ks vs, h => by simp only [noRef, Bool.and_eq_true] at h; simp only [mapRef, mapRefs_no g ks h.1, mapRefs_no g vs h.2]
  | .ref _, h => by simp [noRef] at h
  | .fn _, _ => rfl
  | .exc _, _ => rfl
theorem mapRefs_no (g : Nat → Nat) : ∀ v : List Val, noRefs v = true → mapRefs g v = v
  | [], _ => rfl
  | x :: xs, h => by simp only [noRefs, Bool.and_eq_true] at h; simp only [mapRefs, mapRef_no g x h.1, mapRefs_no g xs h.2]
end
mutual
theorem refsOf_no : ∀ v : Val, noRef v = true → refsOf v = []
  | .non, _ => rfl
  | .bl _, _ => rfl
  | .int _, _ => rfl
  | .str _, _ => rfl
  | .tup xs, h => by simp only [noRef] at h; simp only [refsOf, refsOfs_no xs h]
  | .ftup xs, h => by simp only [noRef] at h; simp only [refsOf, refsOfs_no xs h]
  | .lst xs, h => by simp only [noRef] at h; simp only [refsOf, refsOfs_no xs h]
  | .dct t ks vs, h => by simp only [noRef, Bool.and_eq_true] at h; simp only [refsOf, refsOfs_no ks h.1, refsOfs_no vs h.2, List.append_nil]
  | .ref _, h => by simp [noRef] at h
  | .fn _, _ => rfl
  | .exc _, _ => rfl
theorem refsOfs_no : ∀ v : List Val, noRefs v = true → refsOfs v = []
  | [], _ => rfl
  | x :: xs, h => by simp only [noRefs, Bool.and_eq_true] at h; simp only [refsOfs, refsOf_no x h.1, refsOfs_no xs h.2, List.append_nil]
end
variable {C : CallT}
/-- a call that reaches no object -/
theorem callIn_pure {f : Nat} {as : List Val} {v : Val} {h : LH} (ha : noRefs as = true) (hv : noRef v = true) (e : C f as [] = .ok v []) : callIn C f as h = .ok v h := by
  unfold callIn
  rw [refsOfs_no as ha]
  have r : reach h 400 [] [] = some [] := rfl
  have s : sub h [] = some [] := rfl
  simp only [r, s, mapRefs_no _ as ha, e, mapRef_no _ v hv, merge, putAll, List.map_nil, List.drop_nil, List.append_nil]
/-- a call that reaches one list -/
theorem callIn_one {f l : Nat} {as : List Val} {v : Val} {h : LH} {xs ys : List Val} (hl : h[l]? = some (.lst xs)) (hx : noRefs xs = true) (hy : noRefs ys = true) (ha : noRefs as = true) (hv : noRef v = true)
    (e : C f (.ref 0 :: as) [.lst xs] = .ok v [.lst ys]) : callIn C f (.ref l :: as) h = .ok v (h.set l (.lst ys)) := by
  unfold callIn
  have r0 : refsOfs (.ref l :: as) = [l] := by simp only [refsOfs, refsOf, refsOfs_no as ha, List.append_nil]
  have r : reach h 400 [l] [] = some [l] := by
    have o : objRefs (.lst xs) = [] := refsOfs_no xs hx
    simp [reach, hl, o]
  have pl : place [l] l = 0 := by simp [place, List.findIdx_cons]
  have s : sub h [l] = some [.lst xs] := by
    simp [sub, hl, mapObj, mapRefs_no _ xs hx]
  have m : mapRefs (place [l]) (.ref l :: as) = .ref 0 :: as := by simp only [mapRefs, mapRef, pl, mapRefs_no _ as ha]
  simp only [r0, r, s, m, e, mapRef_no _ v hv, List.map_cons, List.map_nil, mapObj, mapRefs_no _ ys hy, merge, putAll, List.length_cons, List.length_nil, List.drop_succ_cons, List.drop_nil, List.append_nil]
/-! ### loops -/
theorem forGo_inv {ok : LH → Bool} {f : Val → Env → LH → RS} (I : Nat → Env → LH → Prop) : ∀ (xs : List Val) (k : Nat) (σ : Env) (h : LH), I k σ h → (∀ i σ h, I i σ h → ok h = true) →
    (∀ i x σ h, xs[i]? = some x → I (k + i) σ h → ∃ σ' h', f x σ h = .nx σ' h' ∧ I (k + i + 1) σ' h') → ∃ σ' h', forGo ok f xs σ h = .nx σ' h' ∧ I (k + xs.length) σ' h'
  | [], k, σ, h, i0, o, _ => ⟨σ, h, by simp only [forGo, o _ _ _ i0, if_true], i0⟩
  | x :: xs, k, σ, h, i0, o, st => by
    obtain ⟨σ1, h1, e1, i1⟩ := st 0 x σ h rfl i0
    obtain ⟨σ2, h2, e2, i2⟩ := forGo_inv I xs (k + 1) σ1 h1 i1 o fun i y σ' h' hy hi => by
      have := st (i + 1) y σ' h' (by simpa using hy) (by rw [show k + (i + 1) = k + 1 + i by omega]; exact hi)
      rw [show k + (i + 1) + 1 = k + 1 + i + 1 by omega] at this
      exact this
    refine ⟨σ2, h2, by simp only [forGo, o _ _ _ i0, if_true, e1, RS.bind, e2], ?_⟩
    rw [show k + (x :: xs).length = k + 1 + xs.length by simp; omega]
    exact i2
theorem compGo_map {ok : LH → Bool} {f : Val → LH → R (Option Val)} {h : LH} (o : ok h = true) (g : Val → Option Val) : ∀ xs : List Val, (∀ x ∈ xs, f x h = .ok (g x) h) → compGo ok f xs h = .ok (xs.filterMap g) h
  | [], _ => by simp only [compGo, o, if_true, List.filterMap_nil]
  | x :: xs, q => by
    simp only [compGo, o, if_true, q x (by simp), R.bind, compGo_map o g xs fun y hy => q y (List.mem_cons_of_mem _ hy)]
    cases hg : g x <;> simp [hg]
end PI

/-! A call's answer doesn't hang on how deep calls may go, if that suffices. -/
namespace PI
def tabT (ds : List (Nat × Def)) (f : Nat) : Option Def := (ds.find? fun p => p.1 == f).map (·.2)
/-- C' knows all that C knows -/
def Le (C C' : CallT) : Prop := ∀ f as h, C f as h ≠ .err → C' f as h = C f as h
theorem bind_le {α β : Type} {x x' : R α} {f f' : α → LH → R β} (hx : x ≠ .err → x' = x) (hf : ∀ a h, f a h ≠ .err → f' a h = f a h) (h : x.bind f ≠ .err) : x'.bind f' = x.bind f := by
  cases x with
  | ok a h1 => rw [hx (by simp)]; exact hf a h1 h
  | exc c h1 => rw [hx (by simp)]; rfl
  | err => exact absurd rfl h
theorem nox_le {α : Type} {x x' : R α} (hx : x ≠ .err → x' = x) (h : x.nox ≠ .err) : x'.nox = x.nox := by
  cases x with
  | ok a h1 => rw [hx (by simp)]
  | exc c h1 => exact absurd rfl h
  | err => exact absurd rfl h
theorem onB_le {α : Type} {v : Val} {x x' y y' : R α} (hx : x ≠ .err → x' = x) (hy : y ≠ .err → y' = y) (h : onB v x y ≠ .err) : onB v x' y' = onB v x y := by
  cases v with
  | bl b =>
    cases b with
    | false => exact hy h
    | true => exact hx h
  | _ => exact absurd rfl h
theorem callIn_le {C C' : CallT} (H : Le C C') (f : Nat) (as : List Val) (h : LH) (e : callIn C f as h ≠ .err) : callIn C' f as h = callIn C f as h := by
  unfold callIn at e ⊢
  split
  · rfl
  · rename_i L hL
    rw [hL] at e
    simp only at e ⊢
    split
    · rfl
    · rename_i h0 hs
      rw [hs] at e
      simp only at e
      have q : C f (mapRefs (place L) as) h0 ≠ .err := by
        intro z; rw [z] at e; exact e rfl
      rw [H _ _ _ q]
theorem compGo_le {ok : LH → Bool} {f f' : Val → LH → R (Option Val)} (H : ∀ x h, f x h ≠ .err → f' x h = f x h) : ∀ (xs : List Val) (h : LH), compGo ok f xs h ≠ .err → compGo ok f' xs h = compGo ok f xs h
  | [], h, _ => rfl
  | x :: xs, h, e => by
    simp only [compGo] at e ⊢
    split
    · rename_i c
      rw [if_pos c] at e
      refine bind_le (H x h) (fun o h1 q => ?_) e
      exact bind_le (compGo_le H xs h1) (fun r h2 _ => rfl) q
    · rfl
theorem ev_le {C C' : CallT} {G : Nat → Val} (H : Le C C') : ∀ (e : E) (σ : Env) (h : LH), ev C G e σ h ≠ .err → ev C' G e σ h = ev C G e σ h := by
  intro e
  induction e with
  | cons e es i1 i2 => intro σ h q; simp only [ev] at q ⊢; exact bind_le (i1 σ h) (fun v h1 q => bind_le (i2 σ h1) (fun _ _ _ => rfl) q) q
  | tup es i => intro σ h q; simp only [ev] at q ⊢; exact bind_le (i σ h) (fun _ _ _ => rfl) q
  | lst m es i => intro σ h q; simp only [ev] at q ⊢; exact bind_le (i σ h) (fun _ _ _ => rfl) q
  | bin m op a b i1 i2 => intro σ h q; simp only [ev] at q ⊢; exact bind_le (i1 σ h) (fun v h1 q => bind_le (i2 σ h1) (fun _ _ _ => rfl) q) q
  | cmp op a b i1 i2 => intro σ h q; simp only [ev] at q ⊢; exact bind_le (i1 σ h) (fun v h1 q => bind_le (i2 σ h1) (fun _ _ _ => rfl) q) q
  | chain op op' a b c i1 i2 i3 =>
    intro σ h q
    simp only [ev] at q ⊢
    refine bind_le (i1 σ h) (fun v h1 q => bind_le (i2 σ h1) (fun w h2 q => ?_) q) q
    split
    · rename_i hc
      simp only [hc] at q
      exact bind_le (i3 σ h2) (fun _ _ _ => rfl) q
    · rfl
    · rfl
  | and a b i1 i2 => intro σ h q; simp only [ev] at q ⊢; exact bind_le (i1 σ h) (fun v h1 q => onB_le (i2 σ h1) (fun _ => rfl) q) q
  | or a b i1 i2 => intro σ h q; simp only [ev] at q ⊢; exact bind_le (i1 σ h) (fun v h1 q => onB_le (fun _ => rfl) (i2 σ h1) q) q
  | not a i => intro σ h q; simp only [ev] at q ⊢; exact bind_le (i σ h) (fun _ _ _ => rfl) q
  | neg a i => intro σ h q; simp only [ev] at q ⊢; exact bind_le (i σ h) (fun _ _ _ => rfl) q
  | ite c a b i1 i2 i3 => intro σ h q; simp only [ev] at q ⊢; exact bind_le (i1 σ h) (fun v h1 q => onB_le (i2 σ h1) (i3 σ h1) q) q
  | call f es i =>
    intro σ h q
    simp only [ev] at q ⊢
    refine bind_le (i σ h) (fun v h1 q => ?_) q
    cases v with
    | tup l => exact callIn_le H f l h1 q
    | _ => rfl
  | bi m f es i => intro σ h q; simp only [ev] at q ⊢; exact bind_le (i σ h) (fun _ _ _ => rfl) q
  | mth f o es i1 i2 =>
    intro σ h q
    simp only [ev] at q ⊢
    refine bind_le (i1 σ h) (fun v h1 q => ?_) q
    split
    · rename_i hc
      rw [if_pos hc] at q
      exact bind_le (i2 σ h1) (fun _ _ _ => rfl) q
    · rfl
  | idx a b i1 i2 => intro σ h q; simp only [ev] at q ⊢; exact bind_le (i1 σ h) (fun v h1 q => bind_le (i2 σ h1) (fun _ _ _ => rfl) q) q
  | slc m a lo hi i1 i2 i3 =>
    intro σ h q
    simp only [ev] at q ⊢
    refine bind_le (i1 σ h) (fun v h1 q => bind_le (i2 σ h1) (fun w h2 q => ?_) q) q
    split
    · rename_i hc
      simp only [hc] at q
      exact bind_le (i3 σ h2) (fun _ _ _ => rfl) q
    · rfl
  | rev m a i => intro σ h q; simp only [ev] at q ⊢; exact bind_le (i σ h) (fun _ _ _ => rfl) q
  | comp m own tg it cond elt _ i2 i3 i4 =>
    intro σ h q
    simp only [ev] at q ⊢
    refine bind_le (i2 σ h) (fun w h1 q => ?_) q
    cases w with
    | dct t src items =>
      simp only at q ⊢
      split
      · rename_i hc
        rw [if_pos hc] at q
        refine bind_le (compGo_le (fun x h2 q => ?_) items h1) (fun _ _ _ => rfl) q
        split
        · rename_i hs
          simp only [hs] at q
          exact bind_le (nox_le (i3 _ h2)) (fun c h3 q => onB_le (fun q => bind_le (nox_le (i4 _ h3)) (fun _ _ _ => rfl) q) (fun _ => rfl) q) q
        · rfl
      · rfl
    | _ => rfl
  | frz e i => intro σ h q; simp only [ev] at q ⊢; exact bind_le (i σ h) (fun _ _ _ => rfl) q
  | iSeq e i => intro σ h q; simp only [ev] at q ⊢; exact bind_le (i σ h) (fun _ _ _ => rfl) q
  | iRange1 e i => intro σ h q; simp only [ev] at q ⊢; exact bind_le (i σ h) (fun _ _ _ => rfl) q
  | iRange2 a b i1 i2 => intro σ h q; simp only [ev] at q ⊢; exact bind_le (i1 σ h) (fun v h1 q => bind_le (i2 σ h1) (fun _ _ _ => rfl) q) q
  | iEnum e i => intro σ h q; simp only [ev] at q ⊢; exact bind_le (i σ h) (fun _ _ _ => rfl) q
  | iZip a b i1 i2 => intro σ h q; simp only [ev] at q ⊢; exact bind_le (i1 σ h) (fun v h1 q => bind_le (i2 σ h1) (fun _ _ _ => rfl) q) q
  | iKeys e i => intro σ h q; simp only [ev] at q ⊢; exact bind_le (i σ h) (fun _ _ _ => rfl) q
  | _ => intro σ h q; rfl
theorem then_le {α : Type} {σ : Env} {x x' : R α} {f f' : α → LH → RS} (hx : x ≠ .err → x' = x) (hf : ∀ a h, f a h ≠ .err → f' a h = f a h) (h : x.then σ f ≠ .err) : x'.then σ f' = x.then σ f := by
  cases x with
  | ok a h1 => rw [hx (by simp)]; exact hf a h1 h
  | exc c h1 => rw [hx (by simp)]; rfl
  | err => exact absurd rfl h
theorem sbind_le {x x' : RS} {f f' : Env → LH → RS} (hx : x ≠ .err → x' = x) (hf : ∀ a h, f a h ≠ .err → f' a h = f a h) (h : x.bind f ≠ .err) : x'.bind f' = x.bind f := by
  cases x with
  | nx a h1 => rw [hx (by simp)]; exact hf a h1 h
  | rt v h1 => rw [hx (by simp)]; rfl
  | exc c σ h1 => rw [hx (by simp)]; rfl
  | err => exact absurd rfl h
theorem onBS_le {v : Val} {x x' y y' : RS} (hx : x ≠ .err → x' = x) (hy : y ≠ .err → y' = y) (h : onBS v x y ≠ .err) : onBS v x' y' = onBS v x y := by
  cases v with
  | bl b =>
    cases b with
    | false => exact hy h
    | true => exact hx h
  | _ => exact absurd rfl h
theorem asgT_le {C C' : CallT} {G : Nat → Val} (H : Le C C') : ∀ (e : E) (v : Val) (σ : Env) (h : LH), asgT C G e v σ h ≠ .err → asgT C' G e v σ h = asgT C G e v σ h := by
  intro e
  induction e with
  | tTup ts i =>
    intro v σ h q
    simp only [asgT] at q ⊢
    split
    · rename_i hs
      simp only [hs] at q
      split
      · rename_i hc; rw [if_pos hc] at q; exact i _ _ _ q
      · rfl
    · rfl
  | cons t ts i1 i2 =>
    intro v σ h q
    simp only [asgT] at q ⊢
    split
    · exact sbind_le (i1 _ σ h) (fun σ h q => i2 _ σ h q) q
    · rfl
  | tSub o i _ _ =>
    intro v σ h q
    simp only [asgT] at q ⊢
    exact then_le (ev_le H o σ h) (fun a h1 q => then_le (ev_le H i σ h1) (fun _ _ _ => rfl) q) q
  | _ => intro v σ h q; rfl
theorem forGo_le {ok : LH → Bool} {f f' : Val → Env → LH → RS} (H : ∀ x σ h, f x σ h ≠ .err → f' x σ h = f x σ h) : ∀ (xs : List Val) (σ : Env) (h : LH), forGo ok f xs σ h ≠ .err → forGo ok f' xs σ h = forGo ok f xs σ h
  | [], σ, h, _ => rfl
  | x :: xs, σ, h, e => by
    simp only [forGo] at e ⊢
    split
    · rename_i c
      rw [if_pos c] at e
      exact sbind_le (H x σ h) (fun σ1 h1 q => forGo_le H xs σ1 h1 q) e
    · rfl
theorem whileGo_le {f f' : Env → LH → RS} {c c' : Env → LH → R Val} (H : ∀ σ h, f σ h ≠ .err → f' σ h = f σ h) (Hc : ∀ σ h, c σ h ≠ .err → c' σ h = c σ h) : ∀ (n : Nat) (σ : Env) (h : LH), whileGo f c n σ h ≠ .err → whileGo f' c' n σ h = whileGo f c n σ h
  | 0, σ, h, _ => rfl
  | n + 1, σ, h, e => by
    simp only [whileGo] at e ⊢
    exact then_le (Hc σ h) (fun x h1 q => onBS_le (fun q => sbind_le (H σ h1) (fun σ2 h2 q => whileGo_le H Hc n σ2 h2 q) q) (fun _ => rfl) q) e
theorem ex_le {C C' : CallT} {G : Nat → Val} (H : Le C C') : ∀ (s : S) (σ : Env) (h : LH), ex C G s σ h ≠ .err → ex C' G s σ h = ex C G s σ h := by
  intro s
  induction s with
  | seq s t i1 i2 => intro σ h q; simp only [ex] at q ⊢; exact sbind_le (i1 σ h) (fun σ h q => i2 σ h q) q
  | asg tg e => intro σ h q; simp only [ex] at q ⊢; exact then_le (ev_le H e σ h) (fun v h q => asgT_le H tg v σ h q) q
  | expr e => intro σ h q; simp only [ex] at q ⊢; exact then_le (ev_le H e σ h) (fun _ _ _ => rfl) q
  | ret e => intro σ h q; simp only [ex] at q ⊢; exact then_le (ev_le H e σ h) (fun _ _ _ => rfl) q
  | ife c a b i1 i2 => intro σ h q; simp only [ex] at q ⊢; exact then_le (ev_le H c σ h) (fun x h q => onBS_le (i1 σ h) (i2 σ h) q) q
  | whl c b i => intro σ h q; simp only [ex] at q ⊢; exact whileGo_le (fun σ h q => i σ h q) (fun σ h q => ev_le H c σ h q) _ σ h q
  | «for» tg it b i =>
    intro σ h q
    simp only [ex] at q ⊢
    refine then_le (ev_le H it σ h) (fun w h1 q => ?_) q
    cases w with
    | dct t src items => exact forGo_le (fun x σ h q => sbind_le (asgT_le H tg x σ h) (fun σ h q => i σ h q) q) items σ h1 q
    | _ => rfl
  | «scoped» b i => intro σ h q; simp only [ex] at q ⊢; exact sbind_le (i σ h) (fun _ _ _ => rfl) q
  | _ => intro σ h q; rfl
theorem fin_le {n : Nat} {x x' : RS} (hx : x ≠ .err → x' = x) (h : fin n x ≠ .err) : fin n x' = fin n x := by
  rw [hx (fun z => by rw [z] at h; exact h rfl)]
theorem callN_step {T T' : Nat → Option Def} {G : Nat → Val} (hT : ∀ f d, T f = some d → T' f = some d) : ∀ n, Le (callN T G n) (callN T' G (n + 1)) ∧ Le (callN T G n) (callN T' G n) := by
  intro n
  induction n with
  | zero => exact ⟨fun f as h q => absurd rfl q, fun f as h q => absurd rfl q⟩
  | succ n ih =>
    have go : ∀ {C' : CallT}, Le (callN T G n) C' → ∀ f as h, callN T G (n + 1) f as h ≠ .err → (match T' f with | some d => if as.length = d.np then fin h.length (ex C' G d.body (start d as) h) else .err | none => .err) = callN T G (n + 1) f as h := fun {C'} L f as h q => by
      have u : callN T G (n + 1) f as h = (match T f with | some d => if as.length = d.np then fin h.length (ex (callN T G n) G d.body (start d as) h) else .err | none => .err) := rfl
      rw [u] at q ⊢
      cases e : T f with
      | none => rw [e] at q; exact absurd rfl q
      | some d =>
        rw [e] at q
        rw [hT f d e]
        simp only at q ⊢
        split
        · rename_i hl
          rw [if_pos hl] at q
          exact fin_le (ex_le L d.body _ h) q
        · rfl
    exact ⟨fun f as h q => go ih.1 f as h q, fun f as h q => go ih.2 f as h q⟩
theorem callN_le {T : Nat → Option Def} {G : Nat → Val} {k n : Nat} (hk : k ≤ n) : Le (callN T G k) (callN T G n) := by
  obtain ⟨m, rfl⟩ := Nat.exists_eq_add_of_le hk
  clear hk
  induction m with
  | zero => exact fun _ _ _ _ => rfl
  | succ m ih =>
    intro f as h q
    have e := ih f as h q
    have := (callN_step (T := T) (T' := T) (G := G) (fun _ _ e => e) (k + m)).1 f as h (by rw [e]; exact q)
    rw [← e, ← this]; rfl
/-- the answer at a depth that suffices is the answer at each greater one -/
theorem callN_up {T : Nat → Option Def} {G : Nat → Val} {k n f : Nat} {as : List Val} {h h' : LH} {v : Val} (hk : k ≤ n) (e : callN T G k f as h = .ok v h') : callN T G n f as h = .ok v h' := by
  rw [callN_le hk f as h (by rw [e]; simp), e]
/-- more defs change no answer -/
theorem callN_T {T T' : Nat → Option Def} {G : Nat → Val} (hT : ∀ f d, T f = some d → T' f = some d) {n f : Nat} {as : List Val} {h h' : LH} {v : Val} (e : callN T G n f as h = .ok v h') : callN T' G n f as h = .ok v h' := by
  rw [(callN_step hT n).2 f as h (by rw [e]; simp), e]
end PI

/-! The interpreter's steps, one by one. What comes later stands behind a name, so that simp does one thing at a time; the bodies of loops stay closed till they are asked. -/
namespace PI
section
variable (C : CallT) (G : Nat → Val) (σ : Env) (h : LH)
@[simp] theorem ev_var (i : Nat) : ev C G (.var i) σ h = match σ[i]? with
    | some (some v) => .ok v h
    | _ => .err := rfl
@[simp] theorem ev_int (z : Int) : ev C G (.int z) σ h = .ok (.int z) h := rfl
@[simp] theorem ev_bl (b : Bool) : ev C G (.bl b) σ h = .ok (.bl b) h := rfl
@[simp] theorem ev_non : ev C G .non σ h = .ok .non h := rfl
@[simp] theorem ev_str (s : List Nat) : ev C G (.str s) σ h = .ok (.str s) h := rfl
@[simp] theorem ev_glob (g : Nat) : ev C G (.glob g) σ h = .ok (G g) h := rfl
@[simp] theorem ev_nil : ev C G .nil σ h = .ok (.tup []) h := rfl
def kCons2 (v : Val) (vs : Val) (h : LH) : R Val := onT vs fun l => .ok (.tup (v :: l)) h
def kCons (es : E) (v : Val) (h : LH) : R Val := (ev C G es σ h).bind (kCons2 v)
@[simp] theorem kCons2_eq (v : Val) (l : List Val) : kCons2 v (.tup l) h = .ok (.tup (v :: l)) h := rfl
@[simp] theorem kCons_eq (es : E) (v : Val) : kCons C G σ es v h = (ev C G es σ h).bind (kCons2 v) := rfl
@[simp] theorem ev_cons (e es : E) : ev C G (.cons e es) σ h = (ev C G e σ h).bind (kCons C G σ es) := rfl
def kTup (vs : Val) (h : LH) : R Val := onT vs fun l => if l.length ≤ SL then .ok (.tup l) h else .err
@[simp] theorem kTup_eq (l : List Val) : kTup (.tup l) h = if l.length ≤ SL then .ok (.tup l) h else .err := rfl
@[simp] theorem ev_tup (es : E) : ev C G (.tup es) σ h = (ev C G es σ h).bind kTup := rfl
def kLst (m : Bool) (vs : Val) (h : LH) : R Val := onT vs fun l => mkL m l h
@[simp] theorem kLst_eq (m : Bool) (l : List Val) : kLst m (.tup l) h = mkL m l h := rfl
@[simp] theorem ev_lst (m : Bool) (es : E) : ev C G (.lst m es) σ h = (ev C G es σ h).bind (kLst m) := rfl
@[simp] theorem ev_dnew (t : Bool) : ev C G (.dnew t) σ h = .ok (.ref h.length) (h ++ [.dct t [] []]) := rfl
def kBin2 (m : Bool) (op : Bop) (x y : Val) (h : LH) : R Val := binop m op x y h
def kBin (m : Bool) (op : Bop) (b : E) (x : Val) (h : LH) : R Val := (ev C G b σ h).bind (kBin2 m op x)
@[simp] theorem kBin2_eq (m : Bool) (op : Bop) (x y : Val) : kBin2 m op x y h = binop m op x y h := rfl
@[simp] theorem kBin_eq (m : Bool) (op : Bop) (b : E) (x : Val) : kBin C G σ m op b x h = (ev C G b σ h).bind (kBin2 m op x) := rfl
@[simp] theorem ev_bin (m : Bool) (op : Bop) (a b : E) : ev C G (.bin m op a b) σ h = (ev C G a σ h).bind (kBin C G σ m op b) := rfl
def kCmp2 (op : Cop) (x y : Val) (h : LH) : R Val := optR h ((cmpop op x y h).map .bl)
def kCmp (op : Cop) (b : E) (x : Val) (h : LH) : R Val := (ev C G b σ h).bind (kCmp2 op x)
@[simp] theorem kCmp2_eq (op : Cop) (x y : Val) : kCmp2 op x y h = optR h ((cmpop op x y h).map .bl) := rfl
@[simp] theorem kCmp_eq (op : Cop) (b : E) (x : Val) : kCmp C G σ op b x h = (ev C G b σ h).bind (kCmp2 op x) := rfl
@[simp] theorem ev_cmp (op : Cop) (a b : E) : ev C G (.cmp op a b) σ h = (ev C G a σ h).bind (kCmp C G σ op b) := rfl
def kChain3 (op' : Cop) (c : E) (y : Val) (h : LH) : Option Bool → R Val
  | some true => (ev C G c σ h).bind (kCmp2 op' y)
  | some false => .ok (.bl false) h
  | none => .err
@[simp] theorem kChain3_t (op' : Cop) (c : E) (y : Val) : kChain3 C G σ op' c y h (some true) = (ev C G c σ h).bind (kCmp2 op' y) := rfl
@[simp] theorem kChain3_f (op' : Cop) (c : E) (y : Val) : kChain3 C G σ op' c y h (some false) = .ok (.bl false) h := rfl
def kChain2 (op op' : Cop) (c : E) (x y : Val) (h : LH) : R Val := kChain3 C G σ op' c y h (cmpop op x y h)
@[simp] theorem kChain2_eq (op op' : Cop) (c : E) (x y : Val) : kChain2 C G σ op op' c x y h = kChain3 C G σ op' c y h (cmpop op x y h) := rfl
def kChain (op op' : Cop) (b c : E) (x : Val) (h : LH) : R Val := (ev C G b σ h).bind (kChain2 C G σ op op' c x)
@[simp] theorem kChain_eq (op op' : Cop) (b c : E) (x : Val) : kChain C G σ op op' b c x h = (ev C G b σ h).bind (kChain2 C G σ op op' c x) := rfl
@[simp] theorem ev_chain (op op' : Cop) (a b c : E) : ev C G (.chain op op' a b c) σ h = (ev C G a σ h).bind (kChain C G σ op op' b c) := by
  rfl
def kAnd (b : E) (x : Val) (h : LH) : R Val := onB x (ev C G b σ h) (.ok (.bl false) h)
@[simp] theorem kAnd_t (b : E) : kAnd C G σ b (.bl true) h = ev C G b σ h := rfl
@[simp] theorem kAnd_f (b : E) : kAnd C G σ b (.bl false) h = .ok (.bl false) h := rfl
@[simp] theorem ev_and (a b : E) : ev C G (.and a b) σ h = (ev C G a σ h).bind (kAnd C G σ b) := rfl
def kOr (b : E) (x : Val) (h : LH) : R Val := onB x (.ok (.bl true) h) (ev C G b σ h)
@[simp] theorem kOr_t (b : E) : kOr C G σ b (.bl true) h = .ok (.bl true) h := rfl
@[simp] theorem kOr_f (b : E) : kOr C G σ b (.bl false) h = ev C G b σ h := rfl
@[simp] theorem ev_or (a b : E) : ev C G (.or a b) σ h = (ev C G a σ h).bind (kOr C G σ b) := rfl
def kNot (x : Val) (h : LH) : R Val := onB x (.ok (.bl false) h) (.ok (.bl true) h)
@[simp] theorem kNot_bl (b : Bool) : kNot (.bl b) h = .ok (.bl (!b)) h := by cases b <;> rfl
@[simp] theorem ev_not (a : E) : ev C G (.not a) σ h = (ev C G a σ h).bind kNot := rfl
def kNeg (x : Val) (h : LH) : R Val := match x with
    | .int i => .ok (.int (-i)) h
    | _ => .err
@[simp] theorem kNeg_eq (i : Int) : kNeg (.int i) h = .ok (.int (-i)) h := rfl
@[simp] theorem ev_neg (a : E) : ev C G (.neg a) σ h = (ev C G a σ h).bind kNeg := rfl
def kIte (a b : E) (x : Val) (h : LH) : R Val := onB x (ev C G a σ h) (ev C G b σ h)
@[simp] theorem kIte_t (a b : E) : kIte C G σ a b (.bl true) h = ev C G a σ h := rfl
@[simp] theorem kIte_f (a b : E) : kIte C G σ a b (.bl false) h = ev C G b σ h := rfl
@[simp] theorem ev_ite (c a b : E) : ev C G (.ite c a b) σ h = (ev C G c σ h).bind (kIte C G σ a b) := rfl
def kCall (f : Nat) (vs : Val) (h : LH) : R Val := onT vs fun l => callIn C f l h
@[simp] theorem kCall_eq (f : Nat) (l : List Val) : kCall C f (.tup l) h = callIn C f l h := rfl
@[simp] theorem ev_call (f : Nat) (es : E) : ev C G (.call f es) σ h = (ev C G es σ h).bind (kCall C f) := rfl
def kBi (m : Bool) (f : Bi) (vs : Val) (h : LH) : R Val := onT vs fun l => PI.bi m f l h
@[simp] theorem kBi_eq (m : Bool) (f : Bi) (l : List Val) : kBi m f (.tup l) h = PI.bi m f l h := rfl
@[simp] theorem ev_bi (m : Bool) (f : Bi) (es : E) : ev C G (.bi m f es) σ h = (ev C G es σ h).bind (kBi m f) := rfl
def kMth2 (f : Mth) (x vs : Val) (h : LH) : R Val := onT vs fun l => PI.mth f x l h
@[simp] theorem kMth2_eq (f : Mth) (x : Val) (l : List Val) : kMth2 f x (.tup l) h = PI.mth f x l h := rfl
def kMth (f : Mth) (es : E) (x : Val) (h : LH) : R Val := if rcvB f x h then (ev C G es σ h).bind (kMth2 f x) else .err
@[simp] theorem kMth_eq (f : Mth) (es : E) (x : Val) : kMth C G σ f es x h = if rcvB f x h then (ev C G es σ h).bind (kMth2 f x) else .err := rfl
@[simp] theorem ev_mth (f : Mth) (o es : E) : ev C G (.mth f o es) σ h = (ev C G o σ h).bind (kMth C G σ f es) := rfl
def kIdx2 (x y : Val) (h : LH) : R Val := optR h (getIx x y h)
@[simp] theorem kIdx2_eq (x y : Val) : kIdx2 x y h = optR h (getIx x y h) := rfl
def kIdx (i : E) (x : Val) (h : LH) : R Val := (ev C G i σ h).bind (kIdx2 x)
@[simp] theorem kIdx_eq (i : E) (x : Val) : kIdx C G σ i x h = (ev C G i σ h).bind (kIdx2 x) := rfl
@[simp] theorem ev_idx (a i : E) : ev C G (.idx a i) σ h = (ev C G a σ h).bind (kIdx C G σ i) := rfl
def kSlc3 (m : Bool) (hi : E) (x : Val) (l : Option Int) (u : Val) (h : LH) : R Val := match optInt hi u with
  | some u => slice m x l u h
  | none => .err
@[simp] theorem kSlc3_eq (m : Bool) (hi : E) (x : Val) (l : Option Int) (u : Val) : kSlc3 m hi x l u h = match optInt hi u with
  | some u => slice m x l u h
  | none => .err := rfl
def kSlc2 (m : Bool) (lo hi : E) (x l : Val) (h : LH) : R Val := match optInt lo l with
  | some l => (ev C G hi σ h).bind (kSlc3 m hi x l)
  | none => .err
@[simp] theorem kSlc2_eq (m : Bool) (lo hi : E) (x l : Val) : kSlc2 C G σ m lo hi x l h = match optInt lo l with
  | some l => (ev C G hi σ h).bind (kSlc3 m hi x l)
  | none => .err := rfl
def kSlc (m : Bool) (lo hi : E) (x : Val) (h : LH) : R Val := (ev C G lo σ h).bind (kSlc2 C G σ m lo hi x)
@[simp] theorem kSlc_eq (m : Bool) (lo hi : E) (x : Val) : kSlc C G σ m lo hi x h = (ev C G lo σ h).bind (kSlc2 C G σ m lo hi x) := rfl
@[simp] theorem ev_slc (m : Bool) (a lo hi : E) : ev C G (.slc m a lo hi) σ h = (ev C G a σ h).bind (kSlc C G σ m lo hi) := rfl
def kRev (m : Bool) (x : Val) (h : LH) : R Val := revL m x h
@[simp] theorem kRev_eq (m : Bool) (x : Val) : kRev m x h = revL m x h := rfl
@[simp] theorem ev_rev (m : Bool) (a : E) : ev C G (.rev m a) σ h = (ev C G a σ h).bind (kRev m) := rfl
/-- a comprehension's turn -/
def kSome (y : Val) (h : LH) : R (Option Val) := .ok (some y) h
@[simp] theorem kSome_eq (y : Val) : kSome y h = .ok (some y) h := rfl
def kElt (elt : E) (c : Val) (h : LH) : R (Option Val) := onB c ((ev C G elt σ h).nox.bind kSome) (.ok none h)
@[simp] theorem kElt_t (elt : E) : kElt C G σ elt (.bl true) h = (ev C G elt σ h).nox.bind kSome := rfl
@[simp] theorem kElt_f (elt : E) : kElt C G σ elt (.bl false) h = .ok none h := rfl
def cmpB (C : CallT) (G : Nat → Val) (own : List Nat) (tg cond elt : E) (σ : Env) (x : Val) (h : LH) : R (Option Val) := match ev.asgN tg x (wipe σ own) with
  | some σ' => (ev C G cond σ' h).nox.bind (kElt C G σ' elt)
  | none => .err
@[simp] theorem cmpB_eq (own : List Nat) (tg cond elt : E) (x : Val) : cmpB C G own tg cond elt σ x h = match ev.asgN tg x (wipe σ own) with
  | some σ' => (ev C G cond σ' h).nox.bind (kElt C G σ' elt)
  | none => .err := rfl
def kMkL (m : Bool) (r : List Val) (h : LH) : R Val := mkL m r h
@[simp] theorem kMkL_eq (m : Bool) (r : List Val) : kMkL m r h = mkL m r h := rfl
def kComp (m : Bool) (own : List Nat) (tg cond elt : E) (w : Val) (h : LH) : R Val := match w with
    | .dct _ src items => if items.length ≤ SL then (compGo (stays src) (cmpB C G own tg cond elt σ) items h).bind (kMkL m) else .err
    | _ => .err
@[simp] theorem kComp_eq (m : Bool) (own : List Nat) (tg cond elt : E) (t : Bool) (src items : List Val) : kComp C G σ m own tg cond elt (.dct t src items) h = if items.length ≤ SL then (compGo (stays src) (cmpB C G own tg cond elt σ) items h).bind (kMkL m) else .err := rfl
@[simp] theorem ev_comp (m : Bool) (own : List Nat) (tg it cond elt : E) : ev C G (.comp m own tg it cond elt) σ h = (ev C G it σ h).bind (kComp C G σ m own tg cond elt) := rfl
def kFrz (x : Val) (h : LH) : R Val := freeze x h
@[simp] theorem kFrz_eq (x : Val) : kFrz x h = freeze x h := rfl
@[simp] theorem ev_frz (e : E) : ev C G (.frz e) σ h = (ev C G e σ h).bind kFrz := rfl
def kSeq (x : Val) (h : LH) : R Val := match asSeq h x with
    | some xs => .ok (.dct false (srcOf x xs) xs) h
    | none => .err
@[simp] theorem kSeq_eq (x : Val) : kSeq x h = match asSeq h x with
    | some xs => .ok (.dct false (srcOf x xs) xs) h
    | none => .err := rfl
@[simp] theorem ev_iSeq (e : E) : ev C G (.iSeq e) σ h = (ev C G e σ h).bind kSeq := rfl
def kRange1 (x : Val) (h : LH) : R Val := match x with
    | .int n => if rangeOk 0 n then .ok (.dct false [] (rangeV 0 n)) h else .err
    | _ => .err
@[simp] theorem kRange1_eq (n : Int) : kRange1 (.int n) h = if rangeOk 0 n then .ok (.dct false [] (rangeV 0 n)) h else .err := rfl
@[simp] theorem ev_iRange1 (a : E) : ev C G (.iRange1 a) σ h = (ev C G a σ h).bind kRange1 := rfl
def kRange3 (x y : Val) (h : LH) : R Val := match x, y with
    | .int i, .int j => if rangeOk i j then .ok (.dct false [] (rangeV i j)) h else .err
    | _, _ => .err
@[simp] theorem kRange3_eq (i j : Int) : kRange3 (.int i) (.int j) h = if rangeOk i j then .ok (.dct false [] (rangeV i j)) h else .err := rfl
def kRange2 (b : E) (x : Val) (h : LH) : R Val := (ev C G b σ h).bind (kRange3 x)
@[simp] theorem kRange2_eq (b : E) (x : Val) : kRange2 C G σ b x h = (ev C G b σ h).bind (kRange3 x) := rfl
@[simp] theorem ev_iRange2 (a b : E) : ev C G (.iRange2 a b) σ h = (ev C G a σ h).bind (kRange2 C G σ b) := rfl
def kEnum (x : Val) (h : LH) : R Val := match asSeq h x with
    | some xs => .ok (.dct false (srcOf x xs) (enumV 0 xs)) h
    | none => .err
@[simp] theorem kEnum_eq (x : Val) : kEnum x h = match asSeq h x with
    | some xs => .ok (.dct false (srcOf x xs) (enumV 0 xs)) h
    | none => .err := rfl
@[simp] theorem ev_iEnum (a : E) : ev C G (.iEnum a) σ h = (ev C G a σ h).bind kEnum := rfl
def kZip2 (x y : Val) (h : LH) : R Val := match asSeq h x, asSeq h y with
    | some xs, some ys => .ok (.dct false (srcOf x xs ++ srcOf y ys) (zipV xs ys)) h
    | _, _ => .err
@[simp] theorem kZip2_eq (x y : Val) : kZip2 x y h = match asSeq h x, asSeq h y with
    | some xs, some ys => .ok (.dct false (srcOf x xs ++ srcOf y ys) (zipV xs ys)) h
    | _, _ => .err := rfl
def kZip (b : E) (x : Val) (h : LH) : R Val := (ev C G b σ h).bind (kZip2 x)
@[simp] theorem kZip_eq (b : E) (x : Val) : kZip C G σ b x h = (ev C G b σ h).bind (kZip2 x) := rfl
@[simp] theorem ev_iZip (a b : E) : ev C G (.iZip a b) σ h = (ev C G a σ h).bind (kZip C G σ b) := rfl
def kKeys (x : Val) (h : LH) : R Val := match x with
    | .dct _ ks _ => .ok (.dct false [] ks) h
    | _ => .err
@[simp] theorem kKeys_eq (t : Bool) (ks vs : List Val) : kKeys (.dct t ks vs) h = .ok (.dct false [] ks) h := rfl
@[simp] theorem ev_iKeys (a : E) : ev C G (.iKeys a) σ h = (ev C G a σ h).bind kKeys := rfl
/-! ### targets -/
@[simp] theorem asgT_name (i : Nat) (v : Val) : asgT C G (.tName i) v σ h = .nx (σ.set i (some v)) h := rfl
@[simp] theorem asgT_tup (ts : E) (v : Val) : asgT C G (.tTup ts) v σ h = match asSeq h v with
    | some l => if l.length = tlen ts then asgT C G ts (.tup l) σ h else .err
    | none => .err := rfl
@[simp] theorem asgT_nil : asgT C G .nil (.tup []) σ h = .nx σ h := rfl
def kAsgs (ts : E) (l : List Val) (σ : Env) (h : LH) : RS := asgT C G ts (.tup l) σ h
@[simp] theorem kAsgs_eq (ts : E) (l : List Val) : kAsgs C G ts l σ h = asgT C G ts (.tup l) σ h := rfl
@[simp] theorem asgT_cons (t ts : E) (x : Val) (l : List Val) : asgT C G (.cons t ts) (.tup (x :: l)) σ h = (asgT C G t x σ h).bind (kAsgs C G ts l) := rfl
def kNxU (_ : Unit) (h : LH) : RS := .nx σ h
@[simp] theorem kNxU_eq (u : Unit) : kNxU σ u h = .nx σ h := rfl
def kSub2 (a v k : Val) (h : LH) : RS := (setIx a k v h).then σ (kNxU σ)
@[simp] theorem kSub2_eq (a v k : Val) : kSub2 σ a v k h = (setIx a k v h).then σ (kNxU σ) := rfl
def kSub (i : E) (v a : Val) (h : LH) : RS := (ev C G i σ h).then σ (kSub2 σ a v)
@[simp] theorem kSub_eq (i : E) (v a : Val) : kSub C G σ i v a h = (ev C G i σ h).then σ (kSub2 σ a v) := rfl
@[simp] theorem asgT_sub (o i : E) (v : Val) : asgT C G (.tSub o i) v σ h = (ev C G o σ h).then σ (kSub C G σ i v) := rfl
/-! ### statements -/
@[simp] theorem ex_nil : ex C G .nil σ h = .nx σ h := rfl
@[simp] theorem ex_seq (s t : S) : ex C G (.seq s t) σ h = (ex C G s σ h).bind (ex C G t) := rfl
def kAsg (tg : E) (v : Val) (h : LH) : RS := asgT C G tg v σ h
@[simp] theorem kAsg_eq (tg : E) (v : Val) : kAsg C G σ tg v h = asgT C G tg v σ h := rfl
@[simp] theorem ex_asg (tg e : E) : ex C G (.asg tg e) σ h = (ev C G e σ h).then σ (kAsg C G σ tg) := rfl
def kNx (_ : Val) (h : LH) : RS := .nx σ h
@[simp] theorem kNx_eq (v : Val) : kNx σ v h = .nx σ h := rfl
@[simp] theorem ex_expr (e : E) : ex C G (.expr e) σ h = (ev C G e σ h).then σ (kNx σ) := rfl
def kRet (v : Val) (h : LH) : RS := .rt v h
@[simp] theorem kRet_eq (v : Val) : kRet v h = .rt v h := rfl
@[simp] theorem ex_ret (e : E) : ex C G (.ret e) σ h = (ev C G e σ h).then σ kRet := rfl
@[simp] theorem ex_retN : ex C G .retN σ h = .rt .non h := rfl
def kIfe (a b : S) (x : Val) (h : LH) : RS := onBS x (ex C G a σ h) (ex C G b σ h)
@[simp] theorem kIfe_t (a b : S) : kIfe C G σ a b (.bl true) h = ex C G a σ h := rfl
@[simp] theorem kIfe_f (a b : S) : kIfe C G σ a b (.bl false) h = ex C G b σ h := rfl
@[simp] theorem ex_ife (c : E) (a b : S) : ex C G (.ife c a b) σ h = (ev C G c σ h).then σ (kIfe C G σ a b) := rfl
/-- a while's test and turn; a for's turn -/
def whC (C : CallT) (G : Nat → Val) (c : E) (σ : Env) (h : LH) : R Val := ev C G c σ h
def whB (C : CallT) (G : Nat → Val) (b : S) (σ : Env) (h : LH) : RS := ex C G b σ h
def forB (C : CallT) (G : Nat → Val) (tg : E) (b : S) (x : Val) (σ : Env) (h : LH) : RS := (asgT C G tg x σ h).bind fun σ h => ex C G b σ h
@[simp] theorem whC_eq (c : E) : whC C G c σ h = ev C G c σ h := rfl
@[simp] theorem whB_eq (b : S) : whB C G b σ h = ex C G b σ h := rfl
@[simp] theorem forB_eq (tg : E) (b : S) (x : Val) : forB C G tg b x σ h = (asgT C G tg x σ h).bind (ex C G b) := rfl
@[simp] theorem ex_whl (c : E) (b : S) : ex C G (.whl c b) σ h = whileGo (whB C G b) (whC C G c) 1000000 σ h := rfl
def kFor (tg : E) (b : S) (w : Val) (h : LH) : RS := match w with
    | .dct _ src items => forGo (stays src) (forB C G tg b) items σ h
    | _ => .err
@[simp] theorem kFor_eq (tg : E) (b : S) (t : Bool) (src items : List Val) : kFor C G σ tg b (.dct t src items) h = forGo (stays src) (forB C G tg b) items σ h := rfl
@[simp] theorem ex_for (tg it : E) (b : S) : ex C G (.for tg it b) σ h = (ev C G it σ h).then σ (kFor C G σ tg b) := rfl
@[simp] theorem ex_scoped (b : S) : ex C G (.scoped b) σ h = (ex C G b σ h).bind (leave h.length) := rfl
end
end PI

/-! The defs of the linked texts as terms, printed by gen_terms.py. -/
namespace PI
namespace L
/-- pairs_of -/
abbrev i_pairs_of : Nat := 2
def n_pairs_of : List String := ["many", "found", "a", "b"]
def d_pairs_of : Def := ⟨1, 4, (.seq (.asg (.tName 1) (.lst true .nil))
    (.seq (.for (.tName 2) (.iRange1 (.var 0)) (.seq (.expr (.mth .extend (.var 1) (.cons (.comp false [3] (.tName 3) (.iRange2 (.bin false .add (.var 2) (.int 1)) (.var 0)) (.bl true) (.tup (.cons (.var 2) (.cons (.var 3) .nil)))) .nil)))
    .nil))
    (.seq (.ret (.frz (.var 1)))
    .nil)))⟩
/-- threes_of -/
abbrev i_threes_of : Nat := 3
def n_threes_of : List String := ["many", "found", "a", "b", "c"]
def d_threes_of : Def := ⟨1, 5, (.seq (.asg (.tName 1) (.lst true .nil))
    (.seq (.for (.tTup (.cons (.tName 2) (.cons (.tName 3) .nil))) (.iSeq (.call 2 (.cons (.var 0) .nil))) (.seq (.expr (.mth .extend (.var 1) (.cons (.comp false [4] (.tName 4) (.iRange2 (.bin false .add (.var 3) (.int 1)) (.var 0)) (.bl true) (.tup (.cons (.var 2) (.cons (.var 3) (.cons (.var 4) .nil))))) .nil)))
    .nil))
    (.seq (.ret (.frz (.var 1)))
    .nil)))⟩
/-- place_of -/
abbrev i_place_of : Nat := 16
def n_place_of : List String := ["many", "a", "b", "c", "ahead", "one", "other", "left"]
def d_place_of : Def := ⟨4, 8, (.seq (.asg (.tName 4) (.int 0))
    (.seq (.for (.tName 5) (.iRange1 (.var 1)) (.seq (.asg (.tName 7) (.bin false .sub (.bin false .sub (.var 0) (.var 5)) (.int 1)))
    (.seq (.asg (.tName 4) (.bin false .add (.var 4) (.bin false .div (.bin false .mul (.var 7) (.bin false .sub (.var 7) (.int 1))) (.int 2))))
    .nil)))
    (.seq (.for (.tName 6) (.iRange2 (.bin false .add (.var 1) (.int 1)) (.var 2)) (.seq (.asg (.tName 4) (.bin false .sub (.bin false .sub (.bin false .add (.var 4) (.var 0)) (.var 6)) (.int 1)))
    .nil))
    (.seq (.ret (.bin false .sub (.bin false .sub (.bin false .add (.var 4) (.var 3)) (.var 2)) (.int 1)))
    .nil))))⟩
/-- turns_of -/
abbrev i_turns_of : Nat := 17
def n_turns_of : List String := ["a", "b", "c", "falls"]
def d_turns_of : Def := ⟨3, 4, (.seq (.asg (.tName 3) (.bin false .add (.bin false .add (.bi false .int (.cons (.cmp .gt (.var 0) (.var 1)) .nil)) (.bi false .int (.cons (.cmp .gt (.var 0) (.var 2)) .nil))) (.bi false .int (.cons (.cmp .gt (.var 1) (.var 2)) .nil))))
    (.seq (.ret (.bin false .sub (.int 1) (.bin false .mul (.int 2) (.bin false .mod (.var 3) (.int 2)))))
    .nil))⟩
/-- side -/
abbrev i_side : Nat := 18
def n_side : List String := ["table", "a", "b", "c", "low", "amid", "high"]
def d_side : Def := ⟨4, 7, (.seq (.asg (.tTup (.cons (.tName 4) (.cons (.tName 5) (.cons (.tName 6) .nil)))) (.bi false .sorted (.cons (.lst false (.cons (.var 1) (.cons (.var 2) (.cons (.var 3) .nil)))) .nil)))
    (.seq (.ret (.bin false .mul (.call 17 (.cons (.var 1) (.cons (.var 2) (.cons (.var 3) .nil)))) (.idx (.idx (.var 0) (.int 1)) (.call 16 (.cons (.idx (.var 0) (.int 0)) (.cons (.var 4) (.cons (.var 5) (.cons (.var 6) .nil))))))))
    .nil))⟩
/-- fours_of -/
abbrev i_fours_of : Nat := 33
def n_fours_of : List String := ["many", "found", "a", "b", "c", "d"]
def d_fours_of : Def := ⟨1, 6, (.seq (.asg (.tName 1) (.lst true .nil))
    (.seq (.for (.tTup (.cons (.tName 2) (.cons (.tName 3) (.cons (.tName 4) .nil)))) (.iSeq (.call 3 (.cons (.var 0) .nil))) (.seq (.expr (.mth .extend (.var 1) (.cons (.comp false [5] (.tName 5) (.iRange2 (.bin false .add (.var 4) (.int 1)) (.var 0)) (.bl true) (.tup (.cons (.var 2) (.cons (.var 3) (.cons (.var 4) (.cons (.var 5) .nil)))))) .nil)))
    .nil))
    (.seq (.ret (.frz (.var 1)))
    .nil)))⟩
/-- is_four_right -/
abbrev i_is_four_right : Nat := 34
def n_is_four_right : List String := ["table", "four", "row", "a", "b", "c", "d"]
def d_is_four_right : Def := ⟨2, 7, (.seq (.asg (.tTup (.cons (.tName 3) (.cons (.tName 4) (.cons (.tName 5) (.cons (.tName 6) .nil))))) (.var 1))
    (.seq (.asg (.tName 2) (.lst false (.cons (.call 18 (.cons (.var 0) (.cons (.var 3) (.cons (.var 4) (.cons (.var 5) .nil))))) (.cons (.call 18 (.cons (.var 0) (.cons (.var 3) (.cons (.var 4) (.cons (.var 6) .nil))))) (.cons (.call 18 (.cons (.var 0) (.cons (.var 3) (.cons (.var 5) (.cons (.var 6) .nil))))) (.cons (.call 18 (.cons (.var 0) (.cons (.var 4) (.cons (.var 5) (.cons (.var 6) .nil))))) .nil))))))
    (.seq (.ret (.cmp .notIn (.var 2) (.tup (.cons (.lst false (.cons (.int 1) (.cons (.neg (.int 1)) (.cons (.int 1) (.cons (.neg (.int 1)) .nil))))) (.cons (.lst false (.cons (.neg (.int 1)) (.cons (.int 1) (.cons (.neg (.int 1)) (.cons (.int 1) .nil))))) .nil)))))
    .nil)))⟩
/-- is_five_right -/
abbrev i_is_five_right : Nat := 35
def n_is_five_right : List String := ["table", "x", "four", "one", "two", "three", "a", "b", "c", "d"]
def d_is_five_right : Def := ⟨3, 10, (.seq (.asg (.tTup (.cons (.tName 6) (.cons (.tName 7) (.cons (.tName 8) (.cons (.tName 9) .nil))))) (.var 2))
    (.seq (.asg (.tName 3) (.bin false .mul (.call 18 (.cons (.var 0) (.cons (.var 1) (.cons (.var 6) (.cons (.var 7) .nil))))) (.call 18 (.cons (.var 0) (.cons (.var 1) (.cons (.var 8) (.cons (.var 9) .nil)))))))
    (.seq (.asg (.tName 4) (.bin false .mul (.call 18 (.cons (.var 0) (.cons (.var 1) (.cons (.var 6) (.cons (.var 8) .nil))))) (.call 18 (.cons (.var 0) (.cons (.var 1) (.cons (.var 9) (.cons (.var 7) .nil)))))))
    (.seq (.asg (.tName 5) (.bin false .mul (.call 18 (.cons (.var 0) (.cons (.var 1) (.cons (.var 6) (.cons (.var 9) .nil))))) (.call 18 (.cons (.var 0) (.cons (.var 1) (.cons (.var 7) (.cons (.var 8) .nil)))))))
    (.seq (.ret (.or (.cmp .ne (.var 3) (.var 4)) (.cmp .ne (.var 4) (.var 5))))
    .nil)))))⟩
/-- lie_of -/
abbrev i_lie_of : Nat := 36
def n_lie_of : List String := ["table", "fours", "four", "x"]
def d_lie_of : Def := ⟨1, 4, (.seq (.asg (.tName 1) (.call 33 (.cons (.idx (.var 0) (.int 0)) .nil)))
    (.seq (.for (.tName 2) (.iSeq (.var 1)) (.seq (.ife (.not (.call 34 (.cons (.var 0) (.cons (.var 2) .nil)))) (.seq (.ret (.bin false .add (.tup (.cons (.str [102, 111, 117, 114]) .nil)) (.var 2)))
    .nil) .nil)
    .nil))
    (.seq (.for (.tName 3) (.iRange1 (.idx (.var 0) (.int 0))) (.seq (.for (.tName 2) (.iSeq (.var 1)) (.seq (.ife (.and (.cmp .notIn (.var 3) (.var 2)) (.not (.call 35 (.cons (.var 0) (.cons (.var 3) (.cons (.var 2) .nil)))))) (.seq (.ret (.bin false .add (.tup (.cons (.str [102, 105, 118, 101]) (.cons (.var 3) .nil))) (.var 2)))
    .nil) .nil)
    .nil))
    .nil))
    (.seq (.ret .non)
    .nil))))⟩
/-- is_right -/
abbrev i_is_right : Nat := 37
def n_is_right : List String := ["table"]
def d_is_right : Def := ⟨1, 1, (.seq (.ret (.cmp (.isC false) (.call 36 (.cons (.var 0) .nil)) .non))
    .nil)⟩
/-- _law_cell -/
abbrev i_law_cell : Nat := 6
def n_law_cell : List String := ["script", "k"]
def d_law_cell : Def := ⟨2, 2, (.seq (.ife (.cmp .lt (.var 1) (.bi false .len (.cons (.var 0) .nil))) (.seq (.ret (.idx (.var 0) (.var 1)))
    .nil) .nil)
    (.seq (.ret (.int 0))
    .nil))⟩
/-- _law_well -/
abbrev i_law_well : Nat := 7
def n_law_well : List String := ["cell", "turn"]
def d_law_well : Def := ⟨2, 2, (.seq (.ife (.cmp .ge (.var 0) (.bin false .pow (.int 10) (.int 18))) (.seq (.ret (.lst true (.cons (.bin false .sub (.var 0) (.bin false .pow (.int 10) (.int 18))) (.cons (.bin false .mod (.var 0) (.int 2305843009213693951)) (.cons (.var 1) .nil)))))
    .nil) .nil)
    (.seq (.ret (.lst true (.cons (.int 0) (.cons (.bin false .mod (.var 0) (.int 2305843009213693951)) (.cons (.var 1) .nil)))))
    .nil))⟩
/-- _law_take -/
abbrev i_law_take : Nat := 8
def n_law_take : List String := ["bag", "many", "p", "n", "found"]
def d_law_take : Def := ⟨2, 5, (.seq (.ife (.cmp .gt (.idx (.var 0) (.int 0)) (.int 0)) (.seq (.asg (.tName 4) (.bin false .mod (.idx (.var 0) (.int 0)) (.var 1)))
    (.seq (.asg (.tSub (.var 0) (.int 0)) (.bin false .div (.idx (.var 0) (.int 0)) (.var 1)))
    (.seq (.ret (.var 4))
    .nil))) .nil)
    (.seq (.asg (.tSub (.var 0) (.int 2)) (.bin false .add (.idx (.var 0) (.int 2)) (.int 1)))
    (.seq (.asg (.tName 2) (.int 2305843009213693951))
    (.seq (.asg (.tName 3) (.bin false .mod (.bin false .add (.idx (.var 0) (.int 1)) (.bin false .mul (.int 1000003) (.idx (.var 0) (.int 2)))) (.var 2)))
    (.seq (.asg (.tName 3) (.bin false .mod (.bin false .add (.bin false .add (.bin false .mul (.var 3) (.var 3)) (.bin false .mul (.int 7919) (.bin false .pow (.idx (.var 0) (.int 2)) (.int 2)))) (.int 5)) (.var 2)))
    (.seq (.ret (.bin false .mod (.bin false .div (.bin false .mod (.bin false .pow (.var 3) (.int 3)) (.var 2)) (.int 13)) (.var 1)))
    .nil))))))⟩
/-- _law_shuffled -/
abbrev i_law_shuffled : Nat := 9
def n_law_shuffled : List String := ["bag", "some", "left", "found"]
def d_law_shuffled : Def := ⟨2, 4, (.seq (.asg (.tName 2) (.bi true .list (.cons (.var 1) .nil)))
    (.seq (.asg (.tName 3) (.lst true .nil))
    (.seq (.whl (.cmp .ne (.var 2) (.lst false .nil)) (.seq (.expr (.mth .append (.var 3) (.cons (.mth .popAt (.var 2) (.cons (.call 8 (.cons (.var 0) (.cons (.bi false .len (.cons (.var 2) .nil)) .nil))) .nil)) .nil)))
    .nil))
    (.seq (.ret (.frz (.var 3)))
    .nil))))⟩
/-- _law_threes -/
abbrev i_law_threes : Nat := 10
def n_law_threes : List String := ["many", "found", "a", "b", "c"]
def d_law_threes : Def := ⟨1, 5, (.seq (.asg (.tName 1) (.lst true .nil))
    (.seq (.for (.tName 2) (.iRange1 (.var 0)) (.seq (.for (.tName 3) (.iRange2 (.bin false .add (.var 2) (.int 1)) (.var 0)) (.seq (.expr (.mth .extend (.var 1) (.cons (.comp false [4] (.tName 4) (.iRange2 (.bin false .add (.var 3) (.int 1)) (.var 0)) (.bl true) (.tup (.cons (.var 2) (.cons (.var 3) (.cons (.var 4) .nil))))) .nil)))
    .nil))
    .nil))
    (.seq (.ret (.frz (.var 1)))
    .nil)))⟩
/-- _law_fours -/
abbrev i_law_fours : Nat := 38
def n_law_fours : List String := ["many", "found", "a", "b", "c", "d"]
def d_law_fours : Def := ⟨1, 6, (.seq (.asg (.tName 1) (.lst true .nil))
    (.seq (.for (.tTup (.cons (.tName 2) (.cons (.tName 3) (.cons (.tName 4) .nil)))) (.iSeq (.call 10 (.cons (.var 0) .nil))) (.seq (.expr (.mth .extend (.var 1) (.cons (.comp false [5] (.tName 5) (.iRange2 (.bin false .add (.var 4) (.int 1)) (.var 0)) (.bl true) (.tup (.cons (.var 2) (.cons (.var 3) (.cons (.var 4) (.cons (.var 5) .nil)))))) .nil)))
    .nil))
    (.seq (.ret (.frz (.var 1)))
    .nil)))⟩
/-- _law_sides -/
abbrev i_law_sides : Nat := 22
def n_law_sides : List String := ["table", "told", "one", "three", "a", "b", "c"]
def d_law_sides : Def := ⟨1, 7, (.seq (.asg (.tName 1) (.dnew true))
    (.seq (.for (.tTup (.cons (.tTup (.cons (.tName 4) (.cons (.tName 5) (.cons (.tName 6) .nil)))) (.cons (.tName 2) .nil))) (.iZip (.call 10 (.cons (.idx (.var 0) (.int 0)) .nil)) (.idx (.var 0) (.int 1))) (.seq (.for (.tName 3) (.iSeq (.tup (.cons (.tup (.cons (.var 4) (.cons (.var 5) (.cons (.var 6) .nil)))) (.cons (.tup (.cons (.var 5) (.cons (.var 6) (.cons (.var 4) .nil)))) (.cons (.tup (.cons (.var 6) (.cons (.var 4) (.cons (.var 5) .nil)))) .nil))))) (.seq (.asg (.tSub (.var 1) (.var 3)) (.var 2))
    .nil))
    (.seq (.for (.tName 3) (.iSeq (.tup (.cons (.tup (.cons (.var 5) (.cons (.var 4) (.cons (.var 6) .nil)))) (.cons (.tup (.cons (.var 4) (.cons (.var 6) (.cons (.var 5) .nil)))) (.cons (.tup (.cons (.var 6) (.cons (.var 5) (.cons (.var 4) .nil)))) .nil))))) (.seq (.asg (.tSub (.var 1) (.var 3)) (.bin false .sub (.int 0) (.var 2)))
    .nil))
    .nil)))
    (.seq (.ret (.frz (.var 1)))
    .nil)))⟩
/-- _law_from -/
abbrev i_law_from : Nat := 23
def n_law_from : List String := ["many", "told", "three"]
def d_law_from : Def := ⟨2, 3, (.seq (.ret (.tup (.cons (.var 0) (.cons (.bi false .tuple (.cons (.comp false [2] (.tName 2) (.iSeq (.call 10 (.cons (.var 0) .nil))) (.bl true) (.idx (.var 1) (.var 2))) .nil)) .nil))))
    .nil)⟩
/-- _law_sweep -/
abbrev i_law_sweep : Nat := 24
def n_law_sweep : List String := ["bag", "many", "order", "row", "steps", "turn", "spots", "at", "k"]
def d_law_sweep : Def := ⟨2, 9, (.seq (.asg (.tName 2) (.call 9 (.cons (.var 0) (.cons (.bi false .rangeL1 (.cons (.var 1) .nil)) .nil))))
    (.seq (.asg (.tName 3) (.bi false .list (.cons (.var 2) .nil)))
    (.seq (.asg (.tName 4) (.lst true .nil))
    (.seq (.for (.tName 5) (.iRange1 (.bin false .div (.bin false .mul (.var 1) (.bin false .sub (.var 1) (.int 1))) (.int 2))) (.seq (.asg (.tName 6) (.comp false [8] (.tName 8) (.iRange1 (.bin false .sub (.var 1) (.int 1))) (.cmp .lt (.mth .index (.var 2) (.cons (.idx (.var 3) (.var 8)) .nil)) (.mth .index (.var 2) (.cons (.idx (.var 3) (.bin false .add (.var 8) (.int 1))) .nil))) (.var 8)))
    (.seq (.asg (.tName 7) (.idx (.var 6) (.call 8 (.cons (.var 0) (.cons (.bi false .len (.cons (.var 6) .nil)) .nil)))))
    (.seq (.expr (.mth .append (.var 4) (.cons (.tup (.cons (.idx (.var 3) (.var 7)) (.cons (.idx (.var 3) (.bin false .add (.var 7) (.int 1))) .nil))) .nil)))
    (.seq (.asg (.tName 3) (.bin false .add (.bin false .add (.slc false (.var 3) .non (.var 7)) (.lst false (.cons (.idx (.var 3) (.bin false .add (.var 7) (.int 1))) (.cons (.idx (.var 3) (.var 7)) .nil)))) (.slc false (.var 3) (.bin false .add (.var 7) (.int 2)) .non)))
    .nil)))))
    (.seq (.ret (.tup (.cons (.bi true .tuple (.cons (.var 2) .nil)) (.cons (.bi true .tuple (.cons (.var 4) .nil)) .nil))))
    .nil)))))⟩
/-- _law_read -/
abbrev i_law_read : Nat := 25
def n_law_read : List String := ["sweep", "many", "told", "order", "steps", "x", "y", "z", "one", "three", "k"]
def d_law_read : Def := ⟨1, 11, (.seq (.asg (.tTup (.cons (.tName 3) (.cons (.tName 4) .nil))) (.var 0))
    (.seq (.asg (.tName 1) (.bi false .len (.cons (.var 3) .nil)))
    (.seq (.asg (.tName 2) (.dnew true))
    (.seq (.for (.tTup (.cons (.tName 5) (.cons (.tName 6) (.cons (.tName 7) .nil)))) (.iSeq (.comp false [9] (.tName 9) (.iSeq (.call 10 (.cons (.var 1) .nil))) (.bl true) (.comp false [10] (.tName 10) (.iSeq (.var 9)) (.bl true) (.idx (.var 3) (.var 10))))) (.seq (.asg (.tName 8) (.ite (.cmp .lt (.mth .index (.var 4) (.cons (.tup (.cons (.var 5) (.cons (.var 6) .nil))) .nil)) (.mth .index (.var 4) (.cons (.tup (.cons (.var 6) (.cons (.var 7) .nil))) .nil))) (.int 1) (.neg (.int 1))))
    (.seq (.for (.tName 9) (.iSeq (.tup (.cons (.tup (.cons (.var 5) (.cons (.var 6) (.cons (.var 7) .nil)))) (.cons (.tup (.cons (.var 6) (.cons (.var 7) (.cons (.var 5) .nil)))) (.cons (.tup (.cons (.var 7) (.cons (.var 5) (.cons (.var 6) .nil)))) .nil))))) (.seq (.asg (.tSub (.var 2) (.var 9)) (.var 8))
    .nil))
    (.seq (.for (.tName 9) (.iSeq (.tup (.cons (.tup (.cons (.var 6) (.cons (.var 5) (.cons (.var 7) .nil)))) (.cons (.tup (.cons (.var 5) (.cons (.var 7) (.cons (.var 6) .nil)))) (.cons (.tup (.cons (.var 7) (.cons (.var 6) (.cons (.var 5) .nil)))) .nil))))) (.seq (.asg (.tSub (.var 2) (.var 9)) (.bin false .sub (.int 0) (.var 8)))
    .nil))
    .nil))))
    (.seq (.ret (.call 23 (.cons (.var 1) (.cons (.frz (.var 2)) .nil))))
    .nil)))))⟩
/-- _law_ring_table -/
abbrev i_law_ring_table : Nat := 26
def n_law_ring_table : List String := ["order", "told", "three", "one", "x", "y", "z", "k"]
def d_law_ring_table : Def := ⟨1, 8, (.seq (.asg (.tName 1) (.dnew true))
    (.seq (.for (.tName 2) (.iSeq (.call 10 (.cons (.bi false .len (.cons (.var 0) .nil)) .nil))) (.seq (.asg (.tTup (.cons (.tName 4) (.cons (.tName 5) (.cons (.tName 6) .nil)))) (.comp false [7] (.tName 7) (.iSeq (.var 2)) (.bl true) (.idx (.var 0) (.var 7))))
    (.seq (.for (.tName 3) (.iSeq (.tup (.cons (.tup (.cons (.var 4) (.cons (.var 5) (.cons (.var 6) .nil)))) (.cons (.tup (.cons (.var 5) (.cons (.var 6) (.cons (.var 4) .nil)))) (.cons (.tup (.cons (.var 6) (.cons (.var 4) (.cons (.var 5) .nil)))) .nil))))) (.seq (.asg (.tSub (.var 1) (.var 3)) (.int 1))
    .nil))
    (.seq (.for (.tName 3) (.iSeq (.tup (.cons (.tup (.cons (.var 5) (.cons (.var 4) (.cons (.var 6) .nil)))) (.cons (.tup (.cons (.var 4) (.cons (.var 6) (.cons (.var 5) .nil)))) (.cons (.tup (.cons (.var 6) (.cons (.var 5) (.cons (.var 4) .nil)))) .nil))))) (.seq (.asg (.tSub (.var 1) (.var 3)) (.neg (.int 1)))
    .nil))
    .nil))))
    (.seq (.ret (.call 23 (.cons (.bi false .len (.cons (.var 0) .nil)) (.cons (.frz (.var 1)) .nil))))
    .nil)))⟩
/-- _law_table -/
abbrev i_law_table : Nat := 27
def n_law_table : List String := ["bag", "least", "most", "many"]
def d_law_table : Def := ⟨3, 4, (.seq (.asg (.tName 3) (.bin false .add (.var 1) (.call 8 (.cons (.var 0) (.cons (.bin false .add (.bin false .sub (.var 2) (.var 1)) (.int 1)) .nil)))))
    (.seq (.ife (.cmp .eq (.call 8 (.cons (.var 0) (.cons (.int 6) .nil))) (.int 0)) (.seq (.ret (.call 26 (.cons (.call 9 (.cons (.var 0) (.cons (.bi false .rangeL1 (.cons (.var 3) .nil)) .nil))) .nil)))
    .nil) .nil)
    (.seq (.ret (.call 25 (.cons (.call 24 (.cons (.var 0) (.cons (.var 3) .nil))) .nil)))
    .nil)))⟩
/-- _law_any_table -/
abbrev i_law_any_table : Nat := 11
def n_law_any_table : List String := ["bag", "least", "most", "many", "three"]
def d_law_any_table : Def := ⟨3, 5, (.seq (.asg (.tName 3) (.bin false .add (.var 1) (.call 8 (.cons (.var 0) (.cons (.bin false .add (.bin false .sub (.var 2) (.var 1)) (.int 1)) .nil)))))
    (.seq (.ret (.tup (.cons (.var 3) (.cons (.bi false .tuple (.cons (.comp false [4] (.tName 4) (.iSeq (.call 10 (.cons (.var 3) .nil))) (.bl true) (.bin false .sub (.int 1) (.bin false .mul (.int 2) (.call 8 (.cons (.var 0) (.cons (.int 2) .nil)))))) .nil)) .nil))))
    .nil))⟩
/-- _law_spoilt_table -/
abbrev i_law_spoilt_table : Nat := 28
def n_law_spoilt_table : List String := ["bag", "table", "most", "sides", "turn", "at"]
def d_law_spoilt_table : Def := ⟨3, 6, (.seq (.asg (.tName 3) (.bi true .list (.cons (.idx (.var 1) (.int 1)) .nil)))
    (.seq (.for (.tName 4) (.iRange1 (.call 8 (.cons (.var 0) (.cons (.bin false .add (.var 2) (.int 1)) .nil)))) (.seq (.asg (.tName 5) (.call 8 (.cons (.var 0) (.cons (.bi false .len (.cons (.var 3) .nil)) .nil))))
    (.seq (.asg (.tSub (.var 3) (.var 5)) (.bin false .sub (.int 0) (.idx (.var 3) (.var 5))))
    .nil)))
    (.seq (.ret (.tup (.cons (.idx (.var 1) (.int 0)) (.cons (.bi false .tuple (.cons (.var 3) .nil)) .nil))))
    .nil)))⟩
/-- _law_lie -/
abbrev i_law_lie : Nat := 39
def n_law_lie : List String := ["table", "told", "fours", "x", "a", "b", "c", "d", "one", "row"]
def d_law_lie : Def := ⟨1, 10, (.seq (.asg (.tName 1) (.call 22 (.cons (.var 0) .nil)))
    (.seq (.asg (.tName 2) (.call 38 (.cons (.idx (.var 0) (.int 0)) .nil)))
    (.seq (.for (.tTup (.cons (.tName 4) (.cons (.tName 5) (.cons (.tName 6) (.cons (.tName 7) .nil))))) (.iSeq (.var 2)) (.seq (.asg (.tName 8) (.idx (.var 1) (.tup (.cons (.var 4) (.cons (.var 5) (.cons (.var 6) .nil))))))
    (.seq (.ife (.cmp .eq (.tup (.cons (.idx (.var 1) (.tup (.cons (.var 4) (.cons (.var 5) (.cons (.var 7) .nil))))) (.cons (.idx (.var 1) (.tup (.cons (.var 4) (.cons (.var 6) (.cons (.var 7) .nil))))) (.cons (.idx (.var 1) (.tup (.cons (.var 5) (.cons (.var 6) (.cons (.var 7) .nil))))) .nil)))) (.tup (.cons (.bin false .sub (.int 0) (.var 8)) (.cons (.var 8) (.cons (.bin false .sub (.int 0) (.var 8)) .nil))))) (.seq (.ret (.tup (.cons (.str [102, 111, 117, 114]) (.cons (.var 4) (.cons (.var 5) (.cons (.var 6) (.cons (.var 7) .nil)))))))
    .nil) .nil)
    .nil)))
    (.seq (.for (.tName 3) (.iRange1 (.idx (.var 0) (.int 0))) (.scoped (.seq (.for (.tTup (.cons (.tName 4) (.cons (.tName 5) (.cons (.tName 6) (.cons (.tName 7) .nil))))) (.iSeq (.var 2)) (.scoped (.seq (.ife (.cmp .notIn (.var 3) (.tup (.cons (.var 4) (.cons (.var 5) (.cons (.var 6) (.cons (.var 7) .nil)))))) (.seq (.asg (.tName 9) (.lst true (.cons (.bin false .mul (.idx (.var 1) (.tup (.cons (.var 3) (.cons (.var 4) (.cons (.var 5) .nil))))) (.idx (.var 1) (.tup (.cons (.var 3) (.cons (.var 6) (.cons (.var 7) .nil)))))) (.cons (.bin false .mul (.idx (.var 1) (.tup (.cons (.var 3) (.cons (.var 4) (.cons (.var 6) .nil))))) (.idx (.var 1) (.tup (.cons (.var 3) (.cons (.var 7) (.cons (.var 5) .nil)))))) .nil))))
    (.seq (.expr (.mth .append (.var 9) (.cons (.bin false .mul (.idx (.var 1) (.tup (.cons (.var 3) (.cons (.var 4) (.cons (.var 7) .nil))))) (.idx (.var 1) (.tup (.cons (.var 3) (.cons (.var 5) (.cons (.var 6) .nil)))))) .nil)))
    (.seq (.ife (.cmp .isIn (.frz (.var 9)) (.tup (.cons (.lst false (.cons (.int 1) (.cons (.int 1) (.cons (.int 1) .nil)))) (.cons (.lst false (.cons (.neg (.int 1)) (.cons (.neg (.int 1)) (.cons (.neg (.int 1)) .nil)))) .nil)))) (.seq (.ret (.tup (.cons (.str [102, 105, 118, 101]) (.cons (.var 3) (.cons (.var 4) (.cons (.var 5) (.cons (.var 6) (.cons (.var 7) .nil))))))))
    .nil) .nil)
    .nil))) .nil)
    .nil)))
    .nil)))
    (.seq (.ret .non)
    .nil)))))⟩
/-- _law_is -/
abbrev i_law_is : Nat := 29
def n_law_is : List String := ["found", "due", "one", "other"]
def d_law_is : Def := ⟨2, 4, (.seq (.ife (.bi false (.isinst [2, 3]) (.cons (.var 1) .nil)) (.seq (.ife (.or (.cmp .ne (.bi false (.isinst [2]) (.cons (.var 1) .nil)) (.bi false (.isinst [2]) (.cons (.var 0) .nil))) (.cmp .ne (.bi false (.isinst [3]) (.cons (.var 1) .nil)) (.bi false (.isinst [3]) (.cons (.var 0) .nil)))) (.seq (.ret (.bl false))
    .nil) .nil)
    (.seq (.ret (.and (.cmp .eq (.bi false .len (.cons (.var 0) .nil)) (.bi false .len (.cons (.var 1) .nil))) (.bi false .allL (.cons (.comp false [2, 3] (.tTup (.cons (.tName 2) (.cons (.tName 3) .nil))) (.iZip (.var 0) (.var 1)) (.bl true) (.call 29 (.cons (.var 2) (.cons (.var 3) .nil)))) .nil))))
    .nil)) .nil)
    (.seq (.ret (.and (.cmp .eq (.bi false (.isinst [1]) (.cons (.var 0) .nil)) (.bi false (.isinst [1]) (.cons (.var 1) .nil))) (.cmp .eq (.var 0) (.var 1))))
    .nil))⟩
/-- law -/
abbrev i_law_k03 : Nat := 40
def n_law_k03 : List String := ["script", "cell", "bag", "some", "right", "table", "due", "turn", "said", "found"]
def d_law_k03 : Def := ⟨1, 10, (.seq (.for (.tName 1) (.iSeq (.bin false .add (.lst false (.cons (.call 6 (.cons (.var 0) (.cons (.int 0) .nil))) .nil)) (.slc false (.var 0) (.int 1) (.int 6)))) (.scoped (.seq (.asg (.tName 2) (.call 7 (.cons (.var 1) (.cons (.int 0) .nil))))
    (.seq (.asg (.tName 3) (.lst false (.cons (.call 11 (.cons (.var 2) (.cons (.int 3) (.cons (.int 6) .nil)))) (.cons (.call 11 (.cons (.var 2) (.cons (.int 3) (.cons (.int 9) .nil)))) .nil))))
    (.seq (.asg (.tName 4) (.call 27 (.cons (.var 2) (.cons (.int 3) (.cons (.int 9) .nil)))))
    (.seq (.asg (.tName 3) (.bin false .add (.var 3) (.lst false (.cons (.var 4) (.cons (.call 28 (.cons (.var 2) (.cons (.var 4) (.cons (.int 1) .nil)))) (.cons (.call 28 (.cons (.var 2) (.cons (.var 4) (.cons (.int 4) .nil)))) .nil))))))
    (.seq (.for (.tName 5) (.iSeq (.var 3)) (.seq (.asg (.tName 6) (.call 39 (.cons (.var 5) .nil)))
    (.seq (.for (.tName 7) (.iRange1 (.int 2)) (.seq (.asg (.tName 9) (.call 36 (.cons (.var 5) .nil)))
    (.seq (.ife (.or (.cmp .ne (.cmp (.isC false) (.var 9) .non) (.cmp (.isC false) (.var 6) .non)) (.and (.cmp (.isC true) (.var 6) .non) (.not (.call 29 (.cons (.var 9) (.cons (.var 6) .nil)))))) (.seq (.ret (.bl false))
    .nil) .nil)
    .nil)))
    (.seq (.asg (.tName 8) (.call 37 (.cons (.var 5) .nil)))
    (.seq (.ife (.or (.not (.bi false (.isinst [1]) (.cons (.var 8) .nil))) (.cmp .ne (.var 8) (.cmp (.isC false) (.var 6) .non))) (.seq (.ret (.bl false))
    .nil) .nil)
    .nil)))))
    (.seq (.ife (.cmp (.isC true) (.call 39 (.cons (.var 4) .nil)) .non) (.seq (.ret (.bl false))
    .nil) .nil)
    .nil))))))))
    (.seq (.ret (.bl true))
    .nil))⟩
def defs : List (Nat × Def) := [(2, d_pairs_of), (3, d_threes_of), (6, d_law_cell), (7, d_law_well), (8, d_law_take), (9, d_law_shuffled), (10, d_law_threes), (11, d_law_any_table), (16, d_place_of), (17, d_turns_of), (18, d_side), (22, d_law_sides), (23, d_law_from), (24, d_law_sweep), (25, d_law_read), (26, d_law_ring_table), (27, d_law_table), (28, d_law_spoilt_table), (29, d_law_is), (33, d_fours_of), (34, d_is_four_right), (35, d_is_five_right), (36, d_lie_of), (37, d_is_right), (38, d_law_fours), (39, d_law_lie), (40, d_law_k03)]
def T : Nat → Option Def := tabT defs
end L
end PI

/-! The tools of the plain laws: one step at a time, loops, data. -/
namespace PI
mutual
theorem vsame_eq : ∀ (a b : Val), vsame a b = true → a = b
  | .non, b, h => by cases b <;> simp [vsame] at h ⊢
  | .bl x, b, h => by cases b <;> simp [vsame] at h ⊢; exact h
  | .int x, b, h => by cases b <;> simp [vsame] at h ⊢; exact h
  | .str x, b, h => by cases b <;> simp [vsame] at h ⊢; exact h
  | .tup x, b, h => by cases b <;> simp [vsame] at h ⊢; exact vsames_eq _ _ h
  | .ftup x, b, h => by cases b <;> simp [vsame] at h ⊢; exact vsames_eq _ _ h
  | .lst x, b, h => by cases b <;> simp [vsame] at h ⊢; exact vsames_eq _ _ h
  | .dct t x y, b, h => by cases b <;> simp [vsame] at h ⊢; exact ⟨h.1.1, vsames_eq _ _ h.1.2, vsames_eq _ _ h.2⟩
  | .ref x, b, h => by cases b <;> simp [vsame] at h ⊢; exact h
  | .fn x, b, h => by cases b <;> simp [vsame] at h ⊢; exact h
  | .exc x, b, h => by cases b <;> simp [vsame] at h ⊢; exact h
theorem vsames_eq : ∀ (a b : List Val), vsames a b = true → a = b
  | [], b, h => by cases b <;> simp [vsames] at h ⊢
  | x :: xs, b, h => by
    cases b <;> simp [vsames] at h ⊢
    exact ⟨vsame_eq _ _ h.1, vsames_eq _ _ h.2⟩
end
/-- a call's answer, looked at by the kernel -/
def okIs (r : R Val) (v : Val) : Bool := match r with
  | .ok w [] => vsame w v
  | _ => false
theorem okIs_eq {r : R Val} {v : Val} (h : okIs r v = true) : r = .ok v [] := by
  unfold okIs at h
  split at h
  · rw [vsame_eq _ _ h]
  · cases h
/-! ### data -/
@[simp] theorem noRef_non : noRef .non = true := rfl
@[simp] theorem noRef_bl (b : Bool) : noRef (.bl b) = true := rfl
@[simp] theorem noRef_int (b : Int) : noRef (.int b) = true := rfl
@[simp] theorem noRef_str (b : List Nat) : noRef (.str b) = true := rfl
@[simp] theorem noRef_tup (b : List Val) : noRef (.tup b) = noRefs b := rfl
@[simp] theorem noRef_ftup (b : List Val) : noRef (.ftup b) = noRefs b := rfl
@[simp] theorem noRef_lst (b : List Val) : noRef (.lst b) = noRefs b := rfl
@[simp] theorem noRef_dct (t : Bool) (a b : List Val) : noRef (.dct t a b) = (noRefs a && noRefs b) := rfl
@[simp] theorem noRef_ref (l : Nat) : noRef (.ref l) = false := rfl
@[simp] theorem noRefs_nil : noRefs [] = true := rfl
@[simp] theorem noRefs_cons (x : Val) (b : List Val) : noRefs (x :: b) = (noRef x && noRefs b) := rfl
@[simp] theorem noRefs_app (a b : List Val) : noRefs (a ++ b) = (noRefs a && noRefs b) := by
  induction a with
  | nil => rfl
  | cons x a ih => simp only [List.cons_append, noRefs_cons, ih, Bool.and_assoc]
@[simp] theorem isDatas_nil : isDatas [] = true := rfl
@[simp] theorem isDatas_cons (x : Val) (b : List Val) : isDatas (x :: b) = (isData x && isDatas b) := rfl
@[simp] theorem isData_non : isData .non = true := rfl
@[simp] theorem isData_bl (b : Bool) : isData (.bl b) = true := rfl
@[simp] theorem isData_int (b : Int) : isData (.int b) = true := rfl
@[simp] theorem isData_tup (b : List Val) : isData (.tup b) = isDatas b := rfl
@[simp] theorem isData_lst (b : List Val) : isData (.lst b) = isDatas b := rfl
theorem noRefs_of {xs : List Val} (h : ∀ x ∈ xs, noRef x = true) : noRefs xs = true := by
  induction xs with
  | nil => rfl
  | cons x xs ih => simp only [noRefs, h x (by simp), ih fun y hy => h y (by simp [hy]), Bool.and_self]
theorem isDatas_of {xs : List Val} (h : ∀ x ∈ xs, isData x = true) : isDatas xs = true := by
  induction xs with
  | nil => rfl
  | cons x xs ih => simp only [isDatas, h x (by simp), ih fun y hy => h y (by simp [hy]), Bool.and_self]
theorem vdepths_of {n : Nat} {xs : List Val} (h : ∀ x ∈ xs, vdepth x ≤ n) : vdepths xs ≤ n := by
  induction xs with
  | nil => simp [vdepths]
  | cons x xs ih =>
    have a := h x (by simp)
    have b := ih fun y hy => h y (by simp [hy])
    simp only [vdepths]; omega
@[simp] theorem noRefs_map {α : Type} {f : α → Val} {l : List α} (h : ∀ x, noRef (f x) = true) : noRefs (l.map f) = true := noRefs_of fun x hx => by
  obtain ⟨y, _, rfl⟩ := List.mem_map.mp hx; exact h y
@[simp] theorem isDatas_map {α : Type} {f : α → Val} {l : List α} (h : ∀ x, isData (f x) = true) : isDatas (l.map f) = true := isDatas_of fun x hx => by
  obtain ⟨y, _, rfl⟩ := List.mem_map.mp hx; exact h y
@[simp] theorem vdepths_map59 {α : Type} {f : α → Val} {l : List α} (h : ∀ x, vdepth (f x) ≤ 59) : vdepths (l.map f) ≤ 59 := vdepths_of fun x hx => by
  obtain ⟨y, _, rfl⟩ := List.mem_map.mp hx; exact h y
@[simp] theorem vdepth_int (i : Int) : vdepth (.int i) = 0 := rfl
@[simp] theorem vdepth_bl (i : Bool) : vdepth (.bl i) = 0 := rfl
@[simp] theorem vdepth_non : vdepth .non = 0 := rfl
@[simp] theorem vdepth_str (s : List Nat) : vdepth (.str s) = 0 := rfl
@[simp] theorem vdepth_tup (l : List Val) : vdepth (.tup l) = vdepths l + 1 := rfl
@[simp] theorem vdepth_lst (l : List Val) : vdepth (.lst l) = vdepths l + 1 := rfl
@[simp] theorem vdepths_nil : vdepths [] = 0 := rfl
@[simp] theorem vdepths_cons (x : Val) (l : List Val) : vdepths (x :: l) = max (vdepth x) (vdepths l) := rfl
@[simp] theorem veq_int (a b : Int) : veq (.int a) (.int b) = decide (a = b) := rfl
@[simp] theorem beq_cast (a b : Nat) : ((a : Int) == (b : Int)) = (a == b) := by
  by_cases h : a = b
  · simp [h]
  · have : ¬ (a : Int) = b := by omega
    rw [beq_eq_false_iff_ne.mpr h, beq_eq_false_iff_ne.mpr this]
theorem onB_bl {α : Type} (b : Bool) (p q : R α) : onB (.bl b) p q = if b then p else q := by cases b <;> rfl
theorem onBS_bl (b : Bool) (p q : RS) : onBS (.bl b) p q = if b then p else q := by cases b <;> rfl
@[simp] theorem veq_bl (a b : Bool) : veq (.bl a) (.bl b) = decide (a = b) := by cases a <;> cases b <;> rfl
@[simp] theorem veq_str (a b : List Nat) : veq (.str a) (.str b) = decide (a = b) := by
  by_cases h : a = b <;> simp [veq, h]
@[simp] theorem veq_non : veq .non .non = true := rfl
@[simp] theorem veq_tup (a b : List Val) : veq (.tup a) (.tup b) = veqs a b := rfl
@[simp] theorem veq_lst (a b : List Val) : veq (.lst a) (.lst b) = veqs a b := rfl
@[simp] theorem veqs_nil : veqs [] [] = true := rfl
@[simp] theorem veqs_cons (x y : Val) (a b : List Val) : veqs (x :: a) (y :: b) = (veq x y && veqs a b) := rfl
@[simp] theorem veqs_nc (y : Val) (b : List Val) : veqs [] (y :: b) = false := rfl
@[simp] theorem veqs_cn (y : Val) (b : List Val) : veqs (y :: b) [] = false := rfl
@[simp] theorem asData_ref (h : LH) (l : Nat) : asData h (.ref l) = match h[l]? with
    | some (.lst xs) => if isDatas xs then some (.lst xs) else none
    | _ => none := rfl
theorem asData_nr {h : LH} {v : Val} (hr : noRef v = true) (hd : isData v = true) : asData h v = some v := by
  cases v <;> first | (simp [asData, hd]; done) | (simp [isData] at hd; done) | (simp at hr; done)
@[simp] theorem asData_int (h : LH) (i : Int) : asData h (.int i) = some (.int i) := rfl
@[simp] theorem asData_bl (h : LH) (i : Bool) : asData h (.bl i) = some (.bl i) := rfl
@[simp] theorem asData_non (h : LH) : asData h .non = some .non := rfl
@[simp] theorem asData_tup (h : LH) (l : List Val) : asData h (.tup l) = if isDatas l then some (.tup l) else none := rfl
@[simp] theorem asData_lst (h : LH) (l : List Val) : asData h (.lst l) = if isDatas l then some (.lst l) else none := rfl
theorem perm_eraseIdx {α : Type} : ∀ (l : List α) (i : Nat) (h : i < l.length), (l[i] :: l.eraseIdx i).Perm l
  | x :: l, 0, _ => .refl _
  | x :: l, i + 1, h => by
    simp only [List.getElem_cons_succ, List.eraseIdx_cons_succ]
    exact (List.Perm.swap x _ _).trans ((perm_eraseIdx l i (by simpa using h)).cons x)
theorem map_eraseIdx {α β : Type} (f : α → β) : ∀ (l : List α) (i : Nat), (l.map f).eraseIdx i = (l.eraseIdx i).map f
  | [], _ => rfl
  | x :: l, 0 => rfl
  | x :: l, i + 1 => by simp only [List.map_cons, List.eraseIdx_cons_succ, map_eraseIdx f l i]
/-- how things stand as values -/
class GoodE {α : Type} (enc : α → Val) : Prop where
  ref : ∀ x, noRef (enc x) = true
  data : ∀ x, isData (enc x) = true
  dep : ∀ x, vdepth (enc x) ≤ 9
  eq : ∀ x y, veq (enc x) (enc y) = true ↔ x = y
section
variable {α : Type} {enc : α → Val} [g : GoodE enc]
@[simp] theorem ge_ref (x : α) : noRef (enc x) = true := g.ref x
@[simp] theorem ge_data (x : α) : isData (enc x) = true := g.data x
@[simp] theorem ge_refs (xs : List α) : noRefs (xs.map enc) = true := noRefs_of fun x hx => by
  obtain ⟨y, _, rfl⟩ := List.mem_map.mp hx; exact g.ref y
@[simp] theorem ge_datas (xs : List α) : isDatas (xs.map enc) = true := isDatas_of fun x hx => by
  obtain ⟨y, _, rfl⟩ := List.mem_map.mp hx; exact g.data y
theorem ge_deps (xs : List α) : vdepths (xs.map enc) ≤ 9 := vdepths_of fun x hx => by
  obtain ⟨y, _, rfl⟩ := List.mem_map.mp hx; exact g.dep y
@[simp] theorem ge_deps59 (xs : List α) : vdepths (xs.map enc) ≤ 59 := Nat.le_trans (ge_deps xs) (by omega)
@[simp] theorem ge_dep59 (x : α) : vdepth (enc x) ≤ 59 := Nat.le_trans (g.dep x) (by omega)
@[simp] theorem ge_dep60 (x : α) : vdepth (enc x) ≤ 60 := Nat.le_trans (g.dep x) (by omega)
@[simp] theorem ge_asData (h : LH) (x : α) : asData h (enc x) = some (enc x) := asData_nr (g.ref x) (g.data x)
@[simp] theorem ge_refsOf (x : α) : refsOf (enc x) = [] := refsOf_no _ (g.ref x)
@[simp] theorem ge_refsOfs (xs : List α) : refsOfs (xs.map enc) = [] := refsOfs_no _ (ge_refs xs)
theorem ge_veq [DecidableEq α] (x y : α) : veq (enc x) (enc y) = decide (x = y) := by
  by_cases h : x = y
  · simp [h, (g.eq y y).mpr rfl]
  · have : veq (enc x) (enc y) ≠ true := fun z => h ((g.eq x y).mp z)
    simp [h, this]
theorem ge_veqs (xs ys : List α) : veqs (xs.map enc) (ys.map enc) = true ↔ xs = ys := by
  induction xs generalizing ys with
  | nil => cases ys <;> simp [veqs]
  | cons x xs ih =>
    cases ys with
    | nil => simp [veqs]
    | cons y ys => simp only [List.map_cons, veqs, Bool.and_eq_true, g.eq, ih, List.cons.injEq]
theorem ge_any [DecidableEq α] (x : α) (xs : List α) : ((xs.map enc).any fun z => veq z (enc x)) = decide (x ∈ xs) := by
  induction xs with
  | nil => simp
  | cons y ys ih =>
    simp only [List.map_cons, List.any_cons, ih, ge_veq, List.mem_cons]
    by_cases e : y = x
    · subst e; simp
    · have : ¬ x = y := fun z => e z.symm
      simp [e, this]
theorem ge_index [BEq α] [LawfulBEq α] (x : α) (xs : List α) : indexOf (enc x) (xs.map enc) = if x ∈ xs then some (xs.idxOf x) else none := by
  induction xs with
  | nil => simp [indexOf]
  | cons y ys ih =>
    simp only [List.map_cons, indexOf, ih, List.mem_cons, List.idxOf_cons]
    by_cases e : y = x
    · subst e; simp [(g.eq y y).mpr rfl]
    · have e1 : ¬ x = y := fun z => e z.symm
      have e' : (y == x) = false := by simp [e]
      have e2 : veq (enc y) (enc x) = false := by
        cases hh : veq (enc y) (enc x) with
        | false => rfl
        | true => exact absurd ((g.eq y x).mp hh) e
      by_cases hm : x ∈ ys <;> simp [e1, e', e2, hm]
end
@[simp] theorem eq_lit (a k : Nat) : ((a : Int) = (no_index (@OfNat.ofNat Int k instOfNat))) = (a = k) := by
  simp only [eq_iff_iff]; exact ⟨fun h => by have : (a : Int) = (k : Int) := h; omega, fun h => by subst h; rfl⟩
@[simp] theorem lt_litl (a k : Nat) : ((no_index (@OfNat.ofNat Int k instOfNat)) < (a : Int)) = (k < a) := by
  show ((k : Int) < (a : Int)) = _
  simp only [eq_iff_iff]; omega
@[simp] theorem lt_litr (a k : Nat) : ((a : Int) < (no_index (@OfNat.ofNat Int k instOfNat))) = (a < k) := by
  show ((a : Int) < (k : Int)) = _
  simp only [eq_iff_iff]; omega
@[simp] theorem le_litl (a k : Nat) : ((no_index (@OfNat.ofNat Int k instOfNat)) ≤ (a : Int)) = (k ≤ a) := by
  show ((k : Int) ≤ (a : Int)) = _
  simp only [eq_iff_iff]; omega
@[simp] theorem le_litr (a k : Nat) : ((a : Int) ≤ (no_index (@OfNat.ofNat Int k instOfNat))) = (a ≤ k) := by
  show ((a : Int) ≤ (k : Int)) = _
  simp only [eq_iff_iff]; omega
@[simp] theorem eq_cast (a b : Nat) : ((a : Int) = (b : Int)) = (a = b) := by simp only [eq_iff_iff]; omega
/-- a whole number -/
abbrev eN (n : Nat) : Val := .int (n : Int)
abbrev eZ (n : Int) : Val := .int n
def e2 (p : Nat × Nat) : Val := .tup [eN p.1, eN p.2]
def e3 (p : Nat × Nat × Nat) : Val := .tup [eN p.1, eN p.2.1, eN p.2.2]
def e4 (p : Nat × Nat × Nat × Nat) : Val := .tup [eN p.1, eN p.2.1, eN p.2.2.1, eN p.2.2.2]
/-- a tuple of whole numbers -/
def eT (l : List Nat) : Val := .tup (l.map eN)
def eTZ (l : List Int) : Val := .tup (l.map eZ)
instance : GoodE eN := ⟨fun _ => rfl, fun _ => rfl, fun _ => by simp [vdepth], fun x y => by simp [veq] <;> omega⟩
instance : GoodE (fun n : Nat => Val.int (n : Int)) := ⟨fun _ => rfl, fun _ => rfl, fun _ => by simp [vdepth], fun x y => by simp [veq] <;> omega⟩
instance : GoodE Val.int := ⟨fun _ => rfl, fun _ => rfl, fun _ => by simp [vdepth], fun x y => by simp [veq]⟩
instance : GoodE eZ := ⟨fun _ => rfl, fun _ => rfl, fun _ => by simp [vdepth], fun x y => by simp [veq]⟩
instance : GoodE Val.bl := ⟨fun _ => rfl, fun _ => rfl, fun _ => by simp [vdepth], fun x y => by simp [veq]⟩
instance : GoodE e2 := ⟨fun _ => rfl, fun _ => rfl, fun _ => by simp [e2, vdepth, vdepths], fun x y => by simp [e2, veq, veqs, Prod.ext_iff] <;> omega⟩
instance : GoodE e3 := ⟨fun _ => rfl, fun _ => rfl, fun _ => by simp [e3, vdepth, vdepths], fun x y => by simp [e3, veq, veqs, Prod.ext_iff] <;> omega⟩
instance : GoodE e4 := ⟨fun _ => rfl, fun _ => rfl, fun _ => by simp [e4, vdepth, vdepths], fun x y => by simp [e4, veq, veqs, Prod.ext_iff] <;> omega⟩
theorem vdepths_int (l : List Nat) : vdepths (l.map eN) = 0 := by induction l <;> simp_all [vdepths, vdepth]
theorem vdepths_intZ (l : List Int) : vdepths (l.map eZ) = 0 := by induction l <;> simp_all [vdepths, vdepth]
instance : GoodE eT := ⟨fun l => by simp [eT, noRef], fun l => by simp [eT, isData], fun l => by simp [eT, vdepth, vdepths_int], fun x y => by simp only [eT, veq]; exact ge_veqs (enc := eN) x y⟩
instance : GoodE eTZ := ⟨fun l => by simp [eTZ, noRef], fun l => by simp [eTZ, isData], fun l => by simp [eTZ, vdepth, vdepths_intZ], fun x y => by simp only [eTZ, veq]; exact ge_veqs (enc := eZ) x y⟩
theorem idx_eN (x : Nat) (O : List Nat) : indexOf (.int (x : Int)) (O.map eN) = if x ∈ O then some (O.idxOf x) else none := ge_index (enc := eN) x O
theorem idx_e2 (x : Nat × Nat) (O : List (Nat × Nat)) : indexOf (e2 x) (O.map e2) = if x ∈ O then some (O.idxOf x) else none := ge_index (enc := e2) x O
/-! ### places -/
@[simp] theorem ixN_nat (n k : Nat) : ixN n (k : Int) = if k < n then some k else none := by
  unfold ixN
  have : (0 : Int) ≤ (k : Int) := by omega
  simp only [this, if_true, Int.toNat_natCast]
  by_cases h : k < n
  · have : (k : Int) < n := by omega
    simp [h, this]
  · have : ¬ (k : Int) < n := by omega
    simp [h, this]
@[simp] theorem ixN_lit (n k : Nat) : ixN n (no_index (@OfNat.ofNat Int k instOfNat)) = if k < n then some k else none := ixN_nat n k
@[simp] theorem ixN_add (n k j : Nat) : ixN n ((k : Int) + (no_index (@OfNat.ofNat Int j instOfNat))) = if k + j < n then some (k + j) else none := ixN_nat n (k + j)
theorem ixN_neg (n k : Nat) (h : 1 ≤ k) (h' : k ≤ n) : ixN n (-(k : Int)) = some (n - k) := by
  unfold ixN
  have a : ¬ (0 : Int) ≤ -(k : Int) := by omega
  have b : -(n : Int) ≤ -(k : Int) := by omega
  rw [if_neg a, if_pos b]
  congr 1; omega
theorem getIx_tup {xs : List Val} {i : Int} {h : LH} : getIx (.tup xs) (.int i) h = (ixN xs.length i).bind fun j => xs[j]? := rfl
theorem getIx_lst {xs : List Val} {i : Int} {h : LH} : getIx (.lst xs) (.int i) h = (ixN xs.length i).bind fun j => xs[j]? := rfl
theorem getIx_ftup {xs : List Val} {i : Int} {h : LH} : getIx (.ftup xs) (.int i) h = (ixN xs.length i).bind fun j => xs[j]? := rfl
theorem getIx_ref {l : Nat} {i : Val} {h : LH} : getIx (.ref l) i h = match h[l]? with
    | some (.lst xs) => (match i with
      | .int k => (ixN xs.length k).bind fun j => xs[j]?
      | _ => none)
    | some (.dct t ks vs) => if keyOf t i then dget i ks vs else none
    | _ => none := by
  have e1 : asDict h (.ref l) = match h[l]? with | some (.dct t ks vs) => some (t, ks, vs) | _ => none := rfl
  have e2 : asSeq h (.ref l) = match h[l]? with | some (.lst xs) => some xs | _ => none := rfl
  unfold getIx
  rw [e1, e2]
  cases h[l]? with
  | none => cases i <;> rfl
  | some o => cases o <;> cases i <;> rfl
@[simp] theorem setIx_0 {xs : List Val} {hs : LH} (k : Int) (v : Val) : setIx (.ref 0) (.int k) v (.lst xs :: hs) = match ixN xs.length k with
    | some j => .ok () (.lst (xs.set j v) :: hs)
    | none => .err := rfl
@[simp] theorem setIx_1 {o0 : Ob} {xs : List Val} {hs : LH} (k : Int) (v : Val) : setIx (.ref 1) (.int k) v (o0 :: .lst xs :: hs) = match ixN xs.length k with
    | some j => .ok () (o0 :: .lst (xs.set j v) :: hs)
    | none => .err := rfl
@[simp] theorem setIx_2 {o0 o1 : Ob} {xs : List Val} {hs : LH} (k : Int) (v : Val) : setIx (.ref 2) (.int k) v (o0 :: o1 :: .lst xs :: hs) = match ixN xs.length k with
    | some j => .ok () (o0 :: o1 :: .lst (xs.set j v) :: hs)
    | none => .err := rfl
@[simp] theorem freeze_0 {xs : List Val} {hs : LH} : freeze (.ref 0) (.lst xs :: hs) = if noRefs xs then .ok (.lst xs) (.dead :: hs) else .err := rfl
@[simp] theorem freeze_1 {o0 : Ob} {xs : List Val} {hs : LH} : freeze (.ref 1) (o0 :: .lst xs :: hs) = if noRefs xs then .ok (.lst xs) (o0 :: .dead :: hs) else .err := rfl
@[simp] theorem freeze_2 {o0 o1 : Ob} {xs : List Val} {hs : LH} : freeze (.ref 2) (o0 :: o1 :: .lst xs :: hs) = if noRefs xs then .ok (.lst xs) (o0 :: o1 :: .dead :: hs) else .err := rfl
@[simp] theorem freeze_3 {o0 o1 o2 : Ob} {xs : List Val} {hs : LH} : freeze (.ref 3) (o0 :: o1 :: o2 :: .lst xs :: hs) = if noRefs xs then .ok (.lst xs) (o0 :: o1 :: o2 :: .dead :: hs) else .err := rfl
@[simp] theorem freeze_4 {o0 o1 o2 o3 : Ob} {xs : List Val} {hs : LH} : freeze (.ref 4) (o0 :: o1 :: o2 :: o3 :: .lst xs :: hs) = if noRefs xs then .ok (.lst xs) (o0 :: o1 :: o2 :: o3 :: .dead :: hs) else .err := rfl
@[simp] theorem freeze_5 {o0 o1 o2 o3 o4 : Ob} {xs : List Val} {hs : LH} : freeze (.ref 5) (o0 :: o1 :: o2 :: o3 :: o4 :: .lst xs :: hs) = if noRefs xs then .ok (.lst xs) (o0 :: o1 :: o2 :: o3 :: o4 :: .dead :: hs) else .err := rfl
@[simp] theorem freeze_lst (xs : List Val) (h : LH) : freeze (.lst xs) h = .ok (.lst xs) h := rfl
@[simp] theorem freeze_tup (xs : List Val) (h : LH) : freeze (.tup xs) h = .ok (.tup xs) h := rfl
@[simp] theorem freeze_ftup (xs : List Val) (h : LH) : freeze (.ftup xs) h = .ok (.ftup xs) h := rfl
@[simp] theorem freeze_int (xs : Int) (h : LH) : freeze (.int xs) h = .ok (.int xs) h := rfl
@[simp] theorem freeze_bl (xs : Bool) (h : LH) : freeze (.bl xs) h = .ok (.bl xs) h := rfl
@[simp] theorem freeze_str (xs : List Nat) (h : LH) : freeze (.str xs) h = .ok (.str xs) h := rfl
@[simp] theorem freeze_non (h : LH) : freeze .non h = .ok .non h := rfl
@[simp] theorem isIn_tup (a : Val) (xs : List Val) (h : LH) : cmpop.isIn a (.tup xs) h = if isData a ∧ isDatas xs ∧ vdepth a ≤ 60 ∧ vdepths xs ≤ 59 then some (xs.any fun z => veq z a) else none := rfl
@[simp] theorem isIn_ftup (a : Val) (xs : List Val) (h : LH) : cmpop.isIn a (.ftup xs) h = if isData a ∧ isDatas xs ∧ vdepth a ≤ 60 ∧ vdepths xs ≤ 59 then some (xs.any fun z => veq z a) else none := rfl
@[simp] theorem isIn_lst (a : Val) (xs : List Val) (h : LH) : cmpop.isIn a (.lst xs) h = if isData a ∧ isDatas xs ∧ vdepth a ≤ 60 ∧ vdepths xs ≤ 59 then some (xs.any fun z => veq z a) else none := rfl
theorem getIx_dct {t : Bool} {ks vs : List Val} {i : Val} {h : LH} : getIx (.dct t ks vs) i h = if keyOf t i then dget i ks vs else none := rfl
theorem rangeV_0 (n : Nat) : rangeV 0 (n : Int) = (List.range n).map eN := by
  unfold rangeV
  simp [eN]
theorem rangeV_nat (a n : Nat) : rangeV (a : Int) (n : Int) = (List.range' a (n - a)).map eN := by
  unfold rangeV
  rw [show ((n : Int) - a).toNat = n - a by omega, List.range'_eq_map_range, List.map_map]
  apply List.map_congr_left
  intro i _
  simp [eN]
theorem rangeOk_nat (a n : Nat) (ha : a ≤ SL) (h : n ≤ SL) : rangeOk (a : Int) (n : Int) = true := by
  unfold rangeOk
  simp only [SL] at ha h ⊢
  simp only [Bool.and_eq_true, decide_eq_true_eq]
  omega
theorem rangeOk_0 (n : Nat) (h : n ≤ SL) : rangeOk 0 (n : Int) = true := rangeOk_nat 0 n (by omega) h
@[simp] theorem boolsOf_map (l : List Bool) : boolsOf (l.map .bl) = some l := by induction l <;> simp_all [boolsOf]
@[simp] theorem intsOf_map (l : List Int) : intsOf (l.map .int) = some l := by induction l <;> simp_all [intsOf]
theorem intsOf_nat (l : List Nat) : intsOf (l.map eN) = some (l.map Int.ofNat) := by induction l <;> simp_all [intsOf]
/-! ### a body's end -/
@[simp] theorem trimTo_zero (h : LH) : trimTo 0 h = [] := by
  unfold trimTo; simp
theorem fin_rt0 {v : Val} {h : LH} (hv : noRef v = true) : fin 0 (.rt v h) = .ok v [] := by
  simp only [fin, refsOf_no v hv, below, List.all_nil, if_true, trimTo_zero]
theorem fin_nx0 {σ : Env} {h : LH} : fin 0 (.nx σ h) = .ok .non [] := by
  simp only [fin, trimTo_zero]
theorem fin_rt1 {v : Val} {xs : List Val} {h : LH} (hv : noRef v = true) (hx : noRefs xs = true) : fin 1 (.rt v (.lst xs :: h)) = .ok v [.lst xs] := by
  simp only [fin, refsOf_no v hv, below, List.all_nil, if_true, trimTo, List.take_succ_cons, List.take_zero, List.all_cons, objRefs, refsOfs_no xs hx, Bool.and_self]
/-! ### loops -/
@[simp] theorem stays_nil (h : LH) : stays [] h = true := rfl
theorem forGo_nil {ok : LH → Bool} {f : Val → Env → LH → RS} {σ : Env} {h : LH} (o : ok h = true) : forGo ok f [] σ h = .nx σ h := by simp only [forGo, o, if_true]
/-- a loop by what is so behind each part of the items -/
theorem for_inv {α : Type} {enc : α → Val} {ok : LH → Bool} {f : Val → Env → LH → RS} (I : List α → Env → LH → Prop) (xs : List α) {σ : Env} {h : LH} (i0 : I [] σ h) (o : ∀ p σ h, I p σ h → ok h = true)
    (st : ∀ p x s σ h, xs = p ++ x :: s → I p σ h → ∃ σ' h', f (enc x) σ h = .nx σ' h' ∧ I (p ++ [x]) σ' h') : ∃ σ' h', forGo ok f (xs.map enc) σ h = .nx σ' h' ∧ I xs σ' h' := by
  have go : ∀ (s p : List α) σ h, xs = p ++ s → I p σ h → ∃ σ' h', forGo ok f (s.map enc) σ h = .nx σ' h' ∧ I xs σ' h' := by
    intro s
    induction s with
    | nil => intro p σ h e i; exact ⟨σ, h, by simp only [List.map_nil, forGo, o _ _ _ i, if_true], by rw [e, List.append_nil]; exact i⟩
    | cons x s ih =>
      intro p σ h e i
      obtain ⟨σ1, h1, e1, i1⟩ := st p x s σ h e i
      obtain ⟨σ2, h2, e2, i2⟩ := ih (p ++ [x]) σ1 h1 (by simp [e]) i1
      exact ⟨σ2, h2, by simp only [List.map_cons, forGo, o _ _ _ i, if_true, e1, RS.bind, e2], i2⟩
  exact go xs [] σ h rfl i0
/-- a loop that may answer: the first item of which the test is so -/
theorem for_find {α : Type} {enc : α → Val} {ok : LH → Bool} {f : Val → Env → LH → RS} (I : Env → LH → Prop) (p : α → Bool) (r : α → Val) (xs : List α) {σ : Env} {h : LH} (i0 : I σ h) (o : ∀ σ h, I σ h → ok h = true)
    (st : ∀ x ∈ xs, ∀ σ h, I σ h → if p x then ∃ h', f (enc x) σ h = .rt (r x) h' else ∃ σ' h', f (enc x) σ h = .nx σ' h' ∧ I σ' h') :
    match xs.find? p with
    | some x => ∃ h', forGo ok f (xs.map enc) σ h = .rt (r x) h'
    | none => ∃ σ' h', forGo ok f (xs.map enc) σ h = .nx σ' h' ∧ I σ' h' := by
  induction xs generalizing σ h with
  | nil => exact ⟨σ, h, by simp only [List.map_nil, forGo, o _ _ i0, if_true], i0⟩
  | cons x xs ih =>
    have q := st x (by simp) σ h i0
    rw [List.find?_cons]
    cases hp : p x with
    | true =>
      rw [if_pos hp] at q
      obtain ⟨h', e⟩ := q
      exact ⟨h', by simp only [List.map_cons, forGo, o _ _ i0, if_true, e, RS.bind]⟩
    | false =>
      rw [if_neg (by simp [hp])] at q
      obtain ⟨σ1, h1, e, i1⟩ := q
      have := ih i1 fun y hy => st y (List.mem_cons_of_mem _ hy)
      simp only [List.map_cons, forGo, o _ _ i0, if_true, e, RS.bind]
      exact this
theorem for_find' {α : Type} {enc : α → Val} {ok : LH → Bool} {f : Val → Env → LH → RS} {xs : List α} {σ : Env} {h : LH} {rs : RS} (e : forGo ok f (xs.map enc) σ h = rs) (I : Env → LH → Prop) (p : α → Bool) (r : α → Val) (i0 : I σ h) (o : ∀ σ h, I σ h → ok h = true)
    (st : ∀ x ∈ xs, ∀ σ h, I σ h → if p x then ∃ h', f (enc x) σ h = .rt (r x) h' else ∃ σ' h', f (enc x) σ h = .nx σ' h' ∧ I σ' h') :
    (∃ x h', xs.find? p = some x ∧ rs = .rt (r x) h') ∨ (xs.find? p = none ∧ ∃ σ' h', rs = .nx σ' h' ∧ I σ' h') := by
  have := for_find I p r xs i0 o st
  rw [e] at this
  cases hf : xs.find? p with
  | some x => rw [hf] at this; obtain ⟨h', q⟩ := this; exact .inl ⟨x, h', rfl, q⟩
  | none => rw [hf] at this; exact .inr ⟨rfl, this⟩
theorem for_inv' {α : Type} {enc : α → Val} {ok : LH → Bool} {f : Val → Env → LH → RS} {xs : List α} {σ : Env} {h : LH} {rs : RS} (e : forGo ok f (xs.map enc) σ h = rs) (I : List α → Env → LH → Prop) (i0 : I [] σ h) (o : ∀ p σ h, I p σ h → ok h = true)
    (st : ∀ p x s σ h, xs = p ++ x :: s → I p σ h → ∃ σ' h', f (enc x) σ h = .nx σ' h' ∧ I (p ++ [x]) σ' h') : ∃ σ' h', rs = .nx σ' h' ∧ I xs σ' h' := by
  rw [← e]; exact for_inv I xs i0 o st
/-- a loop that goes on whatever stands: no word but of what stays -/
theorem for_all' {α : Type} {enc : α → Val} {ok : LH → Bool} {f : Val → Env → LH → RS} {xs : List α} {σ : Env} {h : LH} {rs : RS} (e : forGo ok f (xs.map enc) σ h = rs) (I : Env → LH → Prop) (i0 : I σ h) (o : ∀ σ h, I σ h → ok h = true)
    (st : ∀ x ∈ xs, ∀ σ h, I σ h → ∃ σ' h', f (enc x) σ h = .nx σ' h' ∧ I σ' h') : ∃ σ' h', rs = .nx σ' h' ∧ I σ' h' :=
  for_inv' e (fun _ => I) i0 (fun _ => o) fun p x s σ h he i => st x (by rw [he]; simp) σ h i
/-- a comprehension -/
theorem comp_map {α : Type} {enc : α → Val} {ok : LH → Bool} {f : Val → LH → R (Option Val)} {h : LH} (o : ok h = true) (g : α → Option Val) (xs : List α) (q : ∀ x ∈ xs, f (enc x) h = .ok (g x) h) : compGo ok f (xs.map enc) h = .ok (xs.filterMap g) h := by
  induction xs with
  | nil => simp only [List.map_nil, compGo, o, if_true, List.filterMap_nil]
  | cons x xs ih =>
    simp only [List.map_cons, compGo, o, if_true, q x (by simp), R.bind, ih fun y hy => q y (List.mem_cons_of_mem _ hy)]
    cases hg : g x <;> simp [hg]
/-- a comprehension without a test -/
theorem comp_all {α : Type} {enc : α → Val} {ok : LH → Bool} {f : Val → LH → R (Option Val)} {h : LH} (o : ok h = true) (g : α → Val) (xs : List α) (q : ∀ x ∈ xs, f (enc x) h = .ok (some (g x)) h) : compGo ok f (xs.map enc) h = .ok (xs.map g) h := by
  rw [comp_map o (fun x => some (g x)) xs q]
  simp
/-- a comprehension with a test -/
theorem comp_filter {α : Type} {enc : α → Val} {ok : LH → Bool} {f : Val → LH → R (Option Val)} {h : LH} (o : ok h = true) (p : α → Bool) (g : α → Val) (xs : List α) (q : ∀ x ∈ xs, f (enc x) h = .ok (if p x then some (g x) else none) h) : compGo ok f (xs.map enc) h = .ok ((xs.filter p).map g) h := by
  rw [comp_map o _ xs q]
  congr 1
  clear q
  induction xs with
  | nil => rfl
  | cons x xs ih => by_cases hp : p x = true <;> simp [List.filter_cons, hp, ih]
/-- a comprehension whose items change the heap -/
theorem comp_inv {α : Type} {enc : α → Val} {ok : LH → Bool} {f : Val → LH → R (Option Val)} (I : List α → List Val → LH → Prop) (xs : List α) {h : LH} (i0 : I [] [] h) (o : ∀ p r h, I p r h → ok h = true)
    (st : ∀ p x s r h, xs = p ++ x :: s → I p r h → ∃ y h', f (enc x) h = .ok y h' ∧ I (p ++ [x]) (r ++ y.toList) h') : ∃ r h', compGo ok f (xs.map enc) h = .ok r h' ∧ I xs r h' := by
  have go : ∀ (s p : List α) r h, xs = p ++ s → I p r h → ∃ r' h', compGo ok f (s.map enc) h = .ok r' h' ∧ I xs (r ++ r') h' := by
    intro s
    induction s with
    | nil => intro p r h e i; exact ⟨[], h, by simp only [List.map_nil, compGo, o _ _ _ i, if_true], by rw [e, List.append_nil, List.append_nil]; exact i⟩
    | cons x s ih =>
      intro p r h e i
      obtain ⟨y, h1, e1, i1⟩ := st p x s r h e i
      obtain ⟨r2, h2, e2, i2⟩ := ih (p ++ [x]) _ h1 (by simp [e]) i1
      refine ⟨y.toList ++ r2, h2, ?_, by rw [← List.append_assoc]; exact i2⟩
      simp only [List.map_cons, compGo, o _ _ _ i, if_true, e1, R.bind_ok, e2]
      cases y <;> rfl
  obtain ⟨r', h', e, i⟩ := go xs [] [] h rfl i0
  exact ⟨r', h', e, by simpa using i⟩
/-- a while by a measure -/
theorem while_inv {f : Env → LH → RS} {c : Env → LH → R Val} (I : Nat → Env → LH → Prop) : ∀ (m N : Nat) (σ : Env) (h : LH), m < N → I m σ h →
    (∀ k σ h, I (k + 1) σ h → ∃ h1 σ' h', c σ h = .ok (.bl true) h1 ∧ f σ h1 = .nx σ' h' ∧ I k σ' h') → (∀ σ h, I 0 σ h → c σ h = .ok (.bl false) h) → ∃ σ' h', whileGo f c N σ h = .nx σ' h' ∧ I 0 σ' h'
  | 0, N + 1, σ, h, _, i, _, z => ⟨σ, h, by simp only [whileGo, z σ h i, R.then, onBS], i⟩
  | m + 1, N + 1, σ, h, hm, i, s, z => by
    obtain ⟨h1, σ1, h2, e1, e2, i1⟩ := s m σ h i
    obtain ⟨σ', h', e, i'⟩ := while_inv I m N σ1 h2 (by omega) i1 s z
    exact ⟨σ', h', by simp only [whileGo, e1, R.then, onBS, e2, RS.bind, e], i'⟩
/-! ### calls -/
theorem callT_eq {ds : List (Nat × Def)} {G : Nat → Val} {n f : Nat} {as : List Val} {h : LH} {d : Def} (e : tabT ds f = some d) (hl : as.length = d.np) : callN (tabT ds) G (n + 1) f as h = fin h.length (ex (callN (tabT ds) G n) G d.body (start d as) h) := by
  show (match tabT ds f with | some d => _ | none => _) = _
  rw [e]; simp only [hl, if_true]
/-- a call that makes one list -/
theorem callIn_new {C : CallT} {f : Nat} {as : List Val} {h : LH} {ys : List Val} (ha : noRefs as = true) (hy : noRefs ys = true) (e : C f as [] = .ok (.ref 0) [.lst ys]) : callIn C f as h = .ok (.ref h.length) (h ++ [.lst ys]) := by
  unfold callIn
  rw [refsOfs_no as ha]
  have r : reach h 400 [] [] = some [] := rfl
  have s : sub h [] = some [] := rfl
  simp only [r, s, mapRefs_no _ as ha, e, mapRef, backPlace, List.getElem?_nil, List.length_nil, Nat.sub_zero, Nat.add_zero, List.map_cons, List.map_nil, mapObj, mapRefs_no _ ys hy, merge, putAll, List.drop_zero]
namespace L
/-- the constants of the modules -/
def Gv : Nat → Val
  | 0 => .int 3
  | 1 => .int 9
  | 2 => .int 6
  | _ => .non
/-- the calls of so deep -/
abbrev Cn (n : Nat) : CallT := callN T Gv n
theorem Cn_eq {n f : Nat} {as : List Val} {h : LH} (d : Def) (e : T f = some d) (hl : as.length = d.np) : Cn (n + 1) f as h = fin h.length (ex (Cn n) Gv d.body (start d as) h) := callT_eq e hl
theorem Cn_up {k n f : Nat} {as : List Val} {h h' : LH} {v : Val} (hk : k ≤ n) (e : Cn k f as h = .ok v h') : Cn n f as h = .ok v h' := callN_up hk e
/-- a pure call, from wherever -/
theorem pure_of {k n f : Nat} {as : List Val} {h : LH} {v : Val} (hk : k ≤ n) (e : Cn k f as [] = .ok v []) (ha : noRefs as = true) (hv : noRef v = true) : callIn (Cn n) f as h = .ok v h := callIn_pure ha hv (Cn_up hk e)
end L
end PI

/-! Tables: what the defs of the first module answer. -/
namespace PI
namespace L
def pairs (n : Nat) : List (Nat × Nat) := (List.range n).flatMap fun a => (List.range' (a + 1) (n - (a + 1))).map fun b => (a, b)
def threes (n : Nat) : List (Nat × Nat × Nat) := (pairs n).flatMap fun p => (List.range' (p.2 + 1) (n - (p.2 + 1))).map fun c => (p.1, p.2, c)
def fours (n : Nat) : List (Nat × Nat × Nat × Nat) := (threes n).flatMap fun p => (List.range' (p.2.2 + 1) (n - (p.2.2 + 1))).map fun d => (p.1, p.2.1, p.2.2, d)
theorem mem_pairs {n a b : Nat} : (a, b) ∈ pairs n ↔ a < b ∧ b < n := by
  simp only [pairs, List.mem_flatMap, List.mem_map, List.mem_range, List.mem_range'_1, Prod.mk.injEq]
  constructor
  · rintro ⟨x, h1, y, h2, rfl, rfl⟩; omega
  · intro h; exact ⟨a, by omega, b, by omega, rfl, rfl⟩
theorem mem_threes {n a b c : Nat} : (a, b, c) ∈ threes n ↔ a < b ∧ b < c ∧ c < n := by
  simp only [threes, List.mem_flatMap, List.mem_map, List.mem_range'_1, Prod.mk.injEq]
  constructor
  · rintro ⟨⟨x, y⟩, h1, z, h2, rfl, rfl, rfl⟩; have := mem_pairs.mp h1; simp only at h2; omega
  · intro h; exact ⟨(a, b), mem_pairs.mpr (by omega), c, by simp only; omega, rfl, rfl, rfl⟩
theorem mem_fours {n a b c d : Nat} : (a, b, c, d) ∈ fours n ↔ a < b ∧ b < c ∧ c < d ∧ d < n := by
  simp only [fours, List.mem_flatMap, List.mem_map, List.mem_range'_1, Prod.mk.injEq]
  constructor
  · rintro ⟨⟨x, y, z⟩, h1, w, h2, e1, e2, e3, e4⟩; have := mem_threes.mp h1; simp only at h2 e1 e2 e3 e4; omega
  · intro h; exact ⟨(a, b, c), mem_threes.mpr (by omega), d, by simp only; omega, rfl, rfl, rfl, rfl⟩
theorem pairs_k : (List.range 11).all (fun n => okIs (Cn 1 i_pairs_of [eN n] []) (.lst ((pairs n).map e2))) = true := by decide +kernel
theorem threes_k : (List.range 11).all (fun n => okIs (Cn 2 i_threes_of [eN n] []) (.lst ((threes n).map e3))) = true := by decide +kernel
theorem lthrees_k : (List.range 11).all (fun n => okIs (Cn 1 i_law_threes [eN n] []) (.lst ((threes n).map e3))) = true := by decide +kernel
theorem nodup_k : (List.range 11).all (fun n => decide (threes n).Nodup) = true := by decide +kernel
/-- the place of a rising three -/
def pl (n : Nat) (p : Nat × Nat × Nat) : Nat := (threes n).idxOf p
theorem place_k : (List.range 10).all (fun n => (threes n).all fun p => okIs (Cn 1 i_place_of [eN n, eN p.1, eN p.2.1, eN p.2.2] []) (eN (pl n p))) = true := by decide +kernel
theorem of_k {p : Nat → Bool} {m n : Nat} (h : (List.range m).all p = true) (hn : n < m) : p n = true := List.all_eq_true.mp h n (by simpa using hn)
section
variable {n : Nat} {h : LH}
theorem c_pairs {m : Nat} (hm : m ≤ 10) (hn : 1 ≤ n) : callIn (Cn n) i_pairs_of [eN m] h = .ok (.lst ((pairs m).map e2)) h := by
  have q := of_k (n := m) pairs_k (by omega)
  exact pure_of (k := 1) hn (okIs_eq q) rfl (by simp [noRef])
theorem c_threes {m : Nat} (hm : m ≤ 10) (hn : 2 ≤ n) : callIn (Cn n) i_threes_of [eN m] h = .ok (.lst ((threes m).map e3)) h := by
  have q := of_k (n := m) threes_k (by omega)
  exact pure_of (k := 2) hn (okIs_eq q) rfl (by simp [noRef])
theorem c_lthrees {m : Nat} (hm : m ≤ 10) (hn : 1 ≤ n) : callIn (Cn n) i_law_threes [eN m] h = .ok (.lst ((threes m).map e3)) h := by
  have q := of_k (n := m) lthrees_k (by omega)
  exact pure_of (k := 1) hn (okIs_eq q) rfl (by simp [noRef])
theorem c_place {m a b c : Nat} (hm : m ≤ 9) (h1 : a < b) (h2 : b < c) (h3 : c < m) (hn : 1 ≤ n) : callIn (Cn n) i_place_of [eN m, eN a, eN b, eN c] h = .ok (eN (pl m (a, b, c))) h := by
  have q := List.all_eq_true.mp (of_k (n := m) place_k (by omega)) (a, b, c) (mem_threes.mpr ⟨h1, h2, h3⟩)
  exact pure_of (k := 1) hn (okIs_eq q) rfl rfl
end
end L
end PI

/-! Tables: side, and what rests on it. -/
namespace PI
namespace L
/-- a table: how many things, the sides -/
abbrev Tb := Nat × List Int
def tv (t : Tb) : Val := .tup [eN t.1, eTZ t.2]
theorem tv_inj (x y : Tb) : veq (tv x) (tv y) = true ↔ x = y := by
  have h1 := (inferInstance : GoodE eN).eq x.1 y.1
  have h2 := (inferInstance : GoodE eTZ).eq x.2 y.2
  simp only [tv, veq_tup, veqs_cons, veqs_nil, Bool.and_true, Bool.and_eq_true, h1, h2, Prod.ext_iff]
instance : GoodE tv := ⟨fun t => by simp [tv], fun t => by simp [tv], fun t => by simp [tv, eTZ, vdepths_intZ], tv_inj⟩
structure TW (t : Tb) : Prop where
  lo : 3 ≤ t.1
  hi : t.1 ≤ 9
  len : t.2.length = (threes t.1).length
  one : ∀ x ∈ t.2, x = 1 ∨ x = -1
def sort3 (a b c : Nat) : Nat × Nat × Nat :=
  if a < b then (if b < c then (a, b, c) else if a < c then (a, c, b) else (c, a, b))
  else if a < c then (b, a, c) else if b < c then (b, c, a) else (c, b, a)
def sg3 (a b c : Nat) : Int := 1 - 2 * (((if b < a then 1 else 0) + (if c < a then 1 else 0) + (if c < b then 1 else 0)) % 2)
def chi (t : Tb) (a b c : Nat) : Int := sg3 a b c * t.2.getD (pl t.1 (sort3 a b c)) 0
theorem sortI_3 {a b c : Nat} (h1 : a ≠ b) (h2 : a ≠ c) (h3 : b ≠ c) : sortI [(a : Int), (b : Int), (c : Int)] = [((sort3 a b c).1 : Int), ((sort3 a b c).2.1 : Int), ((sort3 a b c).2.2 : Int)] := by
  simp only [sortI, insI, sort3]
  by_cases x : a < b <;> by_cases y : b < c <;> by_cases z : a < c <;> (repeat' split) <;> simp [insI] <;> (repeat' split) <;> simp <;> omega
theorem sort3_lt {a b c : Nat} (h1 : a ≠ b) (h2 : a ≠ c) (h3 : b ≠ c) : (sort3 a b c).1 < (sort3 a b c).2.1 ∧ (sort3 a b c).2.1 < (sort3 a b c).2.2 := by
  unfold sort3
  repeat' split
  all_goals simp only; omega
theorem sort3_mx {a b c n : Nat} (ha : a < n) (hb : b < n) (hc : c < n) : (sort3 a b c).2.2 < n := by
  unfold sort3
  repeat' split
  all_goals simp only; omega
theorem pl_lt {n : Nat} {p : Nat × Nat × Nat} (h : p ∈ threes n) : pl n p < (threes n).length := List.idxOf_lt_length_iff.mpr h
theorem c_turns {n a b c : Nat} {h : LH} (hn : 1 ≤ n) : callIn (Cn n) i_turns_of [eN a, eN b, eN c] h = .ok (.int (sg3 a b c)) h := by
  refine pure_of (k := 1) hn ?_ rfl rfl
  rw [Cn_eq d_turns_of rfl rfl]
  by_cases x : b < a <;> by_cases y : c < a <;> by_cases z : c < b <;> simp [d_turns_of, x, y, z, sg3, fin_rt0, mulOk]
theorem mulOk_sm {i j : Int} (h : -10 ≤ i ∧ i ≤ 10) : mulOk i j = true := by
  unfold mulOk
  simp only [Bool.or_eq_true, Bool.and_eq_true, decide_eq_true_eq]
  omega
theorem sg3_one (a b c : Nat) : sg3 a b c = 1 ∨ sg3 a b c = -1 := by
  unfold sg3; (repeat' split) <;> simp
theorem mulOk_sg (a b c : Nat) (j : Int) : mulOk (sg3 a b c) j = true := mulOk_sm (by rcases sg3_one a b c with h | h <;> omega)
theorem c_side {n : Nat} {t : Tb} {a b c : Nat} {h : LH} (hw : TW t) (ha : a < t.1) (hb : b < t.1) (hc : c < t.1) (h1 : a ≠ b) (h2 : a ≠ c) (h3 : b ≠ c) (hn : 2 ≤ n) : callIn (Cn n) i_side [tv t, eN a, eN b, eN c] h = .ok (.int (chi t a b c)) h := by
  refine pure_of (k := 2) hn ?_ (by simp [tv]) rfl
  rw [Cn_eq d_side rfl rfl]
  have hl := sort3_lt h1 h2 h3
  have hm := sort3_mx ha hb hc
  have hp : pl t.1 (sort3 a b c) < t.2.length := by
    rw [hw.len]; exact pl_lt (mem_threes.mpr ⟨hl.1, hl.2, hm⟩)
  have hs := sortI_3 h1 h2 h3
  unfold chi
  generalize sort3 a b c = p at *
  obtain ⟨x, y, z⟩ := p
  simp only at hs hl hm
  have hq : t.2[pl t.1 (x, y, z)]? = some (t.2.getD (pl t.1 (x, y, z)) 0) := by
    rw [List.getD_eq_getElem?_getD, List.getElem?_eq_getElem hp]; rfl
  simp -implicitDefEqProofs [d_side, intsOf, hs, tv, getIx_tup, c_turns, eTZ, SL, c_place hw.hi hl.1 hl.2 hm, hp, hq, mulOk_sg, fin_rt0]
def mir (t : Tb) : Tb := (t.1, t.2.map fun z => 0 - z)
/-- the thing at a place -/
def nth (o : List Nat) (k : Nat) : Nat := o.getD k 0
def ren (t : Tb) (o : List Nat) : Tb := (o.length, (threes o.length).map fun p => chi t (nth o p.1) (nth o p.2.1) (nth o p.2.2))
def wo (t : Tb) (x : Nat) : Tb := ren t ((List.range t.1).filter fun y => y ≠ x)
theorem threes_len_k : (List.range 11).all (fun n => decide ((threes n).length ≤ 120)) = true := by decide +kernel
theorem threes_len {n : Nat} (h : n ≤ 10) : (threes n).length ≤ 120 := of_decide_eq_true (of_k (n := n) threes_len_k (by omega))
theorem TW.sl {t : Tb} (hw : TW t) : t.2.length ≤ SL := by
  have := threes_len (n := t.1) (by have := hw.hi; omega)
  rw [hw.len]; simp only [SL]; omega
theorem nth_lt {o : List Nat} {n k : Nat} (h : ∀ x ∈ o, x < n) (hk : k < o.length) : nth o k < n := by
  unfold nth
  rw [List.getD_eq_getElem?_getD, List.getElem?_eq_getElem hk]; exact h _ (List.getElem_mem hk)
theorem nth_ne {o : List Nat} {i j : Nat} (h : o.Nodup) (hi : i < o.length) (hj : j < o.length) (e : i ≠ j) : nth o i ≠ nth o j := by
  unfold nth
  rw [List.getD_eq_getElem?_getD, List.getElem?_eq_getElem hi, List.getD_eq_getElem?_getD, List.getElem?_eq_getElem hj]
  simp only [Option.getD_some]
  intro z; exact e (List.getElem_inj h |>.mp z)
theorem nth_get {o : List Nat} {k : Nat} (hk : k < o.length) : o[k] = nth o k := by
  unfold nth
  rw [List.getD_eq_getElem?_getD, List.getElem?_eq_getElem hk]; rfl
theorem nth_mem {o : List Nat} {k : Nat} (hk : k < o.length) : nth o k ∈ o := by
  rw [← nth_get hk]; exact List.getElem_mem hk
theorem nth_get? {o : List Nat} {k : Nat} (hk : k < o.length) : o[k]? = some (nth o k) := by
  rw [List.getElem?_eq_getElem hk, nth_get]
end L
end PI

/-! The laws' draws. -/
namespace PI
namespace L
abbrev Bag := Int × Int × Int
abbrev bagO (b : Bag) : Ob := .lst [.int b.1, .int b.2.1, .int b.2.2]
structure BagOK (k : Nat) (b : Bag) : Prop where
  p0 : 0 ≤ b.1
  p1 : 0 ≤ b.2.1
  p2 : b.2.1 < 2305843009213693951
  p3 : 0 ≤ b.2.2
  p4 : b.2.2 ≤ k
theorem BagOK.le {k m : Nat} {b : Bag} (h : BagOK k b) (e : k ≤ m) : BagOK m b := ⟨h.p0, h.p1, h.p2, h.p3, by have := h.p4; omega⟩
theorem cell_c {n k : Nat} {ns : List Int} {h : LH} (hn : 1 ≤ n) (hl : ns.length ≤ SL) : callIn (Cn n) i_law_cell [.lst (ns.map .int), eN k] h = .ok (.int (ns.getD k 0)) h := by
  refine pure_of (k := 1) hn ?_ (by simp) (by simp)
  rw [Cn_eq d_law_cell rfl rfl]
  rw [List.getD_eq_getElem?_getD]
  by_cases c : k < ns.length
  · have c' : (k : Int) < (ns.length : Int) := by omega
    simp -implicitDefEqProofs (maxDischargeDepth := 12) [SL, ev.asgN, wipe, getIx_tup, getIx_lst, getIx_ftup, getIx_ref, fin_rt0, fin_nx0, Function.comp_def, Nat.max_le, -Prod.exists, -Prod.forall, d_law_cell, c, c']
  · have c' : ¬ (k : Int) < (ns.length : Int) := by omega
    simp -implicitDefEqProofs (maxDischargeDepth := 12) [SL, ev.asgN, wipe, getIx_tup, getIx_lst, getIx_ftup, getIx_ref, fin_rt0, fin_nx0, Function.comp_def, Nat.max_le, -Prod.exists, -Prod.forall, d_law_cell, c, c']
theorem well_c {n : Nat} (c : Int) {h : LH} (hn : 1 ≤ n) : ∃ b, BagOK 0 b ∧ callIn (Cn n) i_law_well [.int c, .int 0] h = .ok (.ref h.length) (h ++ [bagO b]) := by
  obtain ⟨n, rfl⟩ := Nat.exists_eq_add_of_le' hn
  by_cases q : 1000000000000000000 ≤ c
  · refine ⟨(c - 1000000000000000000, c % 2305843009213693951, 0), ⟨by simp only; omega, by simp only; omega, by simp only; omega, by simp, by simp⟩, callIn_new (by simp) (by simp) ?_⟩
    rw [Cn_eq d_law_well rfl rfl]
    simp -implicitDefEqProofs (maxDischargeDepth := 12) [SL, ev.asgN, wipe, getIx_tup, getIx_lst, getIx_ftup, getIx_ref, fin_rt0, fin_nx0, Function.comp_def, Nat.max_le, -Prod.exists, -Prod.forall, d_law_well, q, fin, refsOf, below]
  · refine ⟨(0, c % 2305843009213693951, 0), ⟨by simp, by simp only; omega, by simp only; omega, by simp, by simp⟩, callIn_new (by simp) (by simp) ?_⟩
    rw [Cn_eq d_law_well rfl rfl]
    simp -implicitDefEqProofs (maxDischargeDepth := 12) [SL, ev.asgN, wipe, getIx_tup, getIx_lst, getIx_ftup, getIx_ref, fin_rt0, fin_nx0, Function.comp_def, Nat.max_le, -Prod.exists, -Prod.forall, d_law_well, q, fin, refsOf, below]
theorem take_c {n k l m : Nat} {b : Bag} {h : LH} (hn : 1 ≤ n) (hb : h[l]? = some (bagO b)) (ok : BagOK k b) (hk : k ≤ 1000000000) (hm : 0 < m) (hm' : m < 1073741824) :
    ∃ (r : Nat) (b' : Bag), r < m ∧ BagOK (k + 1) b' ∧ callIn (Cn n) i_law_take [.ref l, eN m] h = .ok (eN r) (h.set l (bagO b')) := by
  obtain ⟨n, rfl⟩ := Nat.exists_eq_add_of_le' hn
  obtain ⟨b0, b1, b2⟩ := b
  obtain ⟨o1, o2, o3, o4, o5⟩ := ok
  simp only at o1 o2 o3 o4 o5
  have hm0 : (0 : Int) < (m : Int) := by omega
  have hm1 : (m : Int) < 1073741824 := by omega
  have fin_nat : ∀ z : Int, 0 ≤ z → z < m → ∃ r : Nat, r < m ∧ (r : Int) = z := fun z h1 h2 => ⟨z.toNat, by omega, by omega⟩
  by_cases q : 0 < b0
  · obtain ⟨r, r1, r2⟩ := fin_nat (b0 % m) (Int.emod_nonneg _ (by omega)) (Int.emod_lt_of_pos _ hm0)
    refine ⟨r, (b0 / m, b1, b2), r1, ⟨Int.ediv_nonneg o1 (by omega), o2, o3, o4, by simp only; omega⟩, callIn_one hb (by simp) (by simp) (by simp) (by simp) ?_⟩
    rw [Cn_eq d_law_take rfl rfl, show eN r = .int (b0 % m) by rw [← r2]]
    simp -implicitDefEqProofs (maxDischargeDepth := 12) [SL, ev.asgN, wipe, getIx_tup, getIx_lst, getIx_ftup, getIx_ref, fin_rt0, fin_nx0, Function.comp_def, Nat.max_le, -Prod.exists, -Prod.forall, d_law_take, q, hm, hm0, hm1, fin_rt1]
  · have e0 : b0 = 0 := by omega
    subst e0
    have key : ∀ n1 : Int, 0 ≤ n1 → n1 < 2305843009213693951 → (b1 + 1000003 * (b2 + 1)) % 2305843009213693951 = n1 → ∃ r : Nat, r < m ∧ Cn (n + 1) i_law_take [.ref 0, eN m] [bagO (0, b1, b2)] = .ok (eN r) [bagO (0, b1, b2 + 1)] := by
      intro n1 p1 p2 e1
      have w1 : -18446744073709551616 < n1 := by omega
      have w1' : n1 < 18446744073709551616 := by omega
      have w3 : (b2 + 1).natAbs < 18446744073709551616 := by omega
      have w2 : (((n1 * n1 + 7919 * (b2 + 1) ^ 2 + 5) % 2305843009213693951).natAbs) < 18446744073709551616 := by
        have := Int.emod_nonneg (n1 * n1 + 7919 * (b2 + 1) ^ 2 + 5) (show (2305843009213693951 : Int) ≠ 0 by omega)
        have := Int.emod_lt_of_pos (n1 * n1 + 7919 * (b2 + 1) ^ 2 + 5) (show (0 : Int) < 2305843009213693951 by omega)
        omega
      obtain ⟨r, r1, r2⟩ := fin_nat (((n1 * n1 + 7919 * (b2 + 1) ^ 2 + 5) % 2305843009213693951) ^ 3 % 2305843009213693951 / 13 % m) (Int.emod_nonneg _ (by omega)) (Int.emod_lt_of_pos _ hm0)
      refine ⟨r, r1, ?_⟩
      rw [Cn_eq d_law_take rfl rfl, show eN r = .int (((n1 * n1 + 7919 * (b2 + 1) ^ 2 + 5) % 2305843009213693951) ^ 3 % 2305843009213693951 / 13 % m) by rw [← r2]]
      simp -implicitDefEqProofs (maxDischargeDepth := 12) [SL, ev.asgN, wipe, getIx_tup, getIx_lst, getIx_ftup, getIx_ref, fin_rt0, fin_nx0, Function.comp_def, Nat.max_le, -Prod.exists, -Prod.forall, d_law_take, hm, hm0, mulOk, w3, e1, w1, w1', w2, fin_rt1]
    obtain ⟨r, r1, r2⟩ := key _ (Int.emod_nonneg _ (by omega)) (Int.emod_lt_of_pos _ (by omega)) rfl
    exact ⟨r, (0, b1, b2 + 1), r1, ⟨by simp, o2, o3, by simp only; omega, by simp only; omega⟩, callIn_one hb (by simp) (by simp) (by simp) (by simp) r2⟩
theorem take_2 {n k m : Nat} {b : Bag} {h : LH} (hn : 1 ≤ n) (ok : BagOK k b) (hk : k ≤ 1000000000) (hm : 0 < m) (hm' : m < 1073741824) :
    ∃ (r : Nat) (b' : Bag), r < m ∧ BagOK (k + 1) b' ∧ callIn (Cn n) i_law_take [.ref 0, eN m] (bagO b :: h) = .ok (eN r) (bagO b' :: h) := by
  obtain ⟨r, b', h1, h2, h3⟩ := take_c (l := 0) (h := bagO b :: h) hn rfl ok hk hm hm'
  exact ⟨r, b', h1, h2, h3⟩
/-- a draw of a def: from its own frame to wherever it is called -/
theorem bag_up {n k f l : Nat} {as : List Val} {h : LH} {b : Bag} {P : Val → Prop} (hb : h[l]? = some (bagO b)) (ha : noRefs as = true) (hv : ∀ v, P v → noRef v = true)
    (e : ∃ v b', P v ∧ BagOK k b' ∧ Cn n f (.ref 0 :: as) [bagO b] = .ok v [bagO b']) : ∃ v b', P v ∧ BagOK k b' ∧ callIn (Cn n) f (.ref l :: as) h = .ok v (h.set l (bagO b')) := by
  obtain ⟨v, b', h1, h2, h3⟩ := e
  exact ⟨v, b', h1, h2, callIn_one hb (by simp) (by simp) ha (hv v h1) h3⟩
theorem shuf_c {α : Type} {enc : α → Val} [GoodE enc] {n k l : Nat} {b : Bag} {h : LH} {xs : List α} {v : Val} (hv : v = .lst (xs.map enc) ∨ v = .tup (xs.map enc)) (hn : 2 ≤ n) (hb : h[l]? = some (bagO b)) (ok : BagOK k b) (hk : k ≤ 900000000) (hx : xs.length ≤ 1000) :
    ∃ (ys : List α) (b' : Bag), ys.Perm xs ∧ BagOK (k + xs.length) b' ∧ callIn (Cn n) i_law_shuffled [.ref l, v] h = .ok (.lst (ys.map enc)) (h.set l (bagO b')) := by
  obtain ⟨n, rfl⟩ := Nat.exists_eq_add_of_le' hn
  have hv0 : noRef v = true := by rcases hv with rfl | rfl <;> simp
  have key : ∃ (ys : List α) (b' : Bag), ys.Perm xs ∧ BagOK (k + xs.length) b' ∧ Cn (n + 2) i_law_shuffled [.ref 0, v] [bagO b] = .ok (.lst (ys.map enc)) [bagO b'] := by
    rw [show n + 2 = n + 1 + 1 from rfl, Cn_eq d_law_shuffled rfl rfl]
    generalize hr : fin _ _ = rr
    have hl : xs.length ≤ SL := by simp only [SL]; omega
    have hs : ∀ h : LH, asSeq h v = some (xs.map enc) := fun h => by rcases hv with rfl | rfl <;> rfl
    simp -implicitDefEqProofs (maxDischargeDepth := 12) [SL, ev.asgN, wipe, getIx_tup, getIx_lst, getIx_ftup, getIx_ref, fin_rt0, fin_nx0, Function.comp_def, Nat.max_le, -Prod.exists, -Prod.forall, d_law_shuffled, hs, hl, -asSeq] at hr
    generalize hw : whileGo _ _ _ _ _ = rs at hr
    obtain ⟨σ', h', rfl, ys, got, b', i1, i2, i3, rfl, rfl⟩ : ∃ σ' h', rs = .nx σ' h' ∧ ∃ (rem got : List α) (b' : Bag), rem.length = 0 ∧ (got ++ rem).Perm xs ∧ BagOK (k + got.length) b' ∧ σ' = [some (.ref 0), some v, some (.ref 1), some (.ref 2)] ∧ h' = [bagO b', .lst (rem.map enc), .lst (got.map enc)] := by
      rw [← hw]
      refine while_inv (fun m σ h => ∃ (rem got : List α) (b' : Bag), rem.length = m ∧ (got ++ rem).Perm xs ∧ BagOK (k + got.length) b' ∧ σ = [some (.ref 0), some v, some (.ref 1), some (.ref 2)] ∧ h = [bagO b', .lst (rem.map enc), .lst (got.map enc)])
        xs.length _ _ _ (by omega) ⟨xs, [], b, rfl, .refl _, ok, rfl, rfl⟩ ?_ ?_
      · rintro m σ h ⟨rem, got, b1, e1, e2, e3, rfl, rfl⟩
        have hlen := e2.length_eq
        simp only [List.length_append] at hlen
        obtain ⟨r, b2, t1, t2, t3⟩ := take_2 (n := n + 1) (m := rem.length) (h := [.lst (rem.map enc), .lst (got.map enc)]) (by omega) e3 (by omega) (by omega) (by omega)
        refine ⟨[bagO b1, .lst (rem.map enc), .lst (got.map enc)], _, [bagO b2, .lst ((rem.eraseIdx r).map enc), .lst ((got ++ [rem[r]]).map enc)], ?_, ?_, rem.eraseIdx r, got ++ [rem[r]], b2, ?_, ?_, ?_, rfl, rfl⟩
        · cases rem with
          | nil => simp at e1
          | cons x rem => simp -implicitDefEqProofs (maxDischargeDepth := 12) [SL, ev.asgN, wipe, getIx_tup, getIx_lst, getIx_ftup, getIx_ref, fin_rt0, fin_nx0, Function.comp_def, Nat.max_le, -Prod.exists, -Prod.forall]
        · have hr : (r : Int) < 9223372036854775808 := by omega
          have hg : got.length < SL := by simp only [SL]; omega
          simp -implicitDefEqProofs (maxDischargeDepth := 12) [SL, ev.asgN, wipe, getIx_tup, getIx_lst, getIx_ftup, getIx_ref, fin_rt0, fin_nx0, Function.comp_def, Nat.max_le, -Prod.exists, -Prod.forall, t3, t1, hr, hg, map_eraseIdx]
        · rw [List.length_eraseIdx_of_lt t1]; omega
        · refine .trans ?_ e2
          rw [List.append_assoc]
          exact (perm_eraseIdx rem r t1).append_left got
        · exact (by simpa [Nat.add_assoc] using t2)
      · rintro σ h ⟨rem, got, b1, e1, e2, e3, rfl, rfl⟩
        have : rem = [] := List.length_eq_zero_iff.mp e1
        subst this
        simp -implicitDefEqProofs (maxDischargeDepth := 12) [SL, ev.asgN, wipe, getIx_tup, getIx_lst, getIx_ftup, getIx_ref, fin_rt0, fin_nx0, Function.comp_def, Nat.max_le, -Prod.exists, -Prod.forall]
    have : ys = [] := List.length_eq_zero_iff.mp i1
    subst this
    rw [List.append_nil] at i2
    refine ⟨got, b', i2, by rw [← i2.length_eq]; exact i3, ?_⟩
    rw [← hr]
    simp -implicitDefEqProofs (maxDischargeDepth := 12) [SL, ev.asgN, wipe, getIx_tup, getIx_lst, getIx_ftup, getIx_ref, fin_rt0, fin_nx0, Function.comp_def, Nat.max_le, -Prod.exists, -Prod.forall, fin_rt1]
  obtain ⟨ys, b', h1, h2, h3⟩ := key
  exact ⟨ys, b', h1, h2, callIn_one hb (by simp) (by simp) (by simp [hv0]) (by simp) h3⟩
theorem any_c {n k l lo hi : Nat} {b : Bag} {h : LH} (hn : 2 ≤ n) (hb : h[l]? = some (bagO b)) (ok : BagOK k b) (hk : k ≤ 900000000) (h0 : 3 ≤ lo) (h1 : lo ≤ hi) (h2 : hi ≤ 9) :
    ∃ (t : Tb) (b' : Bag), TW t ∧ lo ≤ t.1 ∧ t.1 ≤ hi ∧ BagOK (k + 121) b' ∧ callIn (Cn n) i_law_any_table [.ref l, eN lo, eN hi] h = .ok (tv t) (h.set l (bagO b')) := by
  obtain ⟨n, rfl⟩ := Nat.exists_eq_add_of_le' hn
  have key : ∃ (t : Tb) (b' : Bag), TW t ∧ lo ≤ t.1 ∧ t.1 ≤ hi ∧ BagOK (k + 121) b' ∧ Cn (n + 2) i_law_any_table [.ref 0, eN lo, eN hi] [bagO b] = .ok (tv t) [bagO b'] := by
    rw [show n + 2 = n + 1 + 1 from rfl, Cn_eq d_law_any_table rfl rfl]
    generalize hr : fin _ _ = rr
    obtain ⟨r, b1, q1, q2, q3⟩ := take_2 (n := n + 1) (m := hi - lo + 1) (h := []) (by omega) ok (by omega) (by omega) (by omega)
    have e0 : (hi : Int) - (lo : Int) + 1 = ((hi - lo + 1 : Nat) : Int) := by omega
    have e1 : (lo : Int) + (r : Int) = ((lo + r : Nat) : Int) := by omega
    have hm : lo + r ≤ 9 := by omega
    have h3 := threes_len (n := lo + r) (by omega)
    have h4 : (threes (lo + r)).length ≤ SL := by simp only [SL]; omega
    simp -implicitDefEqProofs (maxDischargeDepth := 12) [SL, ev.asgN, wipe, getIx_tup, getIx_lst, getIx_ftup, getIx_ref, fin_rt0, fin_nx0, Function.comp_def, Nat.max_le, -Prod.exists, -Prod.forall, d_law_any_table, e0, q3, -Int.natCast_add, e1, c_lthrees (m := lo + r) (show lo + r ≤ 10 by omega), h4] at hr
    generalize hw : compGo _ _ _ _ = rs at hr
    obtain ⟨vs, h', rfl, b2, zs, i1, i2, i3, i4, rfl⟩ : ∃ vs h', rs = .ok vs h' ∧ ∃ (b' : Bag) (zs : List Int), BagOK (k + 1 + (threes (lo + r)).length) b' ∧ vs = zs.map eZ ∧ zs.length = (threes (lo + r)).length ∧ (∀ x ∈ zs, x = 1 ∨ x = -1) ∧ h' = [bagO b'] := by
      rw [← hw]
      refine comp_inv (fun p vs h' => ∃ (b' : Bag) (zs : List Int), BagOK (k + 1 + p.length) b' ∧ vs = zs.map eZ ∧ zs.length = p.length ∧ (∀ x ∈ zs, x = 1 ∨ x = -1) ∧ h' = [bagO b']) (threes (lo + r)) ⟨b1, [], q2, rfl, rfl, by simp, rfl⟩ (fun _ _ _ _ => rfl) ?_
      rintro p x s vs h' he ⟨b3, zs, j1, j2, j3, j4, rfl⟩
      have hp : p.length ≤ 120 := by
        have := congrArg List.length he
        simp only [List.length_append, List.length_cons] at this
        omega
      obtain ⟨u, b4, u1, u2, u3⟩ := take_2 (n := n + 1) (m := 2) (h := []) (by omega) j1 (by omega) (by omega) (by omega)
      have u3' : callIn (Cn (n + 1)) 8 [.ref 0, .int 2] [bagO b3] = .ok (eN u) [bagO b4] := u3
      refine ⟨some (eZ (1 - 2 * (u : Int))), [bagO b4], ?_, b4, zs ++ [1 - 2 * (u : Int)], by simpa [Nat.add_assoc] using u2, by simp [j2], by simp [j3], ?_, rfl⟩
      · simp -implicitDefEqProofs (maxDischargeDepth := 12) [SL, ev.asgN, wipe, getIx_tup, getIx_lst, getIx_ftup, getIx_ref, fin_rt0, fin_nx0, Function.comp_def, Nat.max_le, -Prod.exists, -Prod.forall, u3', mulOk]
      · intro z hz
        rw [List.mem_append, List.mem_singleton] at hz
        rcases hz with hz | rfl
        · exact j4 z hz
        · omega
    subst i2
    have i3' : zs.length ≤ SL := by rw [i3]; exact h4
    refine ⟨(lo + r, zs), b2, ⟨by simp only; omega, by simp only; omega, i3, i4⟩, by simp only; omega, by simp only; omega, i1.le (by omega), ?_⟩
    rw [← hr]
    simp -implicitDefEqProofs (maxDischargeDepth := 12) [SL, ev.asgN, wipe, getIx_tup, getIx_lst, getIx_ftup, getIx_ref, fin_rt0, fin_nx0, Function.comp_def, Nat.max_le, -Prod.exists, -Prod.forall, i3', fin_rt1, tv, eTZ]
  obtain ⟨t, b', k1, k2, k3, k4, k5⟩ := key
  exact ⟨t, b', k1, k2, k3, k4, callIn_one hb (by simp) (by simp) (by simp) (by simp [tv]) k5⟩
theorem set_eZ (zs : List Int) (i : Nat) (z : Int) : (zs.map eZ).set i (.int z) = (zs.set i z).map eZ := by rw [List.map_set]
theorem spoilt_c {n k l m : Nat} {b : Bag} {h : LH} {t : Tb} (hn : 2 ≤ n) (hb : h[l]? = some (bagO b)) (ok : BagOK k b) (hk : k ≤ 900000000) (hw : TW t) (hm : m ≤ 9) :
    ∃ (t' : Tb) (b' : Bag), TW t' ∧ t'.1 = t.1 ∧ BagOK (k + 11) b' ∧ callIn (Cn n) i_law_spoilt_table [.ref l, tv t, eN m] h = .ok (tv t') (h.set l (bagO b')) := by
  obtain ⟨n, rfl⟩ := Nat.exists_eq_add_of_le' hn
  have key : ∃ (t' : Tb) (b' : Bag), TW t' ∧ t'.1 = t.1 ∧ BagOK (k + 11) b' ∧ Cn (n + 2) i_law_spoilt_table [.ref 0, tv t, eN m] [bagO b] = .ok (tv t') [bagO b'] := by
    rw [show n + 2 = n + 1 + 1 from rfl, Cn_eq d_law_spoilt_table rfl rfl]
    generalize hr : fin _ _ = rr
    have hsl := hw.sl
    have hlen : 1 ≤ t.2.length ∧ t.2.length ≤ 120 := by
      have h1 : (0, 1, 2) ∈ threes t.1 := mem_threes.mpr (by have := hw.lo; omega)
      have h2 := List.length_pos_of_mem h1
      have h3 := threes_len (n := t.1) (by have := hw.hi; omega)
      rw [hw.len]; omega
    obtain ⟨r, b1, q1, q2, q3⟩ := take_2 (n := n + 1) (m := m + 1) (h := [.lst (t.2.map eZ)]) (by omega) ok (by omega) (by omega) (by omega)
    have e0 : (m : Int) + 1 = ((m + 1 : Nat) : Int) := by omega
    simp -implicitDefEqProofs (maxDischargeDepth := 12) [SL, ev.asgN, wipe, getIx_tup, getIx_lst, getIx_ftup, getIx_ref, fin_rt0, fin_nx0, Function.comp_def, Nat.max_le, -Prod.exists, -Prod.forall, d_law_spoilt_table, tv, eTZ, hsl, e0, q3, -Int.natCast_add, rangeOk_0 r (show r ≤ SL by simp only [SL]; omega), rangeV_0] at hr
    generalize hw' : forGo _ _ _ _ _ = rs at hr
    obtain ⟨σ', h', rfl, b2, zs, o4, o5, i1, i2, i3, rfl, rfl⟩ : ∃ σ' h', rs = .nx σ' h' ∧ ∃ (b' : Bag) (zs : List Int) (o4 o5 : Option Val), BagOK (k + 1 + (List.range r).length) b' ∧ zs.length = t.2.length ∧ (∀ x ∈ zs, x = 1 ∨ x = -1) ∧ σ' = [some (.ref 0), some (tv t), some (eN m), some (.ref 1), o4, o5] ∧ h' = [bagO b', .lst (zs.map eZ)] := by
      rw [← hw']
      refine for_inv (enc := eN) (fun p σ h' => ∃ (b' : Bag) (zs : List Int) (o4 o5 : Option Val), BagOK (k + 1 + p.length) b' ∧ zs.length = t.2.length ∧ (∀ x ∈ zs, x = 1 ∨ x = -1) ∧ σ = [some (.ref 0), some (tv t), some (eN m), some (.ref 1), o4, o5] ∧ h' = [bagO b', .lst (zs.map eZ)]) (List.range r) ⟨b1, t.2, none, none, q2, rfl, hw.one, rfl, rfl⟩ (fun _ _ _ _ => rfl) ?_
      rintro p x s σ h' he ⟨b3, zs, o4, o5, j1, j2, j3, rfl, rfl⟩
      have hp : p.length ≤ 120 := by
        have := congrArg List.length he
        simp only [List.length_append, List.length_cons, List.length_range] at this
        omega
      obtain ⟨u, b4, u1, u2, u3⟩ := take_2 (n := n + 1) (m := zs.length) (h := [.lst (zs.map eZ)]) (by omega) j1 (by omega) (by omega) (by omega)
      refine ⟨_, _, ?_, b4, zs.set u (0 - zs[u]), some (eN x), some (eN u), by simpa [Nat.add_assoc] using u2, by simp [j2], ?_, rfl, rfl⟩
      · simp -implicitDefEqProofs (maxDischargeDepth := 12) [SL, ev.asgN, wipe, getIx_tup, getIx_lst, getIx_ftup, getIx_ref, fin_rt0, fin_nx0, Function.comp_def, Nat.max_le, -Prod.exists, -Prod.forall, u3, u1, tv, eTZ]
      · intro z hz
        rcases List.mem_or_eq_of_mem_set hz with hz | rfl
        · exact j3 z hz
        · have := j3 _ (List.getElem_mem u1); omega
    have hz : zs.length ≤ SL := by rw [i2]; exact hsl
    refine ⟨(t.1, zs), b2, ⟨hw.lo, hw.hi, by rw [i2]; exact hw.len, i3⟩, rfl, i1.le (by simp; omega), ?_⟩
    rw [← hr]
    simp -implicitDefEqProofs (maxDischargeDepth := 12) [SL, ev.asgN, wipe, getIx_tup, getIx_lst, getIx_ftup, getIx_ref, fin_rt0, fin_nx0, Function.comp_def, Nat.max_le, -Prod.exists, -Prod.forall, hz, fin_rt1, tv, eTZ]
  obtain ⟨t', b', k1, k2, k3, k4⟩ := key
  exact ⟨t', b', k1, k2, k3, callIn_one hb (by simp) (by simp) (by simp [tv]) (by simp [tv]) k4⟩
end L
end PI

/-! Dicts as lists of pairs; slices. -/
namespace PI
section
variable {α β : Type} [DecidableEq α]
def dput (a : α) (v : β) (P : List (α × β)) : List (α × β) := if a ∈ P.map Prod.fst then P.map (fun q => if q.1 = a then (q.1, v) else q) else P ++ [(a, v)]
def dlook (a : α) : List (α × β) → Option β
  | [] => none
  | q :: P => if q.1 = a then some q.2 else dlook a P
theorem dlook_app (a b : α) (v : β) (P : List (α × β)) : dlook b (P ++ [(a, v)]) = match dlook b P with | some w => some w | none => if a = b then some v else none := by
  induction P with
  | nil => simp only [List.nil_append, dlook]
  | cons q P ih =>
    simp only [List.cons_append, dlook]
    split
    · rfl
    · exact ih
theorem dlook_none {b : α} {P : List (α × β)} : dlook b P = none ↔ b ∉ P.map Prod.fst := by
  induction P with
  | nil => simp [dlook]
  | cons q P ih =>
    simp only [dlook, List.map_cons, List.mem_cons]
    split
    · rename_i h; simp [h]
    · rename_i h
      rw [ih]
      constructor
      · intro z w; rcases w with w | w
        · exact h w.symm
        · exact z w
      · intro z w; exact z (.inr w)
theorem dlook_repl (a b : α) (v : β) (P : List (α × β)) : dlook b (P.map fun q => if q.1 = a then (q.1, v) else q) = if b = a ∧ b ∈ P.map Prod.fst then some v else dlook b P := by
  induction P with
  | nil => simp [dlook]
  | cons q P ih =>
    simp only [List.map_cons, dlook, List.mem_cons]
    by_cases h1 : q.1 = a
    · simp only [h1, if_true]
      by_cases h2 : a = b
      · subst h2; simp [dlook]
      · have : ¬ b = a := fun z => h2 z.symm
        simp [h2, ih, this]
    · simp only [h1, if_false]
      by_cases h2 : q.1 = b
      · have : ¬ b = a := fun z => h1 (h2.trans z)
        simp [h2, this]
      · have : ¬ b = q.1 := fun z => h2 z.symm
        simp only [h2, if_false, ih, this, false_or]
theorem dlook_dput (a b : α) (v : β) (P : List (α × β)) : dlook b (dput a v P) = if a = b then some v else dlook b P := by
  unfold dput
  by_cases h : a ∈ P.map Prod.fst
  · rw [if_pos h, dlook_repl]
    by_cases e : a = b
    · subst e; simp [h]
    · have : ¬ b = a := fun z => e z.symm
      simp only [this, false_and, if_false, e]
  · rw [if_neg h, dlook_app]
    by_cases e : a = b
    · subst e
      rw [dlook_none.mpr h]
    · simp only [e, if_false]
      cases dlook b P <;> simp
theorem dput_len (a : α) (v : β) (P : List (α × β)) : (dput a v P).length ≤ P.length + 1 := by
  unfold dput; split <;> simp
theorem dput_keys {a b : α} {v : β} {P : List (α × β)} (h : b ∈ (dput a v P).map Prod.fst) : b = a ∨ b ∈ P.map Prod.fst := by
  unfold dput at h
  split at h
  · right
    rw [List.map_map] at h
    obtain ⟨q, h1, h2⟩ := List.mem_map.mp h
    refine List.mem_map.mpr ⟨q, h1, ?_⟩
    rw [← h2]; simp only [Function.comp]
    split <;> rfl
  · rw [List.map_append, List.mem_append] at h
    rcases h with h | h
    · exact .inr h
    · left; simpa using h
variable {enc : α → Val} [g : GoodE enc] {env : β → Val}
theorem dget_eq (a : α) (P : List (α × β)) : dget (enc a) (P.map fun q => enc q.1) (P.map fun q => env q.2) = (dlook a P).map env := by
  induction P with
  | nil => rfl
  | cons q P ih =>
    simp only [List.map_cons, dget, ge_veq, dlook, ih]
    by_cases h : q.1 = a <;> simp [h]
theorem dhas_eq (a : α) (P : List (α × β)) : dhas (enc a) (P.map fun q => enc q.1) = decide (a ∈ P.map Prod.fst) := by
  have := ge_any (enc := enc) a (P.map Prod.fst)
  rw [List.map_map] at this
  exact this
theorem drepl_eq (a : α) (v : β) (P : List (α × β)) : drepl (enc a) (env v) (P.map fun q => enc q.1) (P.map fun q => env q.2) = (P.map fun q => if q.1 = a then (q.1, v) else q).map fun q => env q.2 := by
  induction P with
  | nil => rfl
  | cons q P ih =>
    simp only [List.map_cons, drepl, ge_veq, ih]
    by_cases h : q.1 = a <;> simp [h]
/-- a dict's object -/
def dob (t : Bool) (enc : α → Val) (env : β → Val) (P : List (α × β)) : Ob := .dct t (P.map fun q => enc q.1) (P.map fun q => env q.2)
/-- a dict that is told out -/
def dval (t : Bool) (enc : α → Val) (env : β → Val) (P : List (α × β)) : Val := .dct t (P.map fun q => enc q.1) (P.map fun q => env q.2)
theorem setIx_dob {t : Bool} {l : Nat} {h : LH} {P : List (α × β)} (a : α) (v : β) (hl : h[l]? = some (dob t enc env P)) (hn : P.length < SL) (hk : keyOf t (enc a) = true) : setIx (.ref l) (enc a) (env v) h = .ok () (h.set l (dob t enc env (dput a v P))) := by
  simp only [setIx, hl, dob, List.length_map, hn, hk, dhas_eq, drepl_eq, decide_eq_true_eq, and_self, if_true]
  unfold dput
  by_cases e : a ∈ P.map Prod.fst
  · rw [if_pos e, if_pos e]
    congr 3
    rw [List.map_map]
    apply List.map_congr_left
    intro q _
    simp only [Function.comp]
    split <;> rfl
  · rw [if_neg e, if_neg e, List.map_append, List.map_append]
    rfl
theorem getIx_dval {t : Bool} {h : LH} {P : List (α × β)} {a : α} {v : β} (hk : keyOf t (enc a) = true) (e : dlook a P = some v) : getIx (dval t enc env P) (enc a) h = some (env v) := by
  rw [dval, getIx_dct, if_pos hk, dget_eq, e]; rfl
end
@[simp] theorem keyOf_e3 (p : Nat × Nat × Nat) : keyOf true (e3 p) = true := rfl
@[simp] theorem keyOf_e2 (p : Nat × Nat) : keyOf true (e2 p) = true := rfl
@[simp] theorem keyOf_int (p : Int) : keyOf false (.int p) = true := rfl
/-! ### slices -/
theorem sIx_nat (n d k : Nat) : sIx n d (some (k : Int)) = min k n := by
  unfold sIx
  have : ¬ (k : Int) < 0 := by omega
  simp [this]
@[simp] theorem cut_take {α : Type} (xs : List α) (k : Nat) : cutL xs none (some (k : Int)) = xs.take k := by
  unfold cutL
  rw [sIx_nat]
  simp only [sIx, List.drop_zero, Nat.sub_zero]
  by_cases h : k ≤ xs.length
  · rw [Nat.min_eq_left h]
  · rw [Nat.min_eq_right (by omega), List.take_of_length_le (by omega), List.take_of_length_le (by omega)]
@[simp] theorem cut_drop {α : Type} (xs : List α) (k : Nat) : cutL xs (some (k : Int)) none = xs.drop k := by
  unfold cutL
  rw [sIx_nat]
  simp only [sIx]
  by_cases h : k ≤ xs.length
  · rw [Nat.min_eq_left h, List.take_of_length_le (by simp)]
  · rw [Nat.min_eq_right (by omega), List.drop_of_length_le (by omega), List.drop_of_length_le (by omega)]; simp
@[simp] theorem cut_drop_add {α : Type} (xs : List α) (k j : Nat) : cutL xs (some ((k : Int) + (no_index (@OfNat.ofNat Int j instOfNat)))) none = xs.drop (k + j) := cut_drop xs (k + j)
theorem cut_both {α : Type} (xs : List α) (j k : Nat) : cutL xs (some (j : Int)) (some (k : Int)) = (xs.drop j).take (k - j) := by
  unfold cutL
  rw [sIx_nat, sIx_nat]
  by_cases h : j ≤ xs.length
  · rw [Nat.min_eq_left h]
    by_cases h2 : k ≤ xs.length
    · rw [Nat.min_eq_left h2]
    · rw [Nat.min_eq_right (by omega), List.take_of_length_le (by simp), List.take_of_length_le (by simp; omega)]
  · rw [Nat.min_eq_right (by omega : xs.length ≤ j), List.drop_of_length_le (Nat.le_refl _), List.drop_of_length_le (by omega)]; simp
/-! ### what is told of threes -/
abbrev TP := List ((Nat × Nat × Nat) × Int)
def tob (P : TP) : Ob := dob true e3 eZ P
def tdv (P : TP) : Val := dval true e3 eZ P
theorem tob_nil : Ob.dct true [] [] = tob [] := rfl
theorem set_tob0 {P : TP} {hs : LH} {x y z : Nat} {v : Int} (hP : P.length < SL) : setIx (.ref 0) (.tup [eN x, eN y, eN z]) (eZ v) (tob P :: hs) = .ok () (tob (dput (x, y, z) v P) :: hs) :=
  setIx_dob (l := 0) (h := tob P :: hs) (enc := e3) (env := eZ) (x, y, z) v rfl hP rfl
theorem get_tdv {P : TP} {h : LH} {x y z : Nat} {v : Int} (e : dlook (x, y, z) P = some v) : getIx (tdv P) (.tup [eN x, eN y, eN z]) h = some (eZ v) := getIx_dval (enc := e3) (env := eZ) (a := (x, y, z)) rfl e
theorem get_tob0 {P : TP} {hs : LH} {x y z : Nat} {v : Int} (e : dlook (x, y, z) P = some v) : getIx (.ref 0) (.tup [eN x, eN y, eN z]) (tob P :: hs) = some (eZ v) := get_tdv (P := P) (h := []) e
@[simp] theorem noRef_tdv (P : TP) : noRef (tdv P) = true := by simp [tdv, dval]
@[simp] theorem freeze_tob0 {P : TP} {hs : LH} : freeze (.ref 0) (tob P :: hs) = .ok (tdv P) (.dead :: hs) := by
  simp [freeze, tob, dob, tdv, dval]
theorem dput_lt {α β : Type} [DecidableEq α] {a : α} {v : β} {P : List (α × β)} {N : Nat} (h : P.length + 1 < N) : (dput a v P).length < N := Nat.lt_of_le_of_lt (dput_len a v P) h
theorem dput_lt' {α β : Type} [DecidableEq α] {a : α} {v : β} {P : List (α × β)} {k N : Nat} (h : P.length + (k + 1) < N) : (dput a v P).length + k < N := by
  have := dput_len a v P
  omega
/-- room for six more -/
theorem room6 {n : Nat} (h : n < 16777000) : n < 16777216 ∧ n + 1 < 16777216 ∧ n + 2 < 16777216 ∧ n + 3 < 16777216 ∧ n + 4 < 16777216 ∧ n + 5 < 16777216 ∧ n + 6 < 16777216 := by omega
def put6 (x y z : Nat) (v : Int) (P : TP) : TP := dput (z, y, x) (0 - v) (dput (x, z, y) (0 - v) (dput (y, x, z) (0 - v) (dput (z, x, y) v (dput (y, z, x) v (dput (x, y, z) v P)))))
theorem put6_len (x y z : Nat) (v : Int) (P : TP) : (put6 x y z v P).length ≤ P.length + 6 := by
  unfold put6
  have := dput_len (x, y, z) v P
  have := dput_len (y, z, x) v (dput (x, y, z) v P)
  have := dput_len (z, x, y) v (dput (y, z, x) v (dput (x, y, z) v P))
  have := dput_len (y, x, z) (0 - v) (dput (z, x, y) v (dput (y, z, x) v (dput (x, y, z) v P)))
  have := dput_len (x, z, y) (0 - v) (dput (y, x, z) (0 - v) (dput (z, x, y) v (dput (y, z, x) v (dput (x, y, z) v P))))
  have := dput_len (z, y, x) (0 - v) (dput (x, z, y) (0 - v) (dput (y, x, z) (0 - v) (dput (z, x, y) v (dput (y, z, x) v (dput (x, y, z) v P)))))
  omega
theorem put6_keys {x y z : Nat} {v : Int} {P : TP} {q : Nat × Nat × Nat} (h : q ∈ (put6 x y z v P).map Prod.fst) : q = (x, y, z) ∨ q = (y, z, x) ∨ q = (z, x, y) ∨ q = (y, x, z) ∨ q = (x, z, y) ∨ q = (z, y, x) ∨ q ∈ P.map Prod.fst := by
  unfold put6 at h
  rcases dput_keys h with h | h
  · simp [h]
  rcases dput_keys h with h | h
  · simp [h]
  rcases dput_keys h with h | h
  · simp [h]
  rcases dput_keys h with h | h
  · simp [h]
  rcases dput_keys h with h | h
  · simp [h]
  rcases dput_keys h with h | h
  · simp [h]
  · simp [h]
namespace L
theorem nth_inj {O : List Nat} (hd : O.Nodup) {i j : Nat} (hi : i < O.length) (hj : j < O.length) : (nth O i = nth O j) = (i = j) := by
  simp only [eq_iff_iff]
  constructor
  · intro e
    apply Classical.byContradiction
    intro h
    exact nth_ne hd hi hj h e
  · rintro rfl; rfl
/-- what six entries of a three tell, by places -/
theorem put6_look {O : List Nat} (hd : O.Nodup) {i j k a b c : Nat} {v : Int} {P : TP} (h1 : i < j) (h2 : j < k) (h3 : k < O.length) (ha : a < O.length) (hb : b < O.length) (hc : c < O.length) (n1 : a ≠ b) (n2 : a ≠ c) (n3 : b ≠ c) :
    dlook (nth O a, nth O b, nth O c) (put6 (nth O i) (nth O j) (nth O k) v P) = if sort3 a b c = (i, j, k) then some (sg3 a b c * v) else dlook (nth O a, nth O b, nth O c) P := by
  have hi : i < O.length := by omega
  have hj : j < O.length := by omega
  simp only [put6, dlook_dput, Prod.mk.injEq, nth_inj hd hi ha, nth_inj hd hi hb, nth_inj hd hi hc, nth_inj hd hj ha, nth_inj hd hj hb, nth_inj hd hj hc, nth_inj hd h3 ha, nth_inj hd h3 hb, nth_inj hd h3 hc]
  unfold sort3 sg3
  by_cases x : a < b <;> by_cases y : b < c <;> by_cases z : a < c <;> (try (exfalso; omega))
  · have e1 : ¬ b < a := by omega
    have e2 : ¬ c < a := by omega
    have e3 : ¬ c < b := by omega
    simp only [x, y, e1, e2, e3, if_true, if_false, Prod.mk.injEq]
    (repeat' split) <;> first | (exfalso; omega) | rfl | (simp; done) | skip
  · have e1 : ¬ b < a := by omega
    have e2 : ¬ c < a := by omega
    have e3 : c < b := by omega
    simp only [x, y, z, e1, e2, e3, if_true, if_false, Prod.mk.injEq]
    (repeat' split) <;> first | (exfalso; omega) | rfl | (simp; done) | skip
  · have e1 : ¬ b < a := by omega
    have e2 : c < a := by omega
    have e3 : c < b := by omega
    simp only [x, y, z, e1, e2, e3, if_true, if_false, Prod.mk.injEq]
    (repeat' split) <;> first | (exfalso; omega) | rfl | (simp; done) | skip
  · have e1 : b < a := by omega
    have e2 : ¬ c < a := by omega
    have e3 : ¬ c < b := by omega
    simp only [x, y, z, e1, e2, e3, if_true, if_false, Prod.mk.injEq]
    (repeat' split) <;> first | (exfalso; omega) | rfl | (simp; done) | skip
  · have e1 : b < a := by omega
    have e2 : c < a := by omega
    have e3 : ¬ c < b := by omega
    simp only [x, y, z, e1, e2, e3, if_true, if_false, Prod.mk.injEq]
    (repeat' split) <;> first | (exfalso; omega) | rfl | (simp; done) | skip
  · have e1 : b < a := by omega
    have e2 : c < a := by omega
    have e3 : c < b := by omega
    simp only [x, y, z, e1, e2, e3, if_true, if_false, Prod.mk.injEq]
    (repeat' split) <;> first | (exfalso; omega) | rfl | (simp; done) | skip
end L
end PI

/-! Sweeps, by places: what is so of every row that neighbours' exchanges make. -/
namespace PI
namespace L
/-- a row of places, and the exchanges that made it of the rising one -/
structure SW (n : Nat) (row : List Nat) (st : List (Nat × Nat)) : Prop where
  perm : row.Perm (List.range n)
  nd : st.Nodup
  mem : ∀ i j, (i, j) ∈ st ↔ i < j ∧ j < n ∧ row.idxOf j < row.idxOf i
  ord : ∀ i j k, i < j → j < k → k < n → (st.idxOf (i, j) ≤ st.idxOf (i, k) ∧ st.idxOf (i, k) ≤ st.idxOf (j, k)) ∨ (st.idxOf (j, k) ≤ st.idxOf (i, k) ∧ st.idxOf (i, k) ≤ st.idxOf (i, j))
theorem idxOf_range {n i : Nat} (h : i < n) : (List.range n).idxOf i = i := by
  have := List.Nodup.idxOf_getElem (List.nodup_range (n := n)) i (by simpa using h)
  simpa using this
theorem SW.init (n : Nat) : SW n (List.range n) [] := by
  refine ⟨.refl _, List.nodup_nil, fun i j => ?_, fun i j k _ _ _ => by simp⟩
  simp only [List.not_mem_nil, false_iff]
  rintro ⟨h1, h2, h3⟩
  rw [idxOf_range h2, idxOf_range (by omega)] at h3
  omega
theorem idx_uv {A B : List Nat} {u v : Nat} (hu : u ∉ A) (hv : v ∉ A) (x : Nat) : (A ++ u :: v :: B).idxOf x = if x ∈ A then A.idxOf x else if x = u then A.length else if x = v then A.length + 1 else A.length + 2 + B.idxOf x := by
  rw [List.idxOf_append]
  by_cases h : x ∈ A
  · simp [h]
  · simp only [h, if_false, List.idxOf_cons]
    by_cases h1 : x = u
    · subst h1; simp
    · have e1 : (u == x) = false := by simpa using fun z => h1 z.symm
      by_cases h2 : x = v
      · subst h2; simp [h1, e1]; omega
      · have e2 : (v == x) = false := by simpa using fun z => h2 z.symm
        simp [h1, h2, e1, e2]; omega
theorem SW.step_aux {n : Nat} {A B : List Nat} {u v : Nat} {st : List (Nat × Nat)} (s : SW n (A ++ u :: v :: B) st) (h : u < v) :
    (A ++ u :: v :: B).idxOf u = A.length ∧ (A ++ u :: v :: B).idxOf v = A.length + 1 ∧ (A ++ v :: u :: B).idxOf u = A.length + 1 ∧ (A ++ v :: u :: B).idxOf v = A.length ∧
    (∀ w, w ≠ u → w ≠ v → (A ++ v :: u :: B).idxOf w = (A ++ u :: v :: B).idxOf w ∧ ((A ++ u :: v :: B).idxOf w < A.length ∨ A.length + 1 < (A ++ u :: v :: B).idxOf w)) ∧ (u, v) ∉ st := by
  have nd : (A ++ u :: v :: B).Nodup := s.perm.nodup_iff.mpr List.nodup_range
  have hu : u ∉ A := by
    rw [List.nodup_append] at nd
    exact fun z => nd.2.2 u z u (by simp) rfl
  have hv : v ∉ A := by
    rw [List.nodup_append] at nd
    exact fun z => nd.2.2 v z v (by simp) rfl
  have p := idx_uv (B := B) hu hv
  have p' := idx_uv (B := B) hv hu
  have hvn : v < n := by simpa using s.perm.mem_iff.mp (show v ∈ A ++ u :: v :: B by simp)
  have hA : ∀ x, x ∈ A → A.idxOf x < A.length := fun x hx => List.idxOf_lt_length_iff.mpr hx
  have pu : (A ++ u :: v :: B).idxOf u = A.length := by rw [p]; simp [hu]
  have pv : (A ++ u :: v :: B).idxOf v = A.length + 1 := by rw [p]; simp [hv, show ¬ v = u by omega]
  have pu' : (A ++ v :: u :: B).idxOf u = A.length + 1 := by rw [p']; simp [hu, show ¬ u = v by omega]
  have pv' : (A ++ v :: u :: B).idxOf v = A.length := by rw [p']; simp [hv]
  have po : ∀ w, w ≠ u → w ≠ v → (A ++ v :: u :: B).idxOf w = (A ++ u :: v :: B).idxOf w ∧ ((A ++ u :: v :: B).idxOf w < A.length ∨ A.length + 1 < (A ++ u :: v :: B).idxOf w) := fun w h1 h2 => by
    rw [p, p']
    by_cases hw : w ∈ A
    · have := hA w hw
      simp [hw]; omega
    · simp [hw, h1, h2]; omega
  have new : (u, v) ∉ st := fun z => by
    have := ((s.mem u v).mp z).2.2
    omega
  exact ⟨pu, pv, pu', pv', po, new⟩
theorem SW.step {n : Nat} {A B : List Nat} {u v : Nat} {st : List (Nat × Nat)} (s : SW n (A ++ u :: v :: B) st) (h : u < v) : SW n (A ++ v :: u :: B) (st ++ [(u, v)]) := by
  obtain ⟨pu, pv, pu', pv', po, new⟩ := s.step_aux h
  have hvn : v < n := by simpa using s.perm.mem_iff.mp (show v ∈ A ++ u :: v :: B by simp)
  refine ⟨?_, ?_, fun i j => ?_, fun i j k hij hjk hk => ?_⟩
  · refine .trans ?_ s.perm
    exact (List.Perm.swap u v B).append_left A
  · rw [List.nodup_append]
    refine ⟨s.nd, by simp, fun a ha b hb e => ?_⟩
    rw [List.mem_singleton] at hb
    subst hb; subst e; exact new ha
  · rw [List.mem_append, s.mem, List.mem_singleton, Prod.mk.injEq]
    by_cases a1 : i = u <;> by_cases a2 : i = v <;> by_cases b1 : j = u <;> by_cases b2 : j = v
    all_goals (try (have q1 := po i a1 a2))
    all_goals (try (have q2 := po j b1 b2))
    all_goals (first | subst a1 | skip)
    all_goals (first | subst a2 | skip)
    all_goals (first | subst b1 | skip)
    all_goals (first | subst b2 | skip)
    all_goals (try omega)
  · have m1 := s.mem i j
    have m2 := s.mem i k
    have m3 := s.mem j k
    have o := s.ord i j k hij hjk hk
    have key : ∀ x y, (st ++ [(u, v)]).idxOf (x, y) = if (x, y) ∈ st then st.idxOf (x, y) else if x = u ∧ y = v then st.length else st.length + 1 := by
      intro x y
      rw [List.idxOf_append]
      by_cases hx : (x, y) ∈ st
      · simp [hx]
      · simp only [hx, if_false, List.idxOf_cons, List.idxOf_nil]
        by_cases e : x = u ∧ y = v
        · obtain ⟨rfl, rfl⟩ := e; simp
        · have : ((u, v) == (x, y)) = false := by
            simp only [beq_eq_false_iff_ne, ne_eq, Prod.mk.injEq]
            exact fun z => e ⟨z.1.symm, z.2.symm⟩
          simp [this, e]; omega
    have lt : ∀ q, q ∈ st → st.idxOf q < st.length := fun q hq => List.idxOf_lt_length_iff.mpr hq
    have ge : ∀ q, q ∉ st → st.idxOf q = st.length := fun q hq => List.idxOf_eq_length hq
    rw [key, key, key]
    have l1 := lt (i, j)
    have l2 := lt (i, k)
    have l3 := lt (j, k)
    have g1 := ge (i, j)
    have g2 := ge (i, k)
    have g3 := ge (j, k)
    have qi := po i
    have qj := po j
    have qk := po k
    generalize st.idxOf (i, j) = tij at *
    generalize st.idxOf (i, k) = tik at *
    generalize st.idxOf (j, k) = tjk at *
    clear key lt ge po s
    by_cases e1 : i = u ∧ j = v
    · obtain ⟨rfl, rfl⟩ := e1
      by_cases x1 : (i, j) ∈ st <;> by_cases x2 : (i, k) ∈ st <;> by_cases x3 : (j, k) ∈ st <;> simp only [x1, x2, x3, if_true, if_false, true_iff, false_iff, true_imp_iff, not_true, not_false_iff] at * <;> (try (repeat' split)) <;> omega
    · by_cases e2 : i = u ∧ k = v
      · obtain ⟨rfl, rfl⟩ := e2
        by_cases x1 : (i, j) ∈ st <;> by_cases x2 : (i, k) ∈ st <;> by_cases x3 : (j, k) ∈ st <;> simp only [x1, x2, x3, if_true, if_false, true_iff, false_iff, true_imp_iff, not_true, not_false_iff] at * <;> (try (repeat' split)) <;> omega
      · by_cases e3 : j = u ∧ k = v
        · obtain ⟨rfl, rfl⟩ := e3
          by_cases x1 : (i, j) ∈ st <;> by_cases x2 : (i, k) ∈ st <;> by_cases x3 : (j, k) ∈ st <;> simp only [x1, x2, x3, if_true, if_false, true_iff, false_iff, true_imp_iff, not_true, not_false_iff] at * <;> (try (repeat' split)) <;> omega
        · simp only [e1, e2, e3, if_false]
          by_cases x1 : (i, j) ∈ st <;> by_cases x2 : (i, k) ∈ st <;> by_cases x3 : (j, k) ∈ st <;> simp only [x1, x2, x3, if_true, if_false, true_imp_iff, not_true, not_false_iff] at * <;> omega
/-- no more of unlike things than there are -/
theorem nodup_le {α : Type} [DecidableEq α] : ∀ {l L : List α}, l.Nodup → (∀ x ∈ l, x ∈ L) → l.length ≤ L.length
  | [], L, _, _ => Nat.zero_le _
  | x :: l, L, hd, hs => by
    have hx : x ∈ L := hs x (by simp)
    have h1 : ∀ y ∈ l, y ∈ L.erase x := fun y hy => (List.mem_erase_of_ne (fun e => by subst e; exact (List.nodup_cons.mp hd).1 hy)).mpr (hs y (by simp [hy]))
    have := nodup_le (List.nodup_cons.mp hd).2 h1
    rw [List.length_erase_of_mem hx] at this
    have := List.length_pos_of_mem hx
    simp only [List.length_cons]; omega
theorem nodup_all {α : Type} [DecidableEq α] {l L : List α} (hd : l.Nodup) (hs : ∀ x ∈ l, x ∈ L) (hn : L.length ≤ l.length) : ∀ x ∈ L, x ∈ l := by
  intro x hx
  apply Classical.byContradiction
  intro h
  have h1 : ∀ y ∈ l, y ∈ L.erase x := fun y hy => (List.mem_erase_of_ne (fun e => by subst e; exact h hy)).mpr (hs y hy)
  have := nodup_le hd h1
  rw [List.length_erase_of_mem hx] at this
  have := List.length_pos_of_mem hx
  omega
theorem pairs_nodup_k : (List.range 11).all (fun n => decide (pairs n).Nodup && decide ((pairs n).length ≤ 45)) = true := by decide +kernel
theorem pairs_nodup {n : Nat} (h : n ≤ 10) : (pairs n).Nodup ∧ (pairs n).length ≤ 45 := by
  have := of_k (n := n) pairs_nodup_k (by omega)
  simpa using this
theorem SW.sub {n : Nat} {row : List Nat} {st : List (Nat × Nat)} (s : SW n row st) : ∀ p ∈ st, p ∈ pairs n := fun p hp => by
  have := (s.mem p.1 p.2).mp hp
  exact mem_pairs.mpr ⟨this.1, this.2.1⟩
/-- behind all exchanges each pair has been exchanged -/
theorem SW.all {n : Nat} {row : List Nat} {st : List (Nat × Nat)} (s : SW n row st) (hl : (pairs n).length ≤ st.length) {i j : Nat} (h1 : i < j) (h2 : j < n) : (i, j) ∈ st := nodup_all s.nd s.sub hl _ (mem_pairs.mpr ⟨h1, h2⟩)
theorem SW.len {n : Nat} {row : List Nat} {st : List (Nat × Nat)} (s : SW n row st) : row.length = n := by
  have := s.perm.length_eq; simpa using this
theorem SW.nodup {n : Nat} {row : List Nat} {st : List (Nat × Nat)} (s : SW n row st) : row.Nodup := s.perm.nodup_iff.mpr List.nodup_range
/-- as long as some are left, two neighbours can be exchanged -/
theorem SW.more {n : Nat} {row : List Nat} {st : List (Nat × Nat)} (s : SW n row st) (hn : n ≤ 10) (hl : st.length < (pairs n).length) : ∃ k, k + 1 < n ∧ nth row k < nth row (k + 1) := by
  apply Classical.byContradiction
  intro hno
  have hd : ∀ k, k + 1 < n → nth row (k + 1) < nth row k := fun k hk => by
    have h1 : ¬ nth row k < nth row (k + 1) := fun z => hno ⟨k, hk, z⟩
    have h2 := nth_ne (i := k) (j := k + 1) s.nodup (by rw [s.len]; omega) (by rw [s.len]; omega) (by omega)
    omega
  have hd2 : ∀ m k, k + m + 1 < n → nth row (k + m + 1) < nth row k := by
    intro m
    induction m with
    | zero => exact hd
    | succ m ih => intro k hk; have := ih k (by omega); have := hd (k + m + 1) (by omega); rw [show k + (m + 1) + 1 = k + m + 1 + 1 by omega]; omega
  have : ∀ p ∈ pairs n, p ∈ st := by
    rintro ⟨i, j⟩ hp
    obtain ⟨h1, h2⟩ := mem_pairs.mp hp
    have mi : i ∈ row := s.perm.mem_iff.mpr (by simp; omega)
    have mj : j ∈ row := s.perm.mem_iff.mpr (by simp; omega)
    refine (s.mem i j).mpr ⟨h1, h2, ?_⟩
    have ai : nth row (row.idxOf i) = i := by rw [← nth_get (List.idxOf_lt_length_iff.mpr mi)]; simp
    have aj : nth row (row.idxOf j) = j := by rw [← nth_get (List.idxOf_lt_length_iff.mpr mj)]; simp
    have li := List.idxOf_lt_length_iff.mpr mi
    have lj := List.idxOf_lt_length_iff.mpr mj
    rw [s.len] at li lj
    apply Classical.byContradiction
    intro hx
    have hne : row.idxOf i ≠ row.idxOf j := fun z => by rw [z] at ai; omega
    have := hd2 (row.idxOf j - row.idxOf i - 1) (row.idxOf i) (by omega)
    rw [show row.idxOf i + (row.idxOf j - row.idxOf i - 1) + 1 = row.idxOf j by omega] at this
    omega
  have := nodup_le (pairs_nodup hn).1 this
  omega
/-- one exchange, at a place -/
theorem SW.at_ {n : Nat} {row : List Nat} {st : List (Nat × Nat)} (s : SW n row st) {k : Nat} (hk : k + 1 < n) (h : nth row k < nth row (k + 1)) :
    SW n (row.take k ++ [nth row (k + 1), nth row k] ++ row.drop (k + 2)) (st ++ [(nth row k, nth row (k + 1))]) := by
  have l := s.len
  have e : row = row.take k ++ nth row k :: nth row (k + 1) :: row.drop (k + 2) := by
    have h1 : row.drop k = row[k] :: row.drop (k + 1) := List.drop_eq_getElem_cons (by omega)
    have h2 : row.drop (k + 1) = row[k + 1] :: row.drop (k + 2) := List.drop_eq_getElem_cons (by omega)
    rw [← nth_get (by omega), ← nth_get (by omega), ← h2, ← h1, List.take_append_drop]
  have s' : SW n (row.take k ++ nth row k :: nth row (k + 1) :: row.drop (k + 2)) st := e ▸ s
  have := s'.step h
  simpa using this
/-- the three exchanges of three things -/
theorem SW.three {n : Nat} {row : List Nat} {st : List (Nat × Nat)} (s : SW n row st) (hl : (pairs n).length ≤ st.length) {i j k : Nat} (h1 : i < j) (h2 : j < k) (h3 : k < n) :
    (st.idxOf (i, j) < st.idxOf (i, k) ∧ st.idxOf (i, k) < st.idxOf (j, k)) ∨ (st.idxOf (j, k) < st.idxOf (i, k) ∧ st.idxOf (i, k) < st.idxOf (i, j)) := by
  have o := s.ord i j k h1 h2 h3
  have inj : ∀ p q, p ∈ st → q ∈ st → p ≠ q → st.idxOf p ≠ st.idxOf q := fun p q hp hq hne z => by
    have a := List.getElem_idxOf (List.idxOf_lt_length_iff.mpr hp)
    have b := List.getElem_idxOf (List.idxOf_lt_length_iff.mpr hq)
    exact hne (by rw [← a, ← b]; simp only [z])
  have mij := s.all hl h1 (by omega)
  have mik := s.all hl (i := i) (j := k) (by omega) h3
  have mjk := s.all hl h2 h3
  have a1 := inj _ _ mij mik (by simp; omega)
  have a2 := inj _ _ mik mjk (by simp; omega)
  omega
/-- the side of three places by their exchanges -/
def sgS (st : List (Nat × Nat)) (i j k : Nat) : Int := if st.idxOf (i, j) < st.idxOf (j, k) then 1 else -1
/-- a way to give each rising three of places a side, by which of each four the sides change at most once -/
def Mono (n : Nat) (g : Nat → Nat → Nat → Int) : Prop := (∀ i j k, i < j → j < k → k < n → g i j k = 1 ∨ g i j k = -1) ∧ ∀ i j k l, i < j → j < k → k < l → l < n →
  (g i j k ≥ g i j l ∧ g i j l ≥ g i k l ∧ g i k l ≥ g j k l) ∨ (g i j k ≤ g i j l ∧ g i j l ≤ g i k l ∧ g i k l ≤ g j k l)
theorem SW.mono {n : Nat} {row : List Nat} {st : List (Nat × Nat)} (s : SW n row st) (hl : (pairs n).length ≤ st.length) : Mono n (sgS st) := by
  refine ⟨fun i j k _ _ _ => by unfold sgS; split <;> simp, fun i j k l h1 h2 h3 h4 => ?_⟩
  have a := s.three hl h1 h2 (by omega)
  have b := s.three hl (i := i) (j := j) (k := l) (by omega) (by omega) (by omega)
  have c := s.three hl (i := i) (j := k) (k := l) (by omega) (by omega) (by omega)
  have d := s.three hl (i := j) (j := k) (k := l) (by omega) (by omega) (by omega)
  unfold sgS
  by_cases x1 : st.idxOf (i, j) < st.idxOf (j, k) <;> by_cases x2 : st.idxOf (i, j) < st.idxOf (j, l) <;> by_cases x3 : st.idxOf (i, k) < st.idxOf (k, l) <;> by_cases x4 : st.idxOf (j, k) < st.idxOf (k, l) <;> simp only [x1, x2, x3, x4, if_true, if_false] <;> omega
end L
end PI

/-! The laws' own tables: sweeps, what is read off them. -/
namespace PI
namespace L
/-- a drawn sweep, as a value -/
def swV (O : List Nat) (st : List (Nat × Nat)) : Val := .tup [.ftup (O.map eN), .ftup ((st.map fun p => (nth O p.1, nth O p.2)).map e2)]
theorem npairs {n : Nat} (h1 : 1 ≤ n) (h : n ≤ 10) : (n : Int) * ((n : Int) - 1) / 2 = ((pairs n).length : Int) := by
  have : ∀ m : Nat, m < 11 → 1 ≤ m → ((m : Nat) : Int) * ((m : Int) - 1) / 2 = ((pairs m).length : Int) := by decide +kernel
  exact this n (by omega) h1
theorem idx_nth {O : List Nat} (hd : O.Nodup) {i : Nat} (h : i < O.length) : O.idxOf (nth O i) = i := by
  rw [← nth_get h]; exact List.Nodup.idxOf_getElem hd i h
theorem nth_range {n i : Nat} (h : i < n) : nth (List.range n) i = i := by
  rw [← nth_get (by simpa using h)]; simp
theorem sweep_c {n k l m : Nat} {b : Bag} {h : LH} (hn : 3 ≤ n) (hb : h[l]? = some (bagO b)) (ok : BagOK k b) (hk : k ≤ 800000000) (hm : 3 ≤ m) (hm' : m ≤ 9) :
    ∃ (O row : List Nat) (st : List (Nat × Nat)) (b' : Bag), O.Perm (List.range m) ∧ SW m row st ∧ st.length = (pairs m).length ∧ BagOK (k + 60) b' ∧ callIn (Cn n) i_law_sweep [.ref l, eN m] h = .ok (swV O st) (h.set l (bagO b')) := by
  obtain ⟨n, rfl⟩ := Nat.exists_eq_add_of_le' hn
  have key : ∃ (O row : List Nat) (st : List (Nat × Nat)) (b' : Bag), O.Perm (List.range m) ∧ SW m row st ∧ st.length = (pairs m).length ∧ BagOK (k + 60) b' ∧ Cn (n + 3) i_law_sweep [.ref 0, eN m] [bagO b] = .ok (swV O st) [bagO b'] := by
    rw [show n + 3 = n + 2 + 1 from rfl, Cn_eq d_law_sweep rfl rfl]
    generalize hr : fin _ _ = rr
    have hsl : m ≤ SL := by simp only [SL]; omega
    obtain ⟨O, b1, q1, q2, q3⟩ := shuf_c (enc := eN) (n := n + 2) (l := 0) (h := [bagO b]) (xs := List.range m) (v := .lst ((List.range m).map eN)) (.inl rfl) (by omega) rfl ok (by omega) (by simp; omega)
    have hO : O.length = m := by have := q1.length_eq; simpa using this
    have hd : O.Nodup := q1.nodup_iff.mpr List.nodup_range
    have hpl := (pairs_nodup (n := m) (by omega)).2
    have hmul : mulOk (m : Int) ((m : Int) - 1) = true := mulOk_sm (by omega)
    simp -implicitDefEqProofs (maxDischargeDepth := 12) [SL, ev.asgN, wipe, getIx_tup, getIx_lst, getIx_ftup, getIx_ref, fin_rt0, fin_nx0, Function.comp_def, Nat.max_le, -Prod.exists, -Prod.forall, d_law_sweep, rangeOk_0 m hsl, rangeV_0, hsl, q3, hO, hmul, npairs (n := m) (by omega) (by omega), rangeOk_0 (pairs m).length (show _ ≤ SL by simp only [SL]; omega)] at hr
    generalize hw : forGo _ _ _ _ _ = rs at hr
    have hnO : ∀ i, i < m → nth O i ∈ O := fun i hi => nth_mem (by omega)
    obtain ⟨σ', h', rfl, row, st, b2, o5, o6, o7, i1, i2, i3, rfl, rfl⟩ : ∃ σ' h', rs = .nx σ' h' ∧ ∃ (row : List Nat) (st : List (Nat × Nat)) (b' : Bag) (o5 o6 o7 : Option Val), SW m row st ∧ st.length = (List.range (pairs m).length).length ∧ BagOK (k + m + (List.range (pairs m).length).length) b' ∧
        σ' = [some (.ref 0), some (eN m), some (.lst (O.map eN)), some (.lst ((row.map (nth O)).map eN)), some (.ref 1), o5, o6, o7, none] ∧ h' = [bagO b', .lst ((st.map fun p => (nth O p.1, nth O p.2)).map e2)] := by
      rw [← hw]
      refine for_inv (enc := eN) (fun p σ' h' => ∃ (row : List Nat) (st : List (Nat × Nat)) (b' : Bag) (o5 o6 o7 : Option Val), SW m row st ∧ st.length = p.length ∧ BagOK (k + m + p.length) b' ∧
        σ' = [some (.ref 0), some (eN m), some (.lst (O.map eN)), some (.lst ((row.map (nth O)).map eN)), some (.ref 1), o5, o6, o7, none] ∧ h' = [bagO b', .lst ((st.map fun p => (nth O p.1, nth O p.2)).map e2)]) (List.range (pairs m).length)
        ⟨List.range m, [], b1, none, none, none, SW.init m, rfl, by simpa using q2, ?_, rfl⟩ (fun _ _ _ _ => rfl) ?_
      · have : (List.range m).map (nth O) = O := by
          apply List.ext_getElem (by simp [hO])
          intro i h1 h2
          simp [nth_get, nth_range (show i < m by simpa using h1)]
        rw [this]
      rintro p x s σ h' he ⟨row, st, b3, o5, o6, o7, j1, j2, j3, rfl, rfl⟩
      have hp : p.length < (pairs m).length := by
        have := congrArg List.length he
        simp only [List.length_append, List.length_cons, List.length_range] at this
        omega
      have hg : ∀ i, i < m → row[i]? = some (nth row i) := fun i hi => nth_get? (by rw [j1.len]; exact hi)
      have hlt : ∀ i, i < m → nth row i < m := fun i hi => by simpa using j1.perm.mem_iff.mp (nth_mem (by rw [j1.len]; exact hi))
      generalize hF : (List.range (m - 1)).filter (fun i => decide (nth row i < nth row (i + 1))) = F
      have hFm : ∀ i ∈ F, i + 1 < m ∧ nth row i < nth row (i + 1) := fun i hi => by
        rw [← hF, List.mem_filter, List.mem_range] at hi
        exact ⟨by omega, by simpa using hi.2⟩
      have hF0 : 0 < F.length := by
        obtain ⟨i, h1, h2⟩ := j1.more (by omega) (by omega)
        refine List.length_pos_of_mem (a := i) ?_
        rw [← hF, List.mem_filter, List.mem_range]
        exact ⟨by omega, by simpa using h2⟩
      have hF1 : F.length ≤ m := by
        rw [← hF]; exact Nat.le_trans (List.length_filter_le _ _) (by simp)
      obtain ⟨u, b4, u1, u2, u3⟩ := take_2 (n := n + 2) (m := F.length) (h := [.lst ((st.map fun p => (nth O p.1, nth O p.2)).map e2)]) (by omega) j3 (by omega) (by omega) (by omega)
      simp only [List.map_map, Function.comp_def] at u3
      have em : (m : Int) - 1 = ((m - 1 : Nat) : Int) := by omega
      obtain ⟨w1, w2⟩ := hFm (nth F u) (nth_mem u1)
      have hl := j1.len
      refine ⟨_, _, ?_, _, _, b4, some (eN x), some (.lst (F.map eN)), some (eN (nth F u)), j1.at_ w1 w2, by simp [j2], by simpa [Nat.add_assoc] using u2, rfl, rfl⟩
      simp -implicitDefEqProofs (maxDischargeDepth := 12) [SL, ev.asgN, wipe, getIx_tup, getIx_lst, getIx_ftup, getIx_ref, fin_rt0, fin_nx0, Function.comp_def, Nat.max_le, -Prod.exists, -Prod.forall, em, rangeOk_0 (m - 1) (show m - 1 ≤ SL by omega), rangeV_0, show m ≤ 16777216 + 1 by omega]
      rw [comp_filter (enc := eN) rfl (fun i => decide (nth row i < nth row (i + 1))) eN (List.range (m - 1))]
      · rw [hF]
        simp -implicitDefEqProofs (maxDischargeDepth := 12) [SL, ev.asgN, wipe, getIx_tup, getIx_lst, getIx_ftup, getIx_ref, fin_rt0, fin_nx0, Function.comp_def, Nat.max_le, -Prod.exists, -Prod.forall, u3, u1, nth_get, hl, w1, show F.length ≤ 16777216 by omega, show nth F u < m by omega, show st.length < 16777216 by omega]
        have c1 : min (nth F u) m + 2 ≤ 16777216 := by omega
        have c2 : min (nth F u) m + 2 + (m - (nth F u + 2)) ≤ 16777216 := by omega
        have c3 : min (nth F u) m + (m - (nth F u + 2) + 1 + 1) ≤ 16777216 := by omega
        simp -implicitDefEqProofs (maxDischargeDepth := 12) [SL, ev.asgN, wipe, getIx_tup, getIx_lst, getIx_ftup, getIx_ref, fin_rt0, fin_nx0, Function.comp_def, Nat.max_le, -Prod.exists, -Prod.forall, hl, c1, c2, c3, w1, nth_get, show nth F u < m by omega, show min (nth F u) m ≤ 16777216 by omega, show m ≤ 16777216 + (nth F u + 2) by omega]
        rfl
      · intro i hi
        rw [List.mem_range] at hi
        simp -implicitDefEqProofs (maxDischargeDepth := 12) [SL, ev.asgN, wipe, getIx_tup, getIx_lst, getIx_ftup, getIx_ref, fin_rt0, fin_nx0, Function.comp_def, Nat.max_le, -Prod.exists, -Prod.forall, nth_get, hl, show i < m by omega, show i + 1 < m by omega, idx_eN, hnO _ (hlt i (by omega)), hnO _ (hlt (i + 1) (by omega)), idx_nth hd (show nth row i < O.length by rw [hO]; exact hlt i (by omega)), idx_nth hd (show nth row (i + 1) < O.length by rw [hO]; exact hlt (i + 1) (by omega))]
        by_cases e : nth row i < nth row (i + 1) <;> simp -implicitDefEqProofs (maxDischargeDepth := 12) [SL, ev.asgN, wipe, getIx_tup, getIx_lst, getIx_ftup, getIx_ref, fin_rt0, fin_nx0, Function.comp_def, Nat.max_le, -Prod.exists, -Prod.forall, e]
    have hst : st.length = (pairs m).length := by simpa using i2
    refine ⟨O, row, st, b2, q1, i1, hst, i3.le (by simp; omega), ?_⟩
    rw [← hr]
    simp -implicitDefEqProofs (maxDischargeDepth := 12) [SL, ev.asgN, wipe, getIx_tup, getIx_lst, getIx_ftup, getIx_ref, fin_rt0, fin_nx0, Function.comp_def, Nat.max_le, -Prod.exists, -Prod.forall, fin_rt1, swV]
  obtain ⟨O, row, st, b', k1, k2, k3, k4, k5⟩ := key
  exact ⟨O, row, st, b', k1, k2, k3, k4, callIn_one hb (by simp) (by simp) (by simp) (by simp [swV]) k5⟩
end L
end PI

/-! What the laws tell of tables: all sides, by threes in any order. -/
namespace PI
namespace L
/-- a dict that tells the sides of all threes of unlike things below n, and of no others -/
structure Told (F : Nat → Nat → Nat → Int) (n : Nat) (P : TP) : Prop where
  look : ∀ a b c, a < n → b < n → c < n → a ≠ b → a ≠ c → b ≠ c → dlook (a, b, c) P = some (F a b c)
  keys : ∀ a b c, (a, b, c) ∈ P.map Prod.fst → a < n ∧ b < n ∧ c < n ∧ a ≠ b ∧ a ≠ c ∧ b ≠ c
theorem zipV_map {α β : Type} (f : α → Val) (g : β → Val) : ∀ (xs : List α) (ys : List β), zipV (xs.map f) (ys.map g) = (xs.zip ys).map fun q => .tup [f q.1, g q.2]
  | [], ys => by simp
  | x :: xs, [] => by simp
  | x :: xs, y :: ys => by simp [zipV_map f g xs ys]
theorem pl_at {n i : Nat} (hn : n ≤ 10) (h : i < (threes n).length) : pl n (threes n)[i] = i := by
  have := of_k (n := n) nodup_k (by omega)
  exact List.Nodup.idxOf_getElem (of_decide_eq_true this) i h
theorem sort3_mem {a b c n : Nat} (ha : a < n) (hb : b < n) (hc : c < n) (h1 : a ≠ b) (h2 : a ≠ c) (h3 : b ≠ c) : sort3 a b c ∈ threes n := by
  have := sort3_lt h1 h2 h3
  exact mem_threes.mpr ⟨this.1, this.2, sort3_mx ha hb hc⟩
theorem nth_id {n i : Nat} (h : i < n) : nth (List.range n) i = i := nth_range h
theorem sides_c {n : Nat} {t : Tb} {h : LH} (hw : TW t) (hn : 2 ≤ n) : ∃ P, Told (chi t) t.1 P ∧ callIn (Cn n) i_law_sides [tv t] h = .ok (tdv P) h := by
  have key : ∃ P, Told (chi t) t.1 P ∧ Cn 2 i_law_sides [tv t] [] = .ok (tdv P) [] := by
    rw [show 2 = 1 + 1 from rfl, Cn_eq d_law_sides rfl rfl]
    generalize hr : fin _ _ = rr
    have hh := hw.hi
    have hl := threes_len (n := t.1) (by omega)
    simp -implicitDefEqProofs (maxDischargeDepth := 12) [SL, ev.asgN, wipe, getIx_tup, getIx_lst, getIx_ftup, getIx_ref, fin_rt0, fin_nx0, Function.comp_def, Nat.max_le, -Prod.exists, -Prod.forall, d_law_sides, tv, eTZ, tob_nil, c_lthrees (m := t.1) (show t.1 ≤ 10 by omega), zipV_map] at hr
    generalize hw' : forGo _ _ _ _ _ = rs at hr
    obtain ⟨σ', h', rfl, P, o2, o3, o4, o5, o6, i1, i2, i3, rfl, rfl⟩ : ∃ σ' h', rs = .nx σ' h' ∧ ∃ (P : TP) (o2 o3 o4 o5 o6 : Option Val), P.length ≤ 6 * ((threes t.1).zip t.2).length ∧
        (∀ a b c, a < t.1 → b < t.1 → c < t.1 → a ≠ b → a ≠ c → b ≠ c → sort3 a b c ∈ ((threes t.1).zip t.2).map Prod.fst → dlook (a, b, c) P = some (chi t a b c)) ∧
        (∀ a b c, (a, b, c) ∈ P.map Prod.fst → a < t.1 ∧ b < t.1 ∧ c < t.1 ∧ a ≠ b ∧ a ≠ c ∧ b ≠ c) ∧ σ' = [some (tv t), some (.ref 0), o2, o3, o4, o5, o6] ∧ h' = [tob P] := by
      rw [← hw']
      refine for_inv (enc := fun q : (Nat × Nat × Nat) × Int => .tup [e3 q.1, eZ q.2]) (fun p σ' h' => ∃ (P : TP) (o2 o3 o4 o5 o6 : Option Val), P.length ≤ 6 * p.length ∧
        (∀ a b c, a < t.1 → b < t.1 → c < t.1 → a ≠ b → a ≠ c → b ≠ c → sort3 a b c ∈ p.map Prod.fst → dlook (a, b, c) P = some (chi t a b c)) ∧
        (∀ a b c, (a, b, c) ∈ P.map Prod.fst → a < t.1 ∧ b < t.1 ∧ c < t.1 ∧ a ≠ b ∧ a ≠ c ∧ b ≠ c) ∧ σ' = [some (tv t), some (.ref 0), o2, o3, o4, o5, o6] ∧ h' = [tob P]) ((threes t.1).zip t.2) ?_ ?_ ?_
      · exact ⟨[], none, none, none, none, none, by simp, by simp, by simp, rfl, rfl⟩
      · intros; rfl
      rintro p ⟨⟨x, y, z⟩, v⟩ s σ h' he ⟨P, o2, o3, o4, o5, o6, j1, j2, j3, rfl, rfl⟩
      have hp : p.length < (threes t.1).length ∧ p.length < t.2.length := by
        have := congrArg List.length he
        simp only [List.length_append, List.length_cons, List.length_zip] at this
        omega
      have hz : ((threes t.1).zip t.2)[p.length]? = some ((x, y, z), v) := by rw [he]; simp
      rw [List.getElem?_zip_eq_some] at hz
      obtain ⟨hz1, hz2⟩ := hz
      have hm := mem_threes.mp (List.mem_of_getElem? hz1)
      have hpl : pl t.1 (x, y, z) = p.length := by
        have := pl_at (n := t.1) (by omega) hp.1
        rw [List.getElem?_eq_getElem hp.1] at hz1
        rw [Option.some.inj hz1] at this
        exact this
      have hv : t.2.getD (pl t.1 (x, y, z)) 0 = v := by rw [hpl, List.getD_eq_getElem?_getD, hz2]; rfl
      have nd : (List.range t.1).Nodup := List.nodup_range
      refine ⟨_, _, ?_, put6 x y z v P, some (eZ v), some (e3 (z, y, x)), some (eN x), some (eN y), some (eN z), ?_, ?_, ?_, rfl, rfl⟩
      · simp -implicitDefEqProofs (maxDischargeDepth := 12) [SL, ev.asgN, wipe, getIx_tup, getIx_lst, getIx_ftup, getIx_ref, fin_rt0, fin_nx0, Function.comp_def, Nat.max_le, -Prod.exists, -Prod.forall, tlen, e3, forGo, set_tob0, dput_lt, dput_lt', put6, tv, eTZ, room6 (n := P.length) (by omega)]
      · have := put6_len x y z v P; simp; omega
      · intro a b c ha hb hc n1 n2 n3 hs
        have q := put6_look (O := List.range t.1) nd (i := x) (j := y) (k := z) (v := v) (P := P) hm.1 hm.2.1 (by simpa using hm.2.2) (a := a) (b := b) (c := c) (by simpa using ha) (by simpa using hb) (by simpa using hc) n1 n2 n3
        rw [nth_id ha, nth_id hb, nth_id hc, nth_id (show x < t.1 by omega), nth_id (show y < t.1 by omega), nth_id hm.2.2] at q
        rw [q]
        by_cases e : sort3 a b c = (x, y, z)
        · rw [if_pos e]; unfold chi; rw [e, hv]
        · rw [if_neg e]
          refine j2 a b c ha hb hc n1 n2 n3 ?_
          rw [List.map_append, List.mem_append] at hs
          rcases hs with hs | hs
          · exact hs
          · simp only [List.map_cons, List.map_nil, List.mem_singleton] at hs
            exact absurd hs e
      · intro a b c hq
        rcases put6_keys hq with h | h | h | h | h | h | h
        all_goals (first | (exact j3 a b c h) | (simp only [Prod.mk.injEq] at h; omega))
    refine ⟨P, ⟨fun a b c ha hb hc n1 n2 n3 => i2 a b c ha hb hc n1 n2 n3 ?_, i3⟩, ?_⟩
    · rw [List.map_fst_zip (by rw [hw.len]; exact Nat.le_refl _)]
      exact sort3_mem ha hb hc n1 n2 n3
    · rw [← hr]
      simp -implicitDefEqProofs (maxDischargeDepth := 12) [SL, ev.asgN, wipe, getIx_tup, getIx_lst, getIx_ftup, getIx_ref, fin_rt0, fin_nx0, Function.comp_def, Nat.max_le, -Prod.exists, -Prod.forall]
  obtain ⟨P, h1, h2⟩ := key
  exact ⟨P, h1, pure_of hn h2 (by simp [tv]) (by simp)⟩
end L
end PI

/-! Tables read off sweeps and off rings. -/
namespace PI
namespace L
/-- the sides of threes in any order, by those of the rising ones -/
def alt (g : Nat → Nat → Nat → Int) (a b c : Nat) : Int := sg3 a b c * g (sort3 a b c).1 (sort3 a b c).2.1 (sort3 a b c).2.2
theorem alt_12 (g : Nat → Nat → Nat → Int) {a b c : Nat} (h1 : a ≠ b) (h2 : a ≠ c) (h3 : b ≠ c) : alt g b a c = - alt g a b c := by
  unfold alt sort3 sg3
  by_cases x : a < b <;> by_cases y : b < c <;> by_cases z : a < c <;> (try (exfalso; omega)) <;>
    (simp [x, y, z, show (b < a) = ¬ (a < b) by simp only [eq_iff_iff]; omega, show (c < a) = ¬ (a < c) by simp only [eq_iff_iff]; omega, show (c < b) = ¬ (b < c) by simp only [eq_iff_iff]; omega])
theorem alt_23 (g : Nat → Nat → Nat → Int) {a b c : Nat} (h1 : a ≠ b) (h2 : a ≠ c) (h3 : b ≠ c) : alt g a c b = - alt g a b c := by
  unfold alt sort3 sg3
  by_cases x : a < b <;> by_cases y : b < c <;> by_cases z : a < c <;> (try (exfalso; omega)) <;>
    (simp [x, y, z, show (b < a) = ¬ (a < b) by simp only [eq_iff_iff]; omega, show (c < a) = ¬ (a < c) by simp only [eq_iff_iff]; omega, show (c < b) = ¬ (b < c) by simp only [eq_iff_iff]; omega])
/-- a function of threes that changes its sign with each exchange -/
structure Alt (n : Nat) (F : Nat → Nat → Nat → Int) : Prop where
  s12 : ∀ a b c, a < n → b < n → c < n → a ≠ b → a ≠ c → b ≠ c → F b a c = - F a b c
  s23 : ∀ a b c, a < n → b < n → c < n → a ≠ b → a ≠ c → b ≠ c → F a c b = - F a b c
theorem Alt.sorted {n : Nat} {F : Nat → Nat → Nat → Int} (A : Alt n F) {a b c : Nat} (ha : a < n) (hb : b < n) (hc : c < n) (h1 : a ≠ b) (h2 : a ≠ c) (h3 : b ≠ c) : sg3 a b c * F (sort3 a b c).1 (sort3 a b c).2.1 (sort3 a b c).2.2 = F a b c := by
  have e1 := A.s12 a b c ha hb hc h1 h2 h3
  have e2 := A.s23 a b c ha hb hc h1 h2 h3
  have e3 := A.s23 b a c hb ha hc (by omega) h3 h2
  have e4 := A.s12 a c b ha hc hb h2 h1 (by omega)
  have e5 := A.s12 b c a hb hc ha h3 (by omega) (by omega)
  unfold sort3 sg3
  by_cases x : a < b <;> by_cases y : b < c <;> by_cases z : a < c <;> (try (exfalso; omega)) <;>
    (simp [x, y, z, show (b < a) = ¬ (a < b) by simp only [eq_iff_iff]; omega, show (c < a) = ¬ (a < c) by simp only [eq_iff_iff]; omega, show (c < b) = ¬ (b < c) by simp only [eq_iff_iff]; omega] <;> omega)
theorem alt_Alt (g : Nat → Nat → Nat → Int) (n : Nat) : Alt n (alt g) := ⟨fun _ _ _ _ _ _ h1 h2 h3 => alt_12 g h1 h2 h3, fun _ _ _ _ _ _ h1 h2 h3 => alt_23 g h1 h2 h3⟩
theorem Alt.comp {n m : Nat} {F : Nat → Nat → Nat → Int} (A : Alt m F) (p : Nat → Nat) (hp : ∀ a, a < n → p a < m) (hi : ∀ a b, a < n → b < n → a ≠ b → p a ≠ p b) : Alt n (fun a b c => F (p a) (p b) (p c)) :=
  ⟨fun a b c ha hb hc h1 h2 h3 => A.s12 _ _ _ (hp a ha) (hp b hb) (hp c hc) (hi _ _ ha hb h1) (hi _ _ ha hc h2) (hi _ _ hb hc h3), fun a b c ha hb hc h1 h2 h3 => A.s23 _ _ _ (hp a ha) (hp b hb) (hp c hc) (hi _ _ ha hb h1) (hi _ _ ha hc h2) (hi _ _ hb hc h3)⟩
theorem chi_Alt (t : Tb) : Alt t.1 (chi t) := ⟨fun _ _ _ _ _ _ h1 h2 h3 => alt_12 (fun i j k => t.2.getD (pl t.1 (i, j, k)) 0) h1 h2 h3, fun _ _ _ _ _ _ h1 h2 h3 => alt_23 (fun i j k => t.2.getD (pl t.1 (i, j, k)) 0) h1 h2 h3⟩
/-- the table of a function -/
def mkT (n : Nat) (F : Nat → Nat → Nat → Int) : Tb := (n, (threes n).map fun p => F p.1 p.2.1 p.2.2)
theorem chi_mk {n : Nat} {F : Nat → Nat → Nat → Int} (A : Alt n F) {a b c : Nat} (ha : a < n) (hb : b < n) (hc : c < n) (h1 : a ≠ b) (h2 : a ≠ c) (h3 : b ≠ c) : chi (mkT n F) a b c = F a b c := by
  rw [← A.sorted ha hb hc h1 h2 h3]
  unfold chi mkT
  congr 1
  have hm := sort3_mem ha hb hc h1 h2 h3
  have hp := pl_lt hm
  have : (threes n)[pl n (sort3 a b c)] = sort3 a b c := by unfold pl; exact List.getElem_idxOf _
  rw [List.getD_eq_getElem?_getD, List.getElem?_map, List.getElem?_eq_getElem hp, this]
  rfl
theorem mkT_TW {n : Nat} {F : Nat → Nat → Nat → Int} (h1 : 3 ≤ n) (h2 : n ≤ 9) (h : ∀ a b c, a < b → b < c → c < n → F a b c = 1 ∨ F a b c = -1) : TW (mkT n F) := by
  refine ⟨h1, h2, by simp [mkT], fun x hx => ?_⟩
  obtain ⟨⟨a, b, c⟩, hp, rfl⟩ := List.mem_map.mp hx
  obtain ⟨q1, q2, q3⟩ := mem_threes.mp hp
  exact h a b c q1 q2 q3
theorem from_c {n m : Nat} {F : Nat → Nat → Nat → Int} {P : TP} {h : LH} (T : Told F m P) (hm : m ≤ 9) (hn : 2 ≤ n) : callIn (Cn n) i_law_from [eN m, tdv P] h = .ok (tv (mkT m F)) h := by
  refine pure_of (k := 2) hn ?_ (by simp) (by simp [tv])
  rw [Cn_eq d_law_from rfl rfl]
  have h0 := threes_len (n := m) (by omega)
  have h1 : (threes m).length ≤ SL := by simp only [SL]; omega
  simp -implicitDefEqProofs (maxDischargeDepth := 12) [SL, ev.asgN, wipe, getIx_tup, getIx_lst, getIx_ftup, getIx_ref, fin_rt0, fin_nx0, Function.comp_def, Nat.max_le, -Prod.exists, -Prod.forall, d_law_from, c_lthrees (m := m) (show m ≤ 10 by omega), h1]
  rw [comp_all rfl (fun p => eZ (F p.1 p.2.1 p.2.2)) (threes m)]
  · simp -implicitDefEqProofs (maxDischargeDepth := 12) [SL, ev.asgN, wipe, getIx_tup, getIx_lst, getIx_ftup, getIx_ref, fin_rt0, fin_nx0, Function.comp_def, Nat.max_le, -Prod.exists, -Prod.forall, h1, tv, eTZ, mkT]
  · rintro ⟨a, b, c⟩ hp
    obtain ⟨q1, q2, q3⟩ := mem_threes.mp hp
    simp -implicitDefEqProofs (maxDischargeDepth := 12) [SL, ev.asgN, wipe, getIx_tup, getIx_lst, getIx_ftup, getIx_ref, fin_rt0, fin_nx0, Function.comp_def, Nat.max_le, -Prod.exists, -Prod.forall, e3, get_tdv (T.look a b c (by omega) (by omega) q3 (by omega) (by omega) (by omega))]
end L
end PI

/-! Tables read off sweeps and off rings: the loops. -/
namespace PI
namespace L
/-- the dict of a table by places, as far as it is filled -/
structure Fil (O : List Nat) (F : Nat → Nat → Nat → Int) (p : List (Nat × Nat × Nat)) (P : TP) : Prop where
  len : P.length ≤ 6 * p.length
  look : ∀ a b c, a < O.length → b < O.length → c < O.length → a ≠ b → a ≠ c → b ≠ c → sort3 a b c ∈ p → dlook (nth O a, nth O b, nth O c) P = some (F a b c)
  keys : ∀ q ∈ P.map Prod.fst, ∃ a b c, a < O.length ∧ b < O.length ∧ c < O.length ∧ a ≠ b ∧ a ≠ c ∧ b ≠ c ∧ q = (nth O a, nth O b, nth O c)
theorem Fil.nil {O : List Nat} {F : Nat → Nat → Nat → Int} : Fil O F [] [] := ⟨by simp, by simp, by simp⟩
theorem Fil.put {O : List Nat} {g : Nat → Nat → Nat → Int} {p : List (Nat × Nat × Nat)} {P : TP} (hd : O.Nodup) (h : Fil O (alt g) p P) {i j k : Nat} (h1 : i < j) (h2 : j < k) (h3 : k < O.length) {v : Int} (hv : g i j k = v) : Fil O (alt g) (p ++ [(i, j, k)]) (put6 (nth O i) (nth O j) (nth O k) v P) := by
  refine ⟨?_, ?_, ?_⟩
  · have := put6_len (nth O i) (nth O j) (nth O k) v P
    have := h.len
    simp; omega
  · intro a b c ha hb hc n1 n2 n3 hs
    rw [put6_look hd h1 h2 h3 ha hb hc n1 n2 n3]
    by_cases e : sort3 a b c = (i, j, k)
    · rw [if_pos e]; unfold alt; rw [e, hv]
    · rw [if_neg e]
      refine h.look a b c ha hb hc n1 n2 n3 ?_
      rw [List.mem_append, List.mem_singleton] at hs
      rcases hs with hs | hs
      · exact hs
      · exact absurd hs e
  · intro q hq
    have hi : i < O.length := by omega
    have hj : j < O.length := by omega
    rcases put6_keys hq with h0 | h0 | h0 | h0 | h0 | h0 | h0
    · exact ⟨i, j, k, hi, hj, h3, by omega, by omega, by omega, h0⟩
    · exact ⟨j, k, i, hj, h3, hi, by omega, by omega, by omega, h0⟩
    · exact ⟨k, i, j, h3, hi, hj, by omega, by omega, by omega, h0⟩
    · exact ⟨j, i, k, hj, hi, h3, by omega, by omega, by omega, h0⟩
    · exact ⟨i, k, j, hi, h3, hj, by omega, by omega, by omega, h0⟩
    · exact ⟨k, j, i, h3, hj, hi, by omega, by omega, by omega, h0⟩
    · exact h.keys q h0
/-- by an order: the side of things is that of their places -/
def byO (O : List Nat) (g : Nat → Nat → Nat → Int) (a b c : Nat) : Int := alt g (O.idxOf a) (O.idxOf b) (O.idxOf c)
theorem perm_lt {O : List Nat} {m : Nat} (h : O.Perm (List.range m)) {a : Nat} (ha : a < m) : O.idxOf a < O.length := List.idxOf_lt_length_iff.mpr (h.mem_iff.mpr (by simpa using ha))
theorem nth_idx {O : List Nat} {a : Nat} (h : a ∈ O) : nth O (O.idxOf a) = a := by
  rw [← nth_get (List.idxOf_lt_length_iff.mpr h)]; simp
theorem perm_mem {O : List Nat} {m : Nat} (h : O.Perm (List.range m)) {a : Nat} : a ∈ O ↔ a < m := by rw [h.mem_iff]; simp
theorem perm_len {O : List Nat} {m : Nat} (h : O.Perm (List.range m)) : O.length = m := by have := h.length_eq; simpa using this
theorem perm_nd {O : List Nat} {m : Nat} (h : O.Perm (List.range m)) : O.Nodup := h.nodup_iff.mpr List.nodup_range
theorem idx_ne {O : List Nat} {a b : Nat} (ha : a ∈ O) (hb : b ∈ O) (h : a ≠ b) : O.idxOf a ≠ O.idxOf b := fun z => h (by rw [← nth_idx ha, ← nth_idx hb, z])
theorem byO_Alt {O : List Nat} {m : Nat} (h : O.Perm (List.range m)) (g : Nat → Nat → Nat → Int) : Alt m (byO O g) :=
  (alt_Alt g O.length).comp O.idxOf (fun a ha => perm_lt h ha) (fun a b ha hb hne => idx_ne (h.mem_iff.mpr (by simpa using ha)) (h.mem_iff.mpr (by simpa using hb)) hne)
theorem Fil.told {O : List Nat} {m : Nat} {g : Nat → Nat → Nat → Int} {P : TP} (h : O.Perm (List.range m)) (f : Fil O (alt g) (threes m) P) : Told (byO O g) m P := by
  have hl := perm_len h
  refine ⟨fun a b c ha hb hc n1 n2 n3 => ?_, fun a b c hq => ?_⟩
  · have ma := perm_mem h |>.mpr ha
    have mb := perm_mem h |>.mpr hb
    have mc := perm_mem h |>.mpr hc
    have := f.look (O.idxOf a) (O.idxOf b) (O.idxOf c) (perm_lt h ha) (perm_lt h hb) (perm_lt h hc) (idx_ne ma mb n1) (idx_ne ma mc n2) (idx_ne mb mc n3) (sort3_mem (by rw [← hl]; exact perm_lt h ha) (by rw [← hl]; exact perm_lt h hb) (by rw [← hl]; exact perm_lt h hc) (idx_ne ma mb n1) (idx_ne ma mc n2) (idx_ne mb mc n3))
    rw [nth_idx ma, nth_idx mb, nth_idx mc] at this
    exact this
  · obtain ⟨i, j, k, hi, hj, hk, n1, n2, n3, e⟩ := f.keys _ hq
    simp only [Prod.mk.injEq] at e
    obtain ⟨rfl, rfl, rfl⟩ := e
    have hd := perm_nd h
    exact ⟨perm_mem h |>.mp (nth_mem hi), perm_mem h |>.mp (nth_mem hj), perm_mem h |>.mp (nth_mem hk), nth_ne hd hi hj n1, nth_ne hd hi hk n2, nth_ne hd hj hk n3⟩
theorem ring_c {n m : Nat} {O : List Nat} {h : LH} (hO : O.Perm (List.range m)) (hm : m ≤ 9) (hn : 3 ≤ n) : callIn (Cn n) i_law_ring_table [.lst (O.map eN)] h = .ok (tv (mkT m (byO O fun _ _ _ => 1))) h := by
  refine pure_of (k := 3) hn ?_ (by simp) (by simp [tv])
  rw [show 3 = 2 + 1 from rfl, Cn_eq d_law_ring_table rfl rfl]
  generalize hr : fin _ _ = rr
  have hl := perm_len hO
  have hd := perm_nd hO
  have h0 := threes_len (n := m) (by omega)
  simp -implicitDefEqProofs (maxDischargeDepth := 12) [SL, ev.asgN, wipe, getIx_tup, getIx_lst, getIx_ftup, getIx_ref, fin_rt0, fin_nx0, Function.comp_def, Nat.max_le, -Prod.exists, -Prod.forall, d_law_ring_table, hl, tob_nil, c_lthrees (m := m) (show m ≤ 10 by omega)] at hr
  generalize hw' : forGo _ _ _ _ _ = rs at hr
  obtain ⟨σ', h', rfl, P, o2, o3, o4, o5, o6, f, rfl, rfl⟩ : ∃ σ' h', rs = .nx σ' h' ∧ ∃ (P : TP) (o2 o3 o4 o5 o6 : Option Val), Fil O (alt fun _ _ _ => 1) (threes m) P ∧ σ' = [some (.lst (O.map eN)), some (.ref 0), o2, o3, o4, o5, o6, none] ∧ h' = [tob P] := by
    rw [← hw']
    refine for_inv (enc := e3) (fun p σ' h' => ∃ (P : TP) (o2 o3 o4 o5 o6 : Option Val), Fil O (alt fun _ _ _ => 1) p P ∧ σ' = [some (.lst (O.map eN)), some (.ref 0), o2, o3, o4, o5, o6, none] ∧ h' = [tob P]) (threes m) ?_ ?_ ?_
    · exact ⟨[], none, none, none, none, none, Fil.nil, rfl, rfl⟩
    · intros; rfl
    rintro p ⟨i, j, k⟩ s σ h' he ⟨P, o2, o3, o4, o5, o6, f, rfl, rfl⟩
    have hp : p.length < 120 := by
      have := congrArg List.length he
      simp only [List.length_append, List.length_cons] at this
      omega
    obtain ⟨q1, q2, q3⟩ := mem_threes.mp (show (i, j, k) ∈ threes m by rw [he]; simp)
    have hi : i < m := by omega
    have hj : j < m := by omega
    have fl := f.len
    refine ⟨_, _, ?_, _, some (e3 (i, j, k)), some (e3 (nth O k, nth O j, nth O i)), some (eN (nth O i)), some (eN (nth O j)), some (eN (nth O k)), f.put hd q1 q2 (by omega) rfl, rfl, rfl⟩
    simp -implicitDefEqProofs (maxDischargeDepth := 12) [SL, ev.asgN, wipe, getIx_tup, getIx_lst, getIx_ftup, getIx_ref, fin_rt0, fin_nx0, Function.comp_def, Nat.max_le, -Prod.exists, -Prod.forall, tlen, e3]
    rw [show [eN i, eN j, eN k] = [i, j, k].map eN from rfl, comp_all (enc := eN) rfl (fun x => eN (nth O x)) [i, j, k]]
    · simp -implicitDefEqProofs (maxDischargeDepth := 12) [SL, ev.asgN, wipe, getIx_tup, getIx_lst, getIx_ftup, getIx_ref, fin_rt0, fin_nx0, Function.comp_def, Nat.max_le, -Prod.exists, -Prod.forall, tlen, forGo, set_tob0, dput_lt, dput_lt', put6, room6 (n := P.length) (by omega)]
    · intro x hx
      have hx' : x < O.length := by
        rw [hl]
        simp only [List.mem_cons, List.not_mem_nil, or_false] at hx
        rcases hx with rfl | rfl | rfl <;> omega
      simp -implicitDefEqProofs (maxDischargeDepth := 12) [SL, ev.asgN, wipe, getIx_tup, getIx_lst, getIx_ftup, getIx_ref, fin_rt0, fin_nx0, Function.comp_def, Nat.max_le, -Prod.exists, -Prod.forall, hx', nth_get]
  rw [← hr]
  have T := f.told hO
  simp -implicitDefEqProofs (maxDischargeDepth := 12) [SL, ev.asgN, wipe, getIx_tup, getIx_lst, getIx_ftup, getIx_ref, fin_rt0, fin_nx0, Function.comp_def, Nat.max_le, -Prod.exists, -Prod.forall, hl, from_c T hm, tv]
theorem idx_map {α β : Type} [BEq α] [LawfulBEq α] [BEq β] [LawfulBEq β] (f : α → β) (p : α) : ∀ (l : List α), (∀ q ∈ l, f q = f p → q = p) → (l.map f).idxOf (f p) = l.idxOf p
  | [], _ => rfl
  | q :: l, h => by
    simp only [List.map_cons, List.idxOf_cons]
    by_cases e : q = p
    · subst e; simp
    · have e1 : ¬ f q = f p := fun z => e (h q (by simp) z)
      have e2 : (q == p) = false := by simpa using e
      have e3 : (f q == f p) = false := by simpa using e1
      simp only [e2, e3, cond_false, idx_map f p l fun q hq => h q (List.mem_cons_of_mem _ hq)]
/-- the side of three places of a sweep, by its steps -/
def sgO (O : List Nat) (S : List (Nat × Nat)) (i j k : Nat) : Int := if S.idxOf (nth O i, nth O j) < S.idxOf (nth O j, nth O k) then 1 else -1
theorem read_c {n m : Nat} {O : List Nat} {S : List (Nat × Nat)} {h : LH} (hO : O.Perm (List.range m)) (hm : m ≤ 9) (hS : ∀ i j, i < j → j < m → (nth O i, nth O j) ∈ S) (hn : 3 ≤ n) : callIn (Cn n) i_law_read [.tup [.ftup (O.map eN), .ftup (S.map e2)]] h = .ok (tv (mkT m (byO O (sgO O S)))) h := by
  refine pure_of (k := 3) hn ?_ (by simp) (by simp [tv])
  rw [show 3 = 2 + 1 from rfl, Cn_eq d_law_read rfl rfl]
  generalize hr : fin _ _ = rr
  have hl := perm_len hO
  have hd := perm_nd hO
  have h0 := threes_len (n := m) (by omega)
  have h1 : (threes m).length ≤ SL := by simp only [SL]; omega
  simp -implicitDefEqProofs (maxDischargeDepth := 12) [SL, ev.asgN, wipe, getIx_tup, getIx_lst, getIx_ftup, getIx_ref, fin_rt0, fin_nx0, Function.comp_def, Nat.max_le, -Prod.exists, -Prod.forall, d_law_read, tlen, hl, tob_nil, c_lthrees (m := m) (show m ≤ 10 by omega), h1] at hr
  rw [comp_all (enc := e3) rfl (fun q => .lst [eN (nth O q.1), eN (nth O q.2.1), eN (nth O q.2.2)]) (threes m)] at hr
  · simp -implicitDefEqProofs (maxDischargeDepth := 12) [SL, ev.asgN, wipe, getIx_tup, getIx_lst, getIx_ftup, getIx_ref, fin_rt0, fin_nx0, Function.comp_def, Nat.max_le, -Prod.exists, -Prod.forall, h1] at hr
    generalize hw' : forGo _ _ _ _ _ = rs at hr
    obtain ⟨σ', h', rfl, P, o5, o6, o7, o8, o9, f, rfl, rfl⟩ : ∃ σ' h', rs = .nx σ' h' ∧ ∃ (P : TP) (o5 o6 o7 o8 o9 : Option Val), Fil O (alt (sgO O S)) (threes m) P ∧ σ' = [some (.tup [.ftup (O.map eN), .ftup (S.map e2)]), some (eN m), some (.ref 0), some (.ftup (O.map eN)), some (.ftup (S.map e2)), o5, o6, o7, o8, o9, none] ∧ h' = [tob P] := by
      rw [← hw']
      refine for_inv (enc := fun q : Nat × Nat × Nat => .lst [eN (nth O q.1), eN (nth O q.2.1), eN (nth O q.2.2)]) (fun p σ' h' => ∃ (P : TP) (o5 o6 o7 o8 o9 : Option Val), Fil O (alt (sgO O S)) p P ∧ σ' = [some (.tup [.ftup (O.map eN), .ftup (S.map e2)]), some (eN m), some (.ref 0), some (.ftup (O.map eN)), some (.ftup (S.map e2)), o5, o6, o7, o8, o9, none] ∧ h' = [tob P]) (threes m) ?_ ?_ ?_
      · exact ⟨[], none, none, none, none, none, Fil.nil, rfl, rfl⟩
      · intros; rfl
      rintro p ⟨i, j, k⟩ s σ h' he ⟨P, o5, o6, o7, o8, o9, f, rfl, rfl⟩
      have hp : p.length < 120 := by
        have := congrArg List.length he
        simp only [List.length_append, List.length_cons] at this
        omega
      obtain ⟨q1, q2, q3⟩ := mem_threes.mp (show (i, j, k) ∈ threes m by rw [he]; simp)
      have fl := f.len
      have m1 := hS i j q1 (by omega)
      have m2 := hS j k q2 q3
      have x1 : indexOf (.tup [eN (nth O i), eN (nth O j)]) (S.map e2) = some (S.idxOf (nth O i, nth O j)) := by
        have := idx_e2 (nth O i, nth O j) S
        rw [if_pos m1] at this; exact this
      have x2 : indexOf (.tup [eN (nth O j), eN (nth O k)]) (S.map e2) = some (S.idxOf (nth O j, nth O k)) := by
        have := idx_e2 (nth O j, nth O k) S
        rw [if_pos m2] at this; exact this
      refine ⟨_, _, ?_, _, some (eN (nth O i)), some (eN (nth O j)), some (eN (nth O k)), some (eZ (sgO O S i j k)), some (e3 (nth O k, nth O j, nth O i)), f.put hd q1 q2 (by omega) rfl, rfl, rfl⟩
      by_cases e : S.idxOf (nth O i, nth O j) < S.idxOf (nth O j, nth O k)
      · simp -implicitDefEqProofs (maxDischargeDepth := 12) [SL, ev.asgN, wipe, getIx_tup, getIx_lst, getIx_ftup, getIx_ref, fin_rt0, fin_nx0, Function.comp_def, Nat.max_le, -Prod.exists, -Prod.forall, tlen, e3, x1, x2, e, sgO, forGo, set_tob0, dput_lt, dput_lt', put6, room6 (n := P.length) (by omega)]
      · simp -implicitDefEqProofs (maxDischargeDepth := 12) [SL, ev.asgN, wipe, getIx_tup, getIx_lst, getIx_ftup, getIx_ref, fin_rt0, fin_nx0, Function.comp_def, Nat.max_le, -Prod.exists, -Prod.forall, tlen, e3, x1, x2, e, sgO, forGo, set_tob0, dput_lt, dput_lt', put6, room6 (n := P.length) (by omega)]
    rw [← hr]
    have T := f.told hO
    simp -implicitDefEqProofs (maxDischargeDepth := 12) [SL, ev.asgN, wipe, getIx_tup, getIx_lst, getIx_ftup, getIx_ref, fin_rt0, fin_nx0, Function.comp_def, Nat.max_le, -Prod.exists, -Prod.forall, hl, from_c T hm, tv]
  · rintro ⟨i, j, k⟩ hq
    obtain ⟨q1, q2, q3⟩ := mem_threes.mp hq
    simp -implicitDefEqProofs (maxDischargeDepth := 12) [SL, ev.asgN, wipe, getIx_tup, getIx_lst, getIx_ftup, getIx_ref, fin_rt0, fin_nx0, Function.comp_def, Nat.max_le, -Prod.exists, -Prod.forall, e3]
    rw [show [eN i, eN j, eN k] = [i, j, k].map eN from rfl, comp_all (enc := eN) rfl (fun x => eN (nth O x)) [i, j, k]]
    · simp -implicitDefEqProofs (maxDischargeDepth := 12) [SL, ev.asgN, wipe, getIx_tup, getIx_lst, getIx_ftup, getIx_ref, fin_rt0, fin_nx0, Function.comp_def, Nat.max_le, -Prod.exists, -Prod.forall]
    · intro x hx
      have hx' : x < O.length := by
        rw [hl]
        simp only [List.mem_cons, List.not_mem_nil, or_false] at hx
        rcases hx with rfl | rfl | rfl <;> omega
      simp -implicitDefEqProofs (maxDischargeDepth := 12) [SL, ev.asgN, wipe, getIx_tup, getIx_lst, getIx_ftup, getIx_ref, fin_rt0, fin_nx0, Function.comp_def, Nat.max_le, -Prod.exists, -Prod.forall, hx', nth_get]
end L
end PI

/-! The laws' right tables, drawn. -/
namespace PI
namespace L
/-- a table that some order shows: by it, of each four things the sides change at most once -/
def Swept (t : Tb) : Prop := ∃ O g, O.Perm (List.range t.1) ∧ Mono t.1 g ∧ ∀ a b c, a < t.1 → b < t.1 → c < t.1 → a ≠ b → a ≠ c → b ≠ c → chi t a b c = byO O g a b c
theorem byO_one {O : List Nat} {m : Nat} {g : Nat → Nat → Nat → Int} (h : O.Perm (List.range m)) (M : Mono m g) {a b c : Nat} (ha : a < m) (hb : b < m) (hc : c < m) (h1 : a ≠ b) (h2 : a ≠ c) (h3 : b ≠ c) : byO O g a b c = 1 ∨ byO O g a b c = -1 := by
  have hl := perm_len h
  have pa := perm_lt h ha
  have pb := perm_lt h hb
  have pc := perm_lt h hc
  have ma := perm_mem h |>.mpr ha
  have mb := perm_mem h |>.mpr hb
  have mc := perm_mem h |>.mpr hc
  have l := sort3_lt (idx_ne ma mb h1) (idx_ne ma mc h2) (idx_ne mb mc h3)
  have x := sort3_mx (n := m) (by omega : O.idxOf a < m) (by omega : O.idxOf b < m) (by omega : O.idxOf c < m)
  have g1 := M.1 _ _ _ l.1 l.2 x
  have s1 := sg3_one (O.idxOf a) (O.idxOf b) (O.idxOf c)
  unfold byO alt
  rcases g1 with g1 | g1 <;> rcases s1 with s1 | s1 <;> rw [g1, s1] <;> simp
theorem Swept.mk {m : Nat} {O : List Nat} {g : Nat → Nat → Nat → Int} (h : O.Perm (List.range m)) (M : Mono m g) : Swept (mkT m (byO O g)) :=
  ⟨O, g, h, M, fun a b c ha hb hc h1 h2 h3 => chi_mk (byO_Alt h g) ha hb hc h1 h2 h3⟩
theorem Swept.TW {m : Nat} {O : List Nat} {g : Nat → Nat → Nat → Int} (h : O.Perm (List.range m)) (M : Mono m g) (h3 : 3 ≤ m) (h9 : m ≤ 9) : TW (mkT m (byO O g)) :=
  mkT_TW h3 h9 fun a b c q1 q2 q3 => byO_one h M (by omega) (by omega) q3 (by omega) (by omega) (by omega)
theorem mkT_congr {m : Nat} {F F' : Nat → Nat → Nat → Int} (h : ∀ a b c, a < b → b < c → c < m → F a b c = F' a b c) : mkT m F = mkT m F' := by
  unfold mkT
  congr 1
  apply List.map_congr_left
  rintro ⟨a, b, c⟩ hp
  obtain ⟨q1, q2, q3⟩ := mem_threes.mp hp
  exact h a b c q1 q2 q3
theorem byO_congr {m : Nat} {O : List Nat} {g g' : Nat → Nat → Nat → Int} (h : O.Perm (List.range m)) (e : ∀ i j k, i < j → j < k → k < m → g i j k = g' i j k) {a b c : Nat} (ha : a < m) (hb : b < m) (hc : c < m) (h1 : a ≠ b) (h2 : a ≠ c) (h3 : b ≠ c) : byO O g a b c = byO O g' a b c := by
  have hl := perm_len h
  have pa := perm_lt h ha
  have pb := perm_lt h hb
  have pc := perm_lt h hc
  have ma := perm_mem h |>.mpr ha
  have mb := perm_mem h |>.mpr hb
  have mc := perm_mem h |>.mpr hc
  have l := sort3_lt (idx_ne ma mb h1) (idx_ne ma mc h2) (idx_ne mb mc h3)
  have x := sort3_mx (n := m) (by omega : O.idxOf a < m) (by omega : O.idxOf b < m) (by omega : O.idxOf c < m)
  unfold byO alt
  rw [e _ _ _ l.1 l.2 x]
/-- the steps as things -/
def stO (O : List Nat) (st : List (Nat × Nat)) : List (Nat × Nat) := st.map fun p => (nth O p.1, nth O p.2)
theorem stO_idx {m : Nat} {O row : List Nat} {st : List (Nat × Nat)} (h : O.Perm (List.range m)) (s : SW m row st) {i j : Nat} (hi : i < m) (hj : j < m) : (stO O st).idxOf (nth O i, nth O j) = st.idxOf (i, j) := by
  have hl := perm_len h
  have hd := perm_nd h
  refine idx_map (fun p : Nat × Nat => (nth O p.1, nth O p.2)) (i, j) st ?_
  rintro ⟨x, y⟩ hq e
  have := (s.mem x y).mp hq
  simp only [Prod.mk.injEq] at e
  rw [nth_inj hd (by omega) (by omega), nth_inj hd (by omega) (by omega)] at e
  rw [e.1, e.2]
theorem stO_mem {m : Nat} {O row : List Nat} {st : List (Nat × Nat)} (s : SW m row st) (hl : (pairs m).length ≤ st.length) {i j : Nat} (h1 : i < j) (h2 : j < m) : (nth O i, nth O j) ∈ stO O st :=
  List.mem_map.mpr ⟨(i, j), s.all hl h1 h2, rfl⟩
theorem table_c {n k l lo hi : Nat} {b : Bag} {h : LH} (hn : 4 ≤ n) (hb : h[l]? = some (bagO b)) (ok : BagOK k b) (hk : k ≤ 700000000) (h0 : 3 ≤ lo) (h1 : lo ≤ hi) (h2 : hi ≤ 9) :
    ∃ (t : Tb) (b' : Bag), TW t ∧ Swept t ∧ lo ≤ t.1 ∧ t.1 ≤ hi ∧ BagOK (k + 100) b' ∧ callIn (Cn n) i_law_table [.ref l, eN lo, eN hi] h = .ok (tv t) (h.set l (bagO b')) := by
  obtain ⟨n, rfl⟩ := Nat.exists_eq_add_of_le' hn
  have key : ∃ (t : Tb) (b' : Bag), TW t ∧ Swept t ∧ lo ≤ t.1 ∧ t.1 ≤ hi ∧ BagOK (k + 100) b' ∧ Cn (n + 4) i_law_table [.ref 0, eN lo, eN hi] [bagO b] = .ok (tv t) [bagO b'] := by
    rw [show n + 4 = n + 3 + 1 from rfl, Cn_eq d_law_table rfl rfl]
    generalize hr : fin _ _ = rr
    obtain ⟨r, b1, q1, q2, q3⟩ := take_2 (n := n + 3) (m := hi - lo + 1) (h := []) (by omega) ok (by omega) (by omega) (by omega)
    obtain ⟨u, b2, p1, p2, p3⟩ := take_2 (n := n + 3) (m := 6) (h := []) (by omega) q2 (by omega) (by omega) (by omega)
    have p3' : callIn (Cn (n + 3)) 8 [.ref 0, .int 6] [bagO b1] = .ok (eN u) [bagO b2] := p3
    have e0 : (hi : Int) - (lo : Int) + 1 = ((hi - lo + 1 : Nat) : Int) := by omega
    have e1 : (lo : Int) + (r : Int) = ((lo + r : Nat) : Int) := by omega
    generalize hm : lo + r = m at *
    have hm9 : m ≤ 9 := by omega
    have hs : m ≤ SL := by simp only [SL]; omega
    simp -implicitDefEqProofs (maxDischargeDepth := 12) [SL, ev.asgN, wipe, getIx_tup, getIx_lst, getIx_ftup, getIx_ref, fin_rt0, fin_nx0, Function.comp_def, Nat.max_le, -Prod.exists, -Prod.forall, d_law_table, e0, q3, -Int.natCast_add, e1, p3', rangeOk_0 m hs, rangeV_0, hs] at hr
    by_cases hu : u = 0
    · obtain ⟨O, b3, s1, s2, s3⟩ := shuf_c (enc := eN) (n := n + 3) (l := 0) (h := [bagO b2]) (xs := List.range m) (v := .lst ((List.range m).map eN)) (.inl rfl) (by omega) rfl p2 (by omega) (by simp; omega)
      have M : Mono m (fun _ _ _ => 1) := ⟨fun _ _ _ _ _ _ => .inl rfl, fun _ _ _ _ _ _ _ _ => by simp⟩
      refine ⟨mkT m (byO O fun _ _ _ => 1), b3, Swept.TW s1 M (by omega) hm9, Swept.mk s1 M, by simp only [mkT]; omega, by simp only [mkT]; omega, s2.le (by simp; omega), ?_⟩
      rw [← hr]
      simp -implicitDefEqProofs (maxDischargeDepth := 12) [SL, ev.asgN, wipe, getIx_tup, getIx_lst, getIx_ftup, getIx_ref, fin_rt0, fin_nx0, Function.comp_def, Nat.max_le, -Prod.exists, -Prod.forall, hu, s3, rangeOk_0 m hs, rangeV_0, hs, ring_c s1 hm9, fin_rt1, tv]
    · obtain ⟨O, row, st, b3, s1, s2, s3, s4, s5⟩ := sweep_c (n := n + 3) (l := 0) (h := [bagO b2]) (m := m) (by omega) rfl p2 (by omega) (by omega) hm9
      have M := s2.mono (by rw [s3]; exact Nat.le_refl _)
      have M' := Swept.mk s1 M
      have ee : mkT m (byO O (sgO O (stO O st))) = mkT m (byO O (sgS st)) := mkT_congr fun a b c x1 x2 x3 => byO_congr s1 (fun i j k y1 y2 y3 => by
        unfold sgO sgS
        rw [stO_idx s1 s2 (by omega) (by omega), stO_idx s1 s2 (by omega) (by omega)]) (by omega) (by omega) x3 (by omega) (by omega) (by omega)
      refine ⟨mkT m (byO O (sgS st)), b3, Swept.TW s1 M (by omega) hm9, M', by simp only [mkT]; omega, by simp only [mkT]; omega, s4.le (by omega), ?_⟩
      rw [← hr, ← ee]
      have rd := read_c (n := n + 3) (S := stO O st) (h := [bagO b3]) s1 hm9 (fun i j x1 x2 => stO_mem s2 (by rw [s3]; exact Nat.le_refl _) x1 x2) (by omega)
      have s5' : callIn (Cn (n + 3)) 24 [.ref 0, eN m] [bagO b2] = .ok (.tup [.ftup (O.map eN), .ftup ((stO O st).map e2)]) [bagO b3] := s5
      simp -implicitDefEqProofs (maxDischargeDepth := 12) [SL, ev.asgN, wipe, getIx_tup, getIx_lst, getIx_ftup, getIx_ref, fin_rt0, fin_nx0, Function.comp_def, Nat.max_le, -Prod.exists, -Prod.forall, hu, s5', rd, fin_rt1, tv]
  obtain ⟨t, b', k1, k2, k3, k4, k5, k6⟩ := key
  exact ⟨t, b', k1, k2, k3, k4, k5, callIn_one hb (by simp) (by simp) (by simp) (by simp [tv]) k6⟩
end L
end PI

/-! The laws' own look at answers; renamed tables. -/
namespace PI
mutual
/-- what a law looks at, kind by kind -/
def plainV : Val → Bool
  | .non => true
  | .bl _ => true
  | .int _ => true
  | .str s => isData (.str s)
  | .tup xs => decide (xs.length ≤ SL) && plainVs xs
  | .lst xs => decide (xs.length ≤ SL) && plainVs xs
  | _ => false
def plainVs : List Val → Bool
  | [] => true
  | x :: xs => plainV x && plainVs xs
end
theorem plainVs_mem : ∀ {xs : List Val}, plainVs xs = true → ∀ x ∈ xs, plainV x = true
  | [], _, x, hx => by simp at hx
  | y :: ys, h, x, hx => by
    simp only [plainVs, Bool.and_eq_true] at h
    rcases List.mem_cons.mp hx with rfl | hx
    · exact h.1
    · exact plainVs_mem h.2 x hx
mutual
theorem plain_noRef : ∀ v : Val, plainV v = true → noRef v = true
  | .non, _ => rfl
  | .bl _, _ => rfl
  | .int _, _ => rfl
  | .tup xs, h => by simp only [plainV, Bool.and_eq_true] at h; simp only [noRef_tup]; exact plains_noRef xs h.2
  | .lst xs, h => by simp only [plainV, Bool.and_eq_true] at h; simp only [noRef_lst]; exact plains_noRef xs h.2
  | .str _, _ => rfl
  | .ftup _, h => by simp [plainV] at h
  | .dct _ _ _, h => by simp [plainV] at h
  | .ref _, h => by simp [plainV] at h
  | .fn _, h => by simp [plainV] at h
  | .exc _, h => by simp [plainV] at h
theorem plains_noRef : ∀ xs : List Val, plainVs xs = true → noRefs xs = true
  | [], _ => rfl
  | x :: xs, h => by simp only [plainVs, Bool.and_eq_true] at h; simp only [noRefs_cons, plain_noRef x h.1, plains_noRef xs h.2, Bool.and_self]
end
theorem plainVs_of {xs : List Val} (h : ∀ x ∈ xs, plainV x = true) : plainVs xs = true := by
  induction xs with
  | nil => rfl
  | cons x xs ih => simp only [plainVs, h x (by simp), ih fun y hy => h y (by simp [hy]), Bool.and_self]
theorem plainVs_map {α : Type} {f : α → Val} {l : List α} (h : ∀ x, plainV (f x) = true) : plainVs (l.map f) = true := plainVs_of fun x hx => by
  obtain ⟨y, _, rfl⟩ := List.mem_map.mp hx; exact h y
theorem vdepths_mem : ∀ {xs : List Val} {x : Val}, x ∈ xs → vdepth x ≤ vdepths xs
  | y :: ys, x, hx => by
    simp only [vdepths_cons]
    rcases List.mem_cons.mp hx with rfl | hx
    · omega
    · have := vdepths_mem hx; omega
theorem zipV_self (xs : List Val) : zipV xs xs = xs.map fun x => .tup [x, x] := by
  induction xs with
  | nil => rfl
  | cons x xs ih => simp only [zipV, ih, List.map_cons]
theorem boolsOf_true (xs : List Val) : boolsOf (xs.map fun _ => .bl true) = some (xs.map fun _ => true) := by
  induction xs with
  | nil => rfl
  | cons x xs ih => simp only [List.map_cons, boolsOf, ih, Option.map_some]
namespace L
theorem is_c : ∀ (d : Nat) {n : Nat} {v : Val} {h : LH}, vdepth v ≤ d → plainV v = true → d + 1 ≤ n → callIn (Cn n) i_law_is [v, v] h = .ok (.bl true) h := by
  intro d
  induction d with
  | zero =>
    intro n v h hd hp hn
    refine pure_of (k := 1) hn ?_ (by simp [plain_noRef v hp]) (by simp)
    rw [show 1 = 0 + 1 from rfl, Cn_eq d_law_is rfl rfl]
    cases v <;> simp [vdepth, plainV] at hd hp
    · simp -implicitDefEqProofs (maxDischargeDepth := 12) [SL, ev.asgN, wipe, getIx_tup, getIx_lst, getIx_ftup, getIx_ref, fin_rt0, fin_nx0, Function.comp_def, Nat.max_le, -Prod.exists, -Prod.forall, d_law_is]
    · simp -implicitDefEqProofs (maxDischargeDepth := 12) [SL, ev.asgN, wipe, getIx_tup, getIx_lst, getIx_ftup, getIx_ref, fin_rt0, fin_nx0, Function.comp_def, Nat.max_le, -Prod.exists, -Prod.forall, d_law_is]
    · simp -implicitDefEqProofs (maxDischargeDepth := 12) [SL, ev.asgN, wipe, getIx_tup, getIx_lst, getIx_ftup, getIx_ref, fin_rt0, fin_nx0, Function.comp_def, Nat.max_le, -Prod.exists, -Prod.forall, d_law_is]
    · rename_i s
      simp -implicitDefEqProofs (maxDischargeDepth := 12) [SL, ev.asgN, wipe, getIx_tup, getIx_lst, getIx_ftup, getIx_ref, fin_rt0, fin_nx0, Function.comp_def, Nat.max_le, -Prod.exists, -Prod.forall, d_law_is, asData_nr (v := .str s) rfl hp]
  | succ d ih =>
    intro n v h hd hp hn
    by_cases h0 : vdepth v ≤ d
    · exact ih h0 hp (by omega)
    refine pure_of (k := d + 2) hn ?_ (by simp [plain_noRef v hp]) (by simp)
    rw [show d + 2 = d + 1 + 1 from rfl, Cn_eq d_law_is rfl rfl]
    cases v <;> simp [vdepth, plainV] at hd hp h0
    · rename_i xs
      simp -implicitDefEqProofs (maxDischargeDepth := 12) [SL, ev.asgN, wipe, getIx_tup, getIx_lst, getIx_ftup, getIx_ref, fin_rt0, fin_nx0, Function.comp_def, Nat.max_le, -Prod.exists, -Prod.forall, d_law_is, hp.1, zipV_self]
      rw [comp_all (enc := fun x : Val => .tup [x, x]) rfl (fun _ => .bl true) xs]
      · simp -implicitDefEqProofs (maxDischargeDepth := 12) [SL, ev.asgN, wipe, getIx_tup, getIx_lst, getIx_ftup, getIx_ref, fin_rt0, fin_nx0, Function.comp_def, Nat.max_le, -Prod.exists, -Prod.forall, hp.1, boolsOf_true]
      · intro x hx
        have := ih (n := d + 1) (v := x) (h := []) (by have := vdepths_mem hx; omega) (plainVs_mem hp.2 x hx) (by omega)
        simp -implicitDefEqProofs (maxDischargeDepth := 12) [SL, ev.asgN, wipe, getIx_tup, getIx_lst, getIx_ftup, getIx_ref, fin_rt0, fin_nx0, Function.comp_def, Nat.max_le, -Prod.exists, -Prod.forall, tlen, this]
    · rename_i xs
      simp -implicitDefEqProofs (maxDischargeDepth := 12) [SL, ev.asgN, wipe, getIx_tup, getIx_lst, getIx_ftup, getIx_ref, fin_rt0, fin_nx0, Function.comp_def, Nat.max_le, -Prod.exists, -Prod.forall, d_law_is, hp.1, zipV_self]
      rw [comp_all (enc := fun x : Val => .tup [x, x]) rfl (fun _ => .bl true) xs]
      · simp -implicitDefEqProofs (maxDischargeDepth := 12) [SL, ev.asgN, wipe, getIx_tup, getIx_lst, getIx_ftup, getIx_ref, fin_rt0, fin_nx0, Function.comp_def, Nat.max_le, -Prod.exists, -Prod.forall, hp.1, boolsOf_true]
      · intro x hx
        have := ih (n := d + 1) (v := x) (h := []) (by have := vdepths_mem hx; omega) (plainVs_mem hp.2 x hx) (by omega)
        simp -implicitDefEqProofs (maxDischargeDepth := 12) [SL, ev.asgN, wipe, getIx_tup, getIx_lst, getIx_ftup, getIx_ref, fin_rt0, fin_nx0, Function.comp_def, Nat.max_le, -Prod.exists, -Prod.forall, tlen, this]
theorem chi_one {t : Tb} (hw : TW t) {a b c : Nat} (ha : a < t.1) (hb : b < t.1) (hc : c < t.1) (h1 : a ≠ b) (h2 : a ≠ c) (h3 : b ≠ c) : chi t a b c = 1 ∨ chi t a b c = -1 := by
  have hp := pl_lt (sort3_mem ha hb hc h1 h2 h3)
  rw [← hw.len] at hp
  have h4 : t.2.getD (pl t.1 (sort3 a b c)) 0 ∈ t.2 := by
    rw [List.getD_eq_getElem?_getD, List.getElem?_eq_getElem hp]; exact List.getElem_mem hp
  have h5 := hw.one _ h4
  unfold chi
  rcases sg3_one a b c with e | e <;> rcases h5 with f | f <;> rw [e, f] <;> simp
theorem ren_mk (t : Tb) (o : List Nat) : ren t o = mkT o.length (fun a b c => chi t (nth o a) (nth o b) (nth o c)) := rfl
theorem ren_Alt {t : Tb} {o : List Nat} (hd : o.Nodup) (ho : ∀ x ∈ o, x < t.1) : Alt o.length (fun a b c => chi t (nth o a) (nth o b) (nth o c)) :=
  (chi_Alt t).comp (nth o) (fun a ha => nth_lt ho ha) (fun a b ha hb hne => nth_ne hd ha hb hne)
theorem ren_TW {t : Tb} {o : List Nat} (hw : TW t) (hd : o.Nodup) (ho : ∀ x ∈ o, x < t.1) (h3 : 3 ≤ o.length) (h9 : o.length ≤ 9) : TW (ren t o) := by
  rw [ren_mk]
  refine mkT_TW h3 h9 fun a b c q1 q2 q3 => chi_one hw (nth_lt ho (by omega)) (nth_lt ho (by omega)) (nth_lt ho q3) (nth_ne hd (by omega) (by omega) (by omega)) (nth_ne hd (by omega) (by omega) (by omega)) (nth_ne hd (by omega) (by omega) (by omega))
theorem ren_chi {t : Tb} {o : List Nat} (hd : o.Nodup) (ho : ∀ x ∈ o, x < t.1) {a b c : Nat} (ha : a < o.length) (hb : b < o.length) (hc : c < o.length) (h1 : a ≠ b) (h2 : a ≠ c) (h3 : b ≠ c) : chi (ren t o) a b c = chi t (nth o a) (nth o b) (nth o c) := chi_mk (ren_Alt hd ho) ha hb hc h1 h2 h3
theorem nth_map {o : List Nat} {f : Nat → Nat} {k : Nat} (h : k < o.length) : nth (o.map f) k = f (nth o k) := by
  rw [← nth_get (by simpa using h), List.getElem_map, nth_get]
/-- renamed twice is renamed by both -/
theorem ren_ren {t : Tb} {o p : List Nat} (hd : o.Nodup) (ho : ∀ x ∈ o, x < t.1) (hp : p.Perm (List.range o.length)) : ren (ren t o) p = ren t (p.map (nth o)) := by
  have hl := perm_len hp
  rw [ren_mk (ren t o), ren_mk t (p.map (nth o)), List.length_map]
  refine mkT_congr fun a b c q1 q2 q3 => ?_
  show chi (ren t o) _ _ _ = _
  have la : ∀ x, x < p.length → nth p x < o.length := fun x hx => perm_mem hp |>.mp (nth_mem hx)
  rw [ren_chi hd ho (la a (by omega)) (la b (by omega)) (la c q3) (nth_ne (perm_nd hp) (by omega) (by omega) (by omega)) (nth_ne (perm_nd hp) (by omega) (by omega) (by omega)) (nth_ne (perm_nd hp) (by omega) (by omega) (by omega)), nth_map (by omega), nth_map (by omega), nth_map q3]
theorem plain_tv {t : Tb} (hw : TW t) : plainV (tv t) = true := by
  have := hw.sl
  simp [tv, eTZ, plainV, plainVs, SL] at this ⊢
  exact ⟨this, plainVs_map fun _ => rfl⟩
theorem dep_tv (t : Tb) : vdepth (tv t) ≤ 2 := by
  simp [tv, eTZ, vdepths_intZ]
theorem is_tv {n : Nat} {t : Tb} {h : LH} (hw : TW t) (hn : 3 ≤ n) : callIn (Cn n) i_law_is [tv t, tv t] h = .ok (.bl true) h := is_c 2 (dep_tv t) (plain_tv hw) hn
theorem is_int {n : Nat} {z : Int} {h : LH} (hn : 1 ≤ n) : callIn (Cn n) i_law_is [.int z, .int z] h = .ok (.bl true) h := is_c 0 (by simp) rfl hn
/-- what a name keeps behind a block -/
def keep (o : Option Val) : Option Val := o.bind fun v => if below 0 (refsOf v) then some v else none
theorem leave_0 (σ : Env) (h : LH) : leave 0 σ h = .nx (σ.map keep) [] := by
  simp only [leave, List.take_zero, List.all_nil, if_true]; rfl
@[simp] theorem keep_none : keep none = none := rfl
theorem keep_no {v : Val} (h : noRef v = true) : keep (some v) = some v := by
  simp [keep, refsOf_no v h, below]
theorem nodup_map {α β : Type} {f : α → β} {l : List α} (h : l.Nodup) (hf : ∀ x y, x ∈ l → y ∈ l → f x = f y → x = y) : (l.map f).Nodup := by
  unfold List.Nodup at h ⊢
  rw [List.pairwise_map]
  exact h.imp_of_mem fun hx hy hne e => hne (hf _ _ hx hy e)
end L
@[simp] theorem cut_lits {α : Type} (xs : List α) (j k : Nat) : cutL xs (some (no_index (@OfNat.ofNat Int j instOfNat))) (some (no_index (@OfNat.ofNat Int k instOfNat))) = (xs.drop j).take (k - j) := cut_both xs j k
end PI

/-! Right tables: no four and no five things gainsay one another. What a sweep shows is right. -/
namespace PI
namespace L
abbrev F3 := Nat → Nat → Nat → Int
def Four (F : F3) (a b c d : Nat) : Prop := F a b d = - F a b c ∧ F a c d = F a b c ∧ F b c d = - F a b c
def Five (F : F3) (x a b c d : Nat) : Prop := F x a b * F x c d = F x a c * F x d b ∧ F x a c * F x d b = F x a d * F x b c
instance (F : F3) (a b c d : Nat) : Decidable (Four F a b c d) := by unfold Four; infer_instance
instance (F : F3) (x a b c d : Nat) : Decidable (Five F x a b c d) := by unfold Five; infer_instance
structure D4 (n a b c d : Nat) : Prop where
  pa : a < n
  pb : b < n
  pc : c < n
  pd : d < n
  ab : a ≠ b
  ac : a ≠ c
  ad : a ≠ d
  bc : b ≠ c
  bd : b ≠ d
  cd : c ≠ d
structure CC (n : Nat) (F : F3) : Prop where
  alt : Alt n F
  one : ∀ a b c, a < n → b < n → c < n → a ≠ b → a ≠ c → b ≠ c → F a b c = 1 ∨ F a b c = -1
  four : ∀ a b c d, D4 n a b c d → ¬ Four F a b c d
  five : ∀ x a b c d, D4 n a b c d → x < n → x ≠ a → x ≠ b → x ≠ c → x ≠ d → ¬ Five F x a b c d
/-- what holds of four things in some order holds of them rising, if neighbours may be exchanged -/
theorem sort4 {P : Nat → Nat → Nat → Nat → Prop} {n : Nat} (h12 : ∀ a b c d, D4 n a b c d → P a b c d → P b a c d) (h23 : ∀ a b c d, D4 n a b c d → P a b c d → P a c b d) (h34 : ∀ a b c d, D4 n a b c d → P a b c d → P a b d c)
    {a b c d : Nat} (D : D4 n a b c d) (p : P a b c d) : ∃ i j k l, i < j ∧ j < k ∧ k < l ∧ l < n ∧ P i j k l ∧ (∀ x, x ≠ a → x ≠ b → x ≠ c → x ≠ d → x ≠ i ∧ x ≠ j ∧ x ≠ k ∧ x ≠ l) := by
  have key : ∀ m a b c d, D4 n a b c d → P a b c d → 3 * a + 2 * b + c ≤ m → ∃ i j k l, i < j ∧ j < k ∧ k < l ∧ l < n ∧ P i j k l ∧ (∀ x, x ≠ a → x ≠ b → x ≠ c → x ≠ d → x ≠ i ∧ x ≠ j ∧ x ≠ k ∧ x ≠ l) := by
    intro m
    induction m with
    | zero =>
      intro a b c d D p h
      have := D.ab; omega
    | succ m ih =>
      intro a b c d D p h
      have := D.ab
      have := D.bc
      have := D.cd
      by_cases h1 : b < a
      · obtain ⟨i, j, k, l, q1, q2, q3, q4, q5, q6⟩ := ih b a c d ⟨D.pb, D.pa, D.pc, D.pd, D.ab.symm, D.bc, D.bd, D.ac, D.ad, D.cd⟩ (h12 _ _ _ _ D p) (by omega)
        exact ⟨i, j, k, l, q1, q2, q3, q4, q5, fun x x1 x2 x3 x4 => q6 x x2 x1 x3 x4⟩
      · by_cases h2 : c < b
        · obtain ⟨i, j, k, l, q1, q2, q3, q4, q5, q6⟩ := ih a c b d ⟨D.pa, D.pc, D.pb, D.pd, D.ac, D.ab, D.ad, D.bc.symm, D.cd, D.bd⟩ (h23 _ _ _ _ D p) (by omega)
          exact ⟨i, j, k, l, q1, q2, q3, q4, q5, fun x x1 x2 x3 x4 => q6 x x1 x3 x2 x4⟩
        · by_cases h3 : d < c
          · obtain ⟨i, j, k, l, q1, q2, q3, q4, q5, q6⟩ := ih a b d c ⟨D.pa, D.pb, D.pd, D.pc, D.ab, D.ad, D.ac, D.bd, D.bc, D.cd.symm⟩ (h34 _ _ _ _ D p) (by omega)
            exact ⟨i, j, k, l, q1, q2, q3, q4, q5, fun x x1 x2 x3 x4 => q6 x x1 x2 x4 x3⟩
          · exact ⟨a, b, c, d, by omega, by omega, by omega, D.pd, p, fun x x1 x2 x3 x4 => ⟨x1, x2, x3, x4⟩⟩
  exact key _ a b c d D p (Nat.le_refl _)
section
variable {n : Nat} {F : F3} (A : Alt n F)
include A
theorem four_12 {a b c d : Nat} (D : D4 n a b c d) (h : Four F a b c d) : Four F b a c d := by
  obtain ⟨h1, h2, h3⟩ := h
  have e1 := A.s12 a b c D.pa D.pb D.pc D.ab D.ac D.bc
  have e2 := A.s12 a b d D.pa D.pb D.pd D.ab D.ad D.bd
  refine ⟨?_, ?_, ?_⟩ <;> omega
theorem four_23 {a b c d : Nat} (D : D4 n a b c d) (h : Four F a b c d) : Four F a c b d := by
  obtain ⟨h1, h2, h3⟩ := h
  have e1 := A.s23 a b c D.pa D.pb D.pc D.ab D.ac D.bc
  have e2 := A.s12 b c d D.pb D.pc D.pd D.bc D.bd D.cd
  refine ⟨?_, ?_, ?_⟩ <;> omega
theorem four_34 {a b c d : Nat} (D : D4 n a b c d) (h : Four F a b c d) : Four F a b d c := by
  obtain ⟨h1, h2, h3⟩ := h
  have e1 := A.s23 a c d D.pa D.pc D.pd D.ac D.ad D.cd
  have e2 := A.s23 b c d D.pb D.pc D.pd D.bc D.bd D.cd
  refine ⟨?_, ?_, ?_⟩ <;> omega
theorem five_12 {x a b c d : Nat} (D : D4 n a b c d) (hx : x < n) (xa : x ≠ a) (xb : x ≠ b) (xc : x ≠ c) (xd : x ≠ d) (h : Five F x a b c d) : Five F x b a c d := by
  obtain ⟨h1, h2⟩ := h
  have e1 := A.s23 x a b hx D.pa D.pb xa xb D.ab
  have e2 := A.s23 x d a hx D.pd D.pa xd xa D.ad.symm
  have e3 := A.s23 x d b hx D.pd D.pb xd xb D.bd.symm
  refine ⟨?_, ?_⟩
  · rw [e1, show F x d a = - F x a d by rw [A.s23 x a d hx D.pa D.pd xa xd D.ad]]
    simp only [Int.neg_mul, Int.mul_neg]
    rw [h1, h2, Int.mul_comm]
  · rw [show F x d a = - F x a d by rw [A.s23 x a d hx D.pa D.pd xa xd D.ad], show F x b d = - F x d b by rw [e3]]
    simp only [Int.neg_mul, Int.mul_neg]
    rw [Int.mul_comm (F x b c), ← h2, Int.mul_comm]
theorem five_23 {x a b c d : Nat} (D : D4 n a b c d) (hx : x < n) (xa : x ≠ a) (xb : x ≠ b) (xc : x ≠ c) (xd : x ≠ d) (h : Five F x a b c d) : Five F x a c b d := by
  obtain ⟨h1, h2⟩ := h
  have e1 := A.s23 x b c hx D.pb D.pc xb xc D.bc
  have e2 := A.s23 x d b hx D.pd D.pb xd xb D.bd.symm
  have e3 := A.s23 x c d hx D.pc D.pd xc xd D.cd
  refine ⟨?_, ?_⟩
  · rw [e2, e3]
    simp only [Int.neg_mul, Int.mul_neg]
    rw [h1]
  · rw [e3, e1]
    simp only [Int.neg_mul, Int.mul_neg]
    rw [h1, h2]
theorem five_34 {x a b c d : Nat} (D : D4 n a b c d) (hx : x < n) (xa : x ≠ a) (xb : x ≠ b) (xc : x ≠ c) (xd : x ≠ d) (h : Five F x a b c d) : Five F x a b d c := by
  obtain ⟨h1, h2⟩ := h
  have e1 := A.s23 x b c hx D.pb D.pc xb xc D.bc
  have e2 := A.s23 x d b hx D.pd D.pb xd xb D.bd.symm
  have e3 := A.s23 x c d hx D.pc D.pd xc xd D.cd
  refine ⟨?_, ?_⟩
  · rw [e3, e1]
    simp only [Int.neg_mul, Int.mul_neg]
    rw [h1, h2]
  · rw [e1, e2]
    simp only [Int.neg_mul, Int.mul_neg]
    rw [h2]
end
/-- a sign -/
def sb (b : Bool) : Int := if b then 1 else -1
theorem sb_of {z : Int} (h : z = 1 ∨ z = -1) : ∃ b, z = sb b := by
  rcases h with h | h
  · exact ⟨true, h⟩
  · exact ⟨false, h⟩
/-- at most one change -/
def once (a b c d : Bool) : Bool := !(a != b && b != c) && !(b != c && c != d) && !(a != b && c != d)
theorem once_of {a b c d : Bool} (h : (sb a ≥ sb b ∧ sb b ≥ sb c ∧ sb c ≥ sb d) ∨ (sb a ≤ sb b ∧ sb b ≤ sb c ∧ sb c ≤ sb d)) : once a b c d = true := by
  revert h; cases a <;> cases b <;> cases c <;> cases d <;> decide
def bs : List Bool := [true, false]
theorem bs_all {p : Bool → Bool} (h : bs.all p = true) (b : Bool) : p b = true := List.all_eq_true.mp h b (by cases b <;> simp [bs])
def eqI (a b : Int) : Bool := decide (a = b)
theorem five_k : (bs.all fun a => bs.all fun b => bs.all fun c => bs.all fun d => bs.all fun e => bs.all fun f => bs.all fun g => bs.all fun h => bs.all fun i => bs.all fun j =>
    !(once a b d g && once a c e h && once b c f i && once d e f j && once g h i j) ||
    (!(eqI (sb a * sb f) (sb b * - sb e) && eqI (sb b * - sb e) (sb c * sb d)) &&
    !(eqI (- sb a * sb i) (- sb b * - sb h) && eqI (- sb b * - sb h) (- sb c * sb g)) &&
    !(eqI (sb a * sb j) (- sb d * sb h) && eqI (- sb d * sb h) (- sb e * - sb g)) &&
    !(eqI (sb b * - sb j) (sb d * sb i) && eqI (sb d * sb i) (- sb f * sb g)) &&
    !(eqI (sb c * sb j) (sb e * - sb i) && eqI (sb e * - sb i) (sb f * sb h)))) = true := by decide +kernel
section
variable {g : F3} {a b c : Nat} (h1 : a < b) (h2 : b < c)
include h1 h2
theorem alt_abc : alt g a b c = g a b c := by
  unfold alt sort3 sg3
  simp [h1, h2, show ¬ b < a by omega, show ¬ c < a by omega, show ¬ c < b by omega]
theorem alt_bac : alt g b a c = - g a b c := by rw [alt_12 g (by omega) (by omega) (by omega), alt_abc h1 h2]
theorem alt_acb : alt g a c b = - g a b c := by rw [alt_23 g (by omega) (by omega) (by omega), alt_abc h1 h2]
theorem alt_bca : alt g b c a = g a b c := by rw [alt_23 g (by omega) (by omega) (by omega), alt_bac h1 h2, Int.neg_neg]
theorem alt_cab : alt g c a b = g a b c := by rw [alt_12 g (by omega) (by omega) (by omega), alt_acb h1 h2, Int.neg_neg]
theorem alt_cba : alt g c b a = - g a b c := by rw [alt_12 g (by omega) (by omega) (by omega), alt_bca h1 h2]
end
theorem Mono.one {m : Nat} {g : F3} (M : Mono m g) {a b c : Nat} (ha : a < m) (hb : b < m) (hc : c < m) (h1 : a ≠ b) (h2 : a ≠ c) (h3 : b ≠ c) : alt g a b c = 1 ∨ alt g a b c = -1 := by
  have l := sort3_lt h1 h2 h3
  have x := sort3_mx ha hb hc
  have g1 := M.1 _ _ _ l.1 l.2 x
  have s1 := sg3_one a b c
  unfold alt
  rcases g1 with g1 | g1 <;> rcases s1 with s1 | s1 <;> rw [g1, s1] <;> simp
/-- the five ways to be the odd one among five rising things -/
theorem Mono.fives {m : Nat} {g : F3} (M : Mono m g) {p q r s t : Nat} (h1 : p < q) (h2 : q < r) (h3 : r < s) (h4 : s < t) (h5 : t < m) :
    ¬ Five (alt g) p q r s t ∧ ¬ Five (alt g) q p r s t ∧ ¬ Five (alt g) r p q s t ∧ ¬ Five (alt g) s p q r t ∧ ¬ Five (alt g) t p q r s := by
  obtain ⟨a, ea⟩ := sb_of (M.1 p q r (by omega) (by omega) (by omega))
  obtain ⟨b, eb⟩ := sb_of (M.1 p q s (by omega) (by omega) (by omega))
  obtain ⟨c, ec⟩ := sb_of (M.1 p q t (by omega) (by omega) (by omega))
  obtain ⟨d, ed⟩ := sb_of (M.1 p r s (by omega) (by omega) (by omega))
  obtain ⟨e, ee⟩ := sb_of (M.1 p r t (by omega) (by omega) (by omega))
  obtain ⟨f, ef⟩ := sb_of (M.1 p s t (by omega) (by omega) (by omega))
  obtain ⟨g', eg⟩ := sb_of (M.1 q r s (by omega) (by omega) (by omega))
  obtain ⟨h, eh⟩ := sb_of (M.1 q r t (by omega) (by omega) (by omega))
  obtain ⟨i, ei⟩ := sb_of (M.1 q s t (by omega) (by omega) (by omega))
  obtain ⟨j, ej⟩ := sb_of (M.1 r s t (by omega) (by omega) (by omega))
  have m1 := M.2 p q r s h1 h2 h3 (by omega)
  have m2 := M.2 p q r t h1 h2 (by omega) (by omega)
  have m3 := M.2 p q s t h1 (by omega) h4 h5
  have m4 := M.2 p r s t (by omega) h3 h4 h5
  have m5 := M.2 q r s t h2 h3 h4 h5
  rw [ea, eb, ed, eg] at m1
  rw [ea, ec, ee, eh] at m2
  rw [eb, ec, ef, ei] at m3
  rw [ed, ee, ef, ej] at m4
  rw [eg, eh, ei, ej] at m5
  have K := bs_all (bs_all (bs_all (bs_all (bs_all (bs_all (bs_all (bs_all (bs_all (bs_all five_k a) b) c) d) e) f) g') h) i) j
  simp only [once_of m1, once_of m2, once_of m3, once_of m4, once_of m5, Bool.and_self, Bool.not_true, Bool.false_or, Bool.and_eq_true, Bool.not_eq_true', Bool.and_eq_false_iff, eqI, decide_eq_false_iff_not] at K
  unfold Five
  rw [alt_abc h1 h2, alt_abc h1 (by omega : q < s), alt_abc h1 (by omega : q < t), alt_abc (by omega : p < r) h3, alt_acb (by omega : p < r) (by omega : r < t), alt_abc (by omega : p < s) h4,
    alt_bac h1 h2, alt_bac h1 (by omega : q < s), alt_bac h1 (by omega : q < t), alt_abc h2 h3, alt_acb h2 (by omega : r < t), alt_abc (by omega : q < s) h4,
    alt_cab h1 h2, alt_bac (by omega : p < r) h3, alt_bac (by omega : p < r) (by omega : r < t), alt_bac h2 h3, alt_bca h2 (by omega : r < t), alt_abc h3 h4,
    alt_cab h1 (by omega : q < s), alt_cab (by omega : p < r) h3, alt_bac (by omega : p < s) h4, alt_cab h2 h3, alt_bca (by omega : q < s) h4, alt_bac h3 h4,
    alt_cab h1 (by omega : q < t), alt_cab (by omega : p < r) (by omega : r < t), alt_cab (by omega : p < s) h4, alt_cab h2 (by omega : r < t), alt_cba (by omega : q < s) h4, alt_cab h3 h4]
  rw [ea, eb, ec, ed, ee, ef, eg, eh, ei, ej]
  refine ⟨?_, ?_, ?_, ?_, ?_⟩ <;> (rintro ⟨z1, z2⟩; rcases K with ⟨⟨⟨⟨k1, k2⟩, k3⟩, k4⟩, k5⟩)
  · rcases k1 with k | k <;> exact k (by assumption)
  · rcases k2 with k | k <;> exact k (by assumption)
  · rcases k3 with k | k <;> exact k (by assumption)
  · rcases k4 with k | k <;> exact k (by assumption)
  · rcases k5 with k | k <;> exact k (by assumption)
/-- by a way of at most one change no things gainsay one another -/
theorem Mono.cc {m : Nat} {g : F3} (M : Mono m g) : CC m (alt g) := by
  have A := alt_Alt g m
  refine ⟨A, fun a b c ha hb hc h1 h2 h3 => M.one ha hb hc h1 h2 h3, fun a b c d D h => ?_, fun x a b c d D hx xa xb xc xd h => ?_⟩
  · obtain ⟨i, j, k, l, q1, q2, q3, q4, ⟨z1, z2, z3⟩, _⟩ := sort4 (P := Four (alt g)) (n := m) (fun _ _ _ _ D h => four_12 A D h) (fun _ _ _ _ D h => four_23 A D h) (fun _ _ _ _ D h => four_34 A D h) D h
    rw [alt_abc q1 q2, alt_abc q1 (by omega)] at z1
    rw [alt_abc q1 q2, alt_abc (by omega) q3] at z2
    rw [alt_abc q1 q2, alt_abc q2 q3] at z3
    have := M.1 i j k q1 q2 (by omega)
    have := M.2 i j k l q1 q2 q3 q4
    omega
  · have key := sort4 (P := fun a b c d => (x ≠ a ∧ x ≠ b ∧ x ≠ c ∧ x ≠ d) ∧ Five (alt g) x a b c d) (n := m)
      (fun a b c d D h => ⟨⟨h.1.2.1, h.1.1, h.1.2.2.1, h.1.2.2.2⟩, five_12 A D hx h.1.1 h.1.2.1 h.1.2.2.1 h.1.2.2.2 h.2⟩)
      (fun a b c d D h => ⟨⟨h.1.1, h.1.2.2.1, h.1.2.1, h.1.2.2.2⟩, five_23 A D hx h.1.1 h.1.2.1 h.1.2.2.1 h.1.2.2.2 h.2⟩)
      (fun a b c d D h => ⟨⟨h.1.1, h.1.2.1, h.1.2.2.2, h.1.2.2.1⟩, five_34 A D hx h.1.1 h.1.2.1 h.1.2.2.1 h.1.2.2.2 h.2⟩) D ⟨⟨xa, xb, xc, xd⟩, h⟩
    obtain ⟨i, j, k, l, q1, q2, q3, q4, ⟨⟨z1, z2, z3, z4⟩, z5⟩, _⟩ := key
    by_cases c1 : x < i
    · exact (M.fives c1 q1 q2 q3 q4).1 z5
    · by_cases c2 : x < j
      · exact (M.fives (by omega) c2 q2 q3 q4).2.1 z5
      · by_cases c3 : x < k
        · exact (M.fives q1 (by omega) c3 q3 q4).2.2.1 z5
        · by_cases c4 : x < l
          · exact (M.fives q1 q2 (by omega) c4 q4).2.2.2.1 z5
          · exact (M.fives q1 q2 q3 (by omega) hx).2.2.2.2 z5
theorem CC.comp {n m : Nat} {F : F3} (h : CC m F) (p : Nat → Nat) (hp : ∀ a, a < n → p a < m) (hi : ∀ a b, a < n → b < n → a ≠ b → p a ≠ p b) : CC n (fun a b c => F (p a) (p b) (p c)) := by
  have DD : ∀ {a b c d : Nat}, D4 n a b c d → D4 m (p a) (p b) (p c) (p d) := fun D => ⟨hp _ D.pa, hp _ D.pb, hp _ D.pc, hp _ D.pd, hi _ _ D.pa D.pb D.ab, hi _ _ D.pa D.pc D.ac, hi _ _ D.pa D.pd D.ad, hi _ _ D.pb D.pc D.bc, hi _ _ D.pb D.pd D.bd, hi _ _ D.pc D.pd D.cd⟩
  exact ⟨h.alt.comp p hp hi, fun a b c ha hb hc h1 h2 h3 => h.one _ _ _ (hp _ ha) (hp _ hb) (hp _ hc) (hi _ _ ha hb h1) (hi _ _ ha hc h2) (hi _ _ hb hc h3), fun a b c d D => h.four _ _ _ _ (DD D), fun x a b c d D hx xa xb xc xd => h.five _ _ _ _ _ (DD D) (hp _ hx) (hi _ _ hx D.pa xa) (hi _ _ hx D.pb xb) (hi _ _ hx D.pc xc) (hi _ _ hx D.pd xd)⟩
theorem CC.congr {n : Nat} {F F' : F3} (h : CC n F) (e : ∀ a b c, a < n → b < n → c < n → a ≠ b → a ≠ c → b ≠ c → F' a b c = F a b c) : CC n F' := by
  refine ⟨⟨fun a b c ha hb hc h1 h2 h3 => ?_, fun a b c ha hb hc h1 h2 h3 => ?_⟩, fun a b c ha hb hc h1 h2 h3 => ?_, fun a b c d D z => ?_, fun x a b c d D hx xa xb xc xd z => ?_⟩
  · rw [e b a c hb ha hc h1.symm h3 h2, e a b c ha hb hc h1 h2 h3]; exact h.alt.s12 a b c ha hb hc h1 h2 h3
  · rw [e a c b ha hc hb h2 h1 h3.symm, e a b c ha hb hc h1 h2 h3]; exact h.alt.s23 a b c ha hb hc h1 h2 h3
  · rw [e a b c ha hb hc h1 h2 h3]; exact h.one a b c ha hb hc h1 h2 h3
  · refine h.four a b c d D ?_
    unfold Four at z ⊢
    rw [e a b d D.pa D.pb D.pd D.ab D.ad D.bd, e a b c D.pa D.pb D.pc D.ab D.ac D.bc, e a c d D.pa D.pc D.pd D.ac D.ad D.cd, e b c d D.pb D.pc D.pd D.bc D.bd D.cd] at z
    exact z
  · refine h.five x a b c d D hx xa xb xc xd ?_
    unfold Five at z ⊢
    rw [e x a b hx D.pa D.pb xa xb D.ab, e x c d hx D.pc D.pd xc xd D.cd, e x a c hx D.pa D.pc xa xc D.ac, e x d b hx D.pd D.pb xd xb D.bd.symm, e x a d hx D.pa D.pd xa xd D.ad, e x b c hx D.pb D.pc xb xc D.bc] at z
    exact z
/-- a table without a lie -/
def Rt (t : Tb) : Prop := CC t.1 (chi t)
theorem Swept.right {t : Tb} (h : Swept t) : Rt t := by
  obtain ⟨O, g, hO, M, e⟩ := h
  have hl := perm_len hO
  have C := (M.cc).comp (n := t.1) O.idxOf (fun a ha => by have := perm_lt hO ha; omega) (fun a b ha hb hne => idx_ne (perm_mem hO |>.mpr ha) (perm_mem hO |>.mpr hb) hne)
  exact C.congr e
end L
end PI

/-! Lies: what the program tells, what the laws tell. -/
namespace PI
namespace L
theorem fours_k : (List.range 10).all (fun n => okIs (Cn 3 i_fours_of [eN n] []) (.lst ((fours n).map e4))) = true := by decide +kernel
theorem lfours_k : (List.range 10).all (fun n => okIs (Cn 2 i_law_fours [eN n] []) (.lst ((fours n).map e4))) = true := by decide +kernel
theorem c_fours {n m : Nat} {h : LH} (hm : m ≤ 9) (hn : 3 ≤ n) : callIn (Cn n) i_fours_of [eN m] h = .ok (.lst ((fours m).map e4)) h := by
  have q := of_k (n := m) fours_k (by omega)
  exact pure_of (k := 3) hn (okIs_eq q) rfl (by simp)
theorem c_lfours {n m : Nat} {h : LH} (hm : m ≤ 9) (hn : 2 ≤ n) : callIn (Cn n) i_law_fours [eN m] h = .ok (.lst ((fours m).map e4)) h := by
  have q := of_k (n := m) lfours_k (by omega)
  exact pure_of (k := 2) hn (okIs_eq q) rfl (by simp)
theorem fours_len_k : (List.range 11).all (fun n => decide ((fours n).length ≤ 210)) = true := by decide +kernel
theorem fours_len {n : Nat} (h : n ≤ 10) : (fours n).length ≤ 210 := of_decide_eq_true (of_k (n := n) fours_len_k (by omega))
theorem mulOk_one {i j : Int} (h : i = 1 ∨ i = -1) : mulOk i j = true := mulOk_sm (by omega)
theorem D4.of {n a b c d : Nat} (h : (a, b, c, d) ∈ fours n) : D4 n a b c d := by
  obtain ⟨h1, h2, h3, h4⟩ := mem_fours.mp h
  constructor <;> omega
/-- four things that gainsay one another, as it is looked at -/
def badF (t : Tb) (p : Nat × Nat × Nat × Nat) : Bool := decide (Four (chi t) p.1 p.2.1 p.2.2.1 p.2.2.2)
def badX (t : Tb) (x : Nat) (p : Nat × Nat × Nat × Nat) : Bool := decide (Five (chi t) x p.1 p.2.1 p.2.2.1 p.2.2.2)
def outX (x : Nat) (p : Nat × Nat × Nat × Nat) : Bool := decide (x ≠ p.1 ∧ x ≠ p.2.1 ∧ x ≠ p.2.2.1 ∧ x ≠ p.2.2.2)
theorem c_four {n : Nat} {t : Tb} {p : Nat × Nat × Nat × Nat} {h : LH} (hw : TW t) (hp : D4 t.1 p.1 p.2.1 p.2.2.1 p.2.2.2) (hn : 3 ≤ n) : callIn (Cn n) i_is_four_right [tv t, e4 p] h = .ok (.bl (!badF t p)) h := by
  obtain ⟨a, b, c, d⟩ := p
  simp only at hp
  refine pure_of (k := 3) hn ?_ (by simp) (by simp)
  rw [show 3 = 2 + 1 from rfl, Cn_eq d_is_four_right rfl rfl]
  have o1 := chi_one hw hp.pa hp.pb hp.pc hp.ab hp.ac hp.bc
  have o2 := chi_one hw hp.pa hp.pb hp.pd hp.ab hp.ad hp.bd
  have o3 := chi_one hw hp.pa hp.pc hp.pd hp.ac hp.ad hp.cd
  have o4 := chi_one hw hp.pb hp.pc hp.pd hp.bc hp.bd hp.cd
  simp -implicitDefEqProofs (maxDischargeDepth := 12) [SL, ev.asgN, wipe, getIx_tup, getIx_lst, getIx_ftup, getIx_ref, fin_rt0, fin_nx0, Function.comp_def, Nat.max_le, -Prod.exists, -Prod.forall, d_is_four_right, e4, tlen, c_side hw hp.pa hp.pb hp.pc hp.ab hp.ac hp.bc, c_side hw hp.pa hp.pb hp.pd hp.ab hp.ad hp.bd, c_side hw hp.pa hp.pc hp.pd hp.ac hp.ad hp.cd, c_side hw hp.pb hp.pc hp.pd hp.bc hp.bd hp.cd, badF, Four]
  rcases o1 with o1 | o1 <;> rcases o2 with o2 | o2 <;> rcases o3 with o3 | o3 <;> rcases o4 with o4 | o4 <;> simp [o1, o2, o3, o4]
theorem c_five {n : Nat} {t : Tb} {x : Nat} {p : Nat × Nat × Nat × Nat} {h : LH} (hw : TW t) (hp : D4 t.1 p.1 p.2.1 p.2.2.1 p.2.2.2) (hx : x < t.1) (x1 : x ≠ p.1) (x2 : x ≠ p.2.1) (x3 : x ≠ p.2.2.1) (x4 : x ≠ p.2.2.2) (hn : 3 ≤ n) : callIn (Cn n) i_is_five_right [tv t, eN x, e4 p] h = .ok (.bl (!badX t x p)) h := by
  obtain ⟨a, b, c, d⟩ := p
  simp only at hp x1 x2 x3 x4
  refine pure_of (k := 3) hn ?_ (by simp) (by simp)
  rw [show 3 = 2 + 1 from rfl, Cn_eq d_is_five_right rfl rfl]
  have o1 := chi_one hw hx hp.pa hp.pb x1 x2 hp.ab
  have o2 := chi_one hw hx hp.pa hp.pc x1 x3 hp.ac
  have o3 := chi_one hw hx hp.pa hp.pd x1 x4 hp.ad
  simp -implicitDefEqProofs (maxDischargeDepth := 12) [SL, ev.asgN, wipe, getIx_tup, getIx_lst, getIx_ftup, getIx_ref, fin_rt0, fin_nx0, Function.comp_def, Nat.max_le, -Prod.exists, -Prod.forall, d_is_five_right, e4, tlen, c_side hw hx hp.pa hp.pb x1 x2 hp.ab, c_side hw hx hp.pc hp.pd x3 x4 hp.cd, c_side hw hx hp.pa hp.pc x1 x3 hp.ac, c_side hw hx hp.pd hp.pb x4 x2 hp.bd.symm, c_side hw hx hp.pa hp.pd x1 x4 hp.ad, c_side hw hx hp.pb hp.pc x2 x3 hp.bc, mulOk_one o1, mulOk_one o2, mulOk_one o3, badX, Five]
  by_cases e1 : chi t x a b * chi t x c d = chi t x a c * chi t x d b
  · by_cases e2 : chi t x a c * chi t x d b = chi t x a d * chi t x b c
    · simp -implicitDefEqProofs (maxDischargeDepth := 12) [SL, ev.asgN, wipe, getIx_tup, getIx_lst, getIx_ftup, getIx_ref, fin_rt0, fin_nx0, Function.comp_def, Nat.max_le, -Prod.exists, -Prod.forall, e1, e2]
    · simp -implicitDefEqProofs (maxDischargeDepth := 12) [SL, ev.asgN, wipe, getIx_tup, getIx_lst, getIx_ftup, getIx_ref, fin_rt0, fin_nx0, Function.comp_def, Nat.max_le, -Prod.exists, -Prod.forall, e1, e2]
  · simp -implicitDefEqProofs (maxDischargeDepth := 12) [SL, ev.asgN, wipe, getIx_tup, getIx_lst, getIx_ftup, getIx_ref, fin_rt0, fin_nx0, Function.comp_def, Nat.max_le, -Prod.exists, -Prod.forall, e1]
def fourV (p : Nat × Nat × Nat × Nat) : Val := .tup [.str [102, 111, 117, 114], eN p.1, eN p.2.1, eN p.2.2.1, eN p.2.2.2]
def fiveV (x : Nat) (p : Nat × Nat × Nat × Nat) : Val := .tup [.str [102, 105, 118, 101], eN x, eN p.1, eN p.2.1, eN p.2.2.1, eN p.2.2.2]
def fiveAt (t : Tb) (x : Nat) : Option (Nat × Nat × Nat × Nat) := (fours t.1).find? fun p => outX x p && badX t x p
/-- the first lie, or none -/
def lieV (t : Tb) : Val := match (fours t.1).find? (badF t) with
  | some p => fourV p
  | none => match (List.range t.1).find? (fun x => (fiveAt t x).isSome) with
    | some x => (match fiveAt t x with | some p => fiveV x p | none => .non)
    | none => .non
theorem noRef_lie (t : Tb) : noRef (lieV t) = true := by
  unfold lieV
  repeat' split
  all_goals simp [fourV, fiveV]
theorem c_lie {n : Nat} {t : Tb} {h : LH} (hw : TW t) (hn : 4 ≤ n) : callIn (Cn n) i_lie_of [tv t] h = .ok (lieV t) h := by
  refine pure_of (k := 4) hn ?_ (by simp) (noRef_lie t)
  rw [show 4 = 3 + 1 from rfl, Cn_eq d_lie_of rfl rfl]
  generalize hr : fin _ _ = rr
  have h9 := hw.hi
  have g0 : ∀ h : LH, getIx (tv t) (.int 0) h = some (eN t.1) := fun h => rfl
  simp -implicitDefEqProofs (maxDischargeDepth := 12) [SL, ev.asgN, wipe, getIx_tup, getIx_lst, getIx_ftup, getIx_ref, fin_rt0, fin_nx0, Function.comp_def, Nat.max_le, -Prod.exists, -Prod.forall, d_lie_of, g0, c_fours (m := t.1) (show t.1 ≤ 9 by omega)] at hr
  generalize hw1 : forGo _ _ _ _ _ = rs at hr
  have L1 := for_find (enc := e4) (ok := stays []) (f := forB (Cn 3) Gv (.tName 2) (.seq (.ife (.not (.call 34 (.cons (.var 0) (.cons (.var 2) .nil)))) (.seq (.ret (.bin false .add (.tup (.cons (.str [102, 111, 117, 114]) .nil)) (.var 2))) .nil) .nil) .nil))
    (fun σ h => ∃ o2 : Option Val, σ = [some (tv t), some (.lst ((fours t.1).map e4)), o2, none] ∧ h = []) (badF t) fourV (fours t.1) (σ := [some (tv t), some (.lst ((fours t.1).map e4)), none, none]) (h := []) ⟨none, rfl, rfl⟩ (by intros; rfl) (by
      rintro p hp σ h ⟨o2, rfl, rfl⟩
      have hD := D4.of hp
      cases hb : badF t p with
      | true => exact ⟨[], by simp -implicitDefEqProofs (maxDischargeDepth := 12) [SL, ev.asgN, wipe, getIx_tup, getIx_lst, getIx_ftup, getIx_ref, fin_rt0, fin_nx0, Function.comp_def, Nat.max_le, -Prod.exists, -Prod.forall, c_four hw hD, hb]; simp [e4, fourV]⟩
      | false => exact ⟨_, _, by simp -implicitDefEqProofs (maxDischargeDepth := 12) [SL, ev.asgN, wipe, getIx_tup, getIx_lst, getIx_ftup, getIx_ref, fin_rt0, fin_nx0, Function.comp_def, Nat.max_le, -Prod.exists, -Prod.forall, c_four hw hD, hb], some (e4 p), rfl, rfl⟩)
  rw [hw1] at L1
  unfold lieV
  cases hf : (fours t.1).find? (badF t) with
  | some p =>
    rw [hf] at L1
    obtain ⟨h', rfl⟩ := L1
    rw [← hr]
    simp -implicitDefEqProofs (maxDischargeDepth := 12) [SL, ev.asgN, wipe, getIx_tup, getIx_lst, getIx_ftup, getIx_ref, fin_rt0, fin_nx0, Function.comp_def, Nat.max_le, -Prod.exists, -Prod.forall, fourV]
  | none =>
    rw [hf] at L1
    obtain ⟨σ', h', rfl, o2, rfl, rfl⟩ := L1
    have hs : t.1 ≤ SL := by simp only [SL]; omega
    simp -implicitDefEqProofs (maxDischargeDepth := 12) [SL, ev.asgN, wipe, getIx_tup, getIx_lst, getIx_ftup, getIx_ref, fin_rt0, fin_nx0, Function.comp_def, Nat.max_le, -Prod.exists, -Prod.forall, g0, rangeOk_0 t.1 hs, rangeV_0] at hr
    generalize hw2 : forGo _ _ _ _ _ = rs at hr
    have L2 := for_find (enc := eN) (ok := stays []) (f := forB (Cn 3) Gv (.tName 3) (.seq (.for (.tName 2) (.iSeq (.var 1)) (.seq (.ife (.and (.cmp .notIn (.var 3) (.var 2)) (.not (.call 35 (.cons (.var 0) (.cons (.var 3) (.cons (.var 2) .nil)))))) (.seq (.ret (.bin false .add (.tup (.cons (.str [102, 105, 118, 101]) (.cons (.var 3) .nil))) (.var 2))) .nil) .nil) .nil)) .nil))
      (fun σ h => ∃ o2 o3 : Option Val, σ = [some (tv t), some (.lst ((fours t.1).map e4)), o2, o3] ∧ h = []) (fun x => (fiveAt t x).isSome) (fun x => match fiveAt t x with | some p => fiveV x p | none => .non) (List.range t.1) (σ := [some (tv t), some (.lst ((fours t.1).map e4)), o2, none]) (h := []) ⟨o2, none, rfl, rfl⟩ (by intros; rfl) (by
        rintro x hx σ h ⟨o2, o3, rfl, rfl⟩
        rw [List.mem_range] at hx
        generalize hr3 : forB _ _ _ _ _ _ _ = r3
        simp -implicitDefEqProofs (maxDischargeDepth := 12) [SL, ev.asgN, wipe, getIx_tup, getIx_lst, getIx_ftup, getIx_ref, fin_rt0, fin_nx0, Function.comp_def, Nat.max_le, -Prod.exists, -Prod.forall] at hr3
        generalize hw3 : forGo _ _ _ _ _ = rs at hr3
        have L3 := for_find (enc := e4) (ok := stays []) (f := forB (Cn 3) Gv (.tName 2) (.seq (.ife (.and (.cmp .notIn (.var 3) (.var 2)) (.not (.call 35 (.cons (.var 0) (.cons (.var 3) (.cons (.var 2) .nil)))))) (.seq (.ret (.bin false .add (.tup (.cons (.str [102, 105, 118, 101]) (.cons (.var 3) .nil))) (.var 2))) .nil) .nil) .nil))
          (fun σ h => ∃ o2 : Option Val, σ = [some (tv t), some (.lst ((fours t.1).map e4)), o2, some (eN x)] ∧ h = []) (fun p => outX x p && badX t x p) (fiveV x) (fours t.1) (σ := [some (tv t), some (.lst ((fours t.1).map e4)), o2, some (eN x)]) (h := []) ⟨o2, rfl, rfl⟩ (by intros; rfl) (by
            rintro ⟨a, b, c, d⟩ hp σ h ⟨o2, rfl, rfl⟩
            have hD := D4.of hp
            by_cases ho : x ≠ a ∧ x ≠ b ∧ x ≠ c ∧ x ≠ d
            · have e5 := c_five (n := 3) (t := t) (x := x) (p := (a, b, c, d)) (h := []) hw hD hx ho.1 ho.2.1 ho.2.2.1 ho.2.2.2 (by omega)
              have e6 : outX x (a, b, c, d) = true := by simp [outX, ho]
              have q1 : ¬ a = x := fun z => ho.1 z.symm
              have q2 : ¬ b = x := fun z => ho.2.1 z.symm
              have q3 : ¬ c = x := fun z => ho.2.2.1 z.symm
              have q4 : ¬ d = x := fun z => ho.2.2.2 z.symm
              simp only [e4] at e5
              cases hb : badX t x (a, b, c, d) with
              | true =>
                rw [hb] at e5
                simp only [e6, Bool.and_self, if_true]
                exact ⟨[], by simp -implicitDefEqProofs (maxDischargeDepth := 12) [SL, ev.asgN, wipe, getIx_tup, getIx_lst, getIx_ftup, getIx_ref, fin_rt0, fin_nx0, Function.comp_def, Nat.max_le, -Prod.exists, -Prod.forall, e4, q1, q2, q3, q4, e5, fiveV]⟩
              | false =>
                rw [hb] at e5
                simp only [e6, Bool.and_false]
                exact ⟨_, _, by simp -implicitDefEqProofs (maxDischargeDepth := 12) [SL, ev.asgN, wipe, getIx_tup, getIx_lst, getIx_ftup, getIx_ref, fin_rt0, fin_nx0, Function.comp_def, Nat.max_le, -Prod.exists, -Prod.forall, e4, q1, q2, q3, q4, e5], some (e4 (a, b, c, d)), rfl, rfl⟩
            · have e6 : outX x (a, b, c, d) = false := by simp only [outX, decide_eq_false_iff_not]; exact ho
              have q : a = x ∨ b = x ∨ c = x ∨ d = x := by omega
              simp only [e6, Bool.false_and]
              have q' : (!decide (a = x) && (!decide (b = x) && (!decide (c = x) && !decide (d = x)))) = false := by
                rcases q with q | q | q | q <;> simp [q]
              exact ⟨_, _, by simp -implicitDefEqProofs (maxDischargeDepth := 12) [SL, ev.asgN, wipe, getIx_tup, getIx_lst, getIx_ftup, getIx_ref, fin_rt0, fin_nx0, Function.comp_def, Nat.max_le, -Prod.exists, -Prod.forall, e4, q'], some (e4 (a, b, c, d)), rfl, rfl⟩)
        rw [hw3] at L3
        cases hf3 : fiveAt t x with
        | some p =>
          simp only [Option.isSome_some, if_true]
          unfold fiveAt at hf3
          rw [hf3] at L3
          obtain ⟨h', rfl⟩ := L3
          exact ⟨h', by rw [← hr3]; simp -implicitDefEqProofs (maxDischargeDepth := 12) [SL, ev.asgN, wipe, getIx_tup, getIx_lst, getIx_ftup, getIx_ref, fin_rt0, fin_nx0, Function.comp_def, Nat.max_le, -Prod.exists, -Prod.forall]⟩
        | none =>
          simp only [Option.isSome_none]
          unfold fiveAt at hf3
          rw [hf3] at L3
          obtain ⟨σ', h', rfl, o2, rfl, rfl⟩ := L3
          exact ⟨_, _, by rw [← hr3]; simp -implicitDefEqProofs (maxDischargeDepth := 12) [SL, ev.asgN, wipe, getIx_tup, getIx_lst, getIx_ftup, getIx_ref, fin_rt0, fin_nx0, Function.comp_def, Nat.max_le, -Prod.exists, -Prod.forall], o2, some (eN x), rfl, rfl⟩)
    rw [hw2] at L2
    cases hf2 : (List.range t.1).find? (fun x => (fiveAt t x).isSome) with
    | some x =>
      rw [hf2] at L2
      obtain ⟨h', rfl⟩ := L2
      rw [← hr]
      simp only
      split
      · simp -implicitDefEqProofs (maxDischargeDepth := 12) [SL, ev.asgN, wipe, getIx_tup, getIx_lst, getIx_ftup, getIx_ref, fin_rt0, fin_nx0, Function.comp_def, Nat.max_le, -Prod.exists, -Prod.forall, fiveV]
      · simp -implicitDefEqProofs (maxDischargeDepth := 12) [SL, ev.asgN, wipe, getIx_tup, getIx_lst, getIx_ftup, getIx_ref, fin_rt0, fin_nx0, Function.comp_def, Nat.max_le, -Prod.exists, -Prod.forall]
    | none =>
      rw [hf2] at L2
      obtain ⟨σ', h', rfl, o2, o3, rfl, rfl⟩ := L2
      rw [← hr]
      simp -implicitDefEqProofs (maxDischargeDepth := 12) [SL, ev.asgN, wipe, getIx_tup, getIx_lst, getIx_ftup, getIx_ref, fin_rt0, fin_nx0, Function.comp_def, Nat.max_le, -Prod.exists, -Prod.forall]
/-- has a table no lie? -/
def rightB (t : Tb) : Bool := ((fours t.1).find? (badF t)).isNone && ((List.range t.1).find? fun x => (fiveAt t x).isSome).isNone
theorem lie_non {t : Tb} : (match lieV t with | .non => true | _ => false) = rightB t := by
  unfold lieV rightB
  cases h1 : (fours t.1).find? (badF t) with
  | some p => simp [fourV]
  | none =>
    cases h2 : (List.range t.1).find? (fun x => (fiveAt t x).isSome) with
    | none => rfl
    | some x =>
      have := List.find?_some h2
      cases h3 : fiveAt t x with
      | none => rw [h3] at this; cases this
      | some p => simp [h3, fiveV]
theorem lie_eq {t : Tb} (h : rightB t = true) : lieV t = .non := by
  have := lie_non (t := t)
  rw [h] at this
  cases e : lieV t <;> rw [e] at this <;> first | rfl | cases this
theorem lie_tup {t : Tb} (h : rightB t = false) : ∃ l, lieV t = .tup l := by
  unfold rightB at h
  unfold lieV
  cases h1 : (fours t.1).find? (badF t) with
  | some p => exact ⟨_, rfl⟩
  | none =>
    rw [h1] at h
    cases h2 : (List.range t.1).find? (fun x => (fiveAt t x).isSome) with
    | none => rw [h2] at h; cases h
    | some x =>
      have := List.find?_some h2
      cases h3 : fiveAt t x with
      | none => rw [h3] at this; cases this
      | some p => exact ⟨_, by simp only [h3]; rfl⟩
theorem rightB_of {t : Tb} (h : Rt t) : rightB t = true := by
  unfold rightB
  rw [Bool.and_eq_true, Option.isNone_iff_eq_none, Option.isNone_iff_eq_none, List.find?_eq_none, List.find?_eq_none]
  refine ⟨fun p hp => ?_, fun x hx => ?_⟩
  · have := h.four _ _ _ _ (D4.of (a := p.1) (b := p.2.1) (c := p.2.2.1) (d := p.2.2.2) hp)
    simpa [badF] using this
  · rw [Option.isSome_iff_exists]
    rintro ⟨p, hp⟩
    have h1 := List.find?_some hp
    have h2 := List.mem_of_find?_eq_some hp
    simp only [Bool.and_eq_true, outX, badX, decide_eq_true_eq] at h1
    exact h.five _ _ _ _ _ (D4.of (a := p.1) (b := p.2.1) (c := p.2.2.1) (d := p.2.2.2) h2) (by simpa using hx) h1.1.1 h1.1.2.1 h1.1.2.2.1 h1.1.2.2.2 h1.2
/-- a table that is looked through without a lie is right -/
theorem Rt_of {t : Tb} (hw : TW t) (h : rightB t = true) : Rt t := by
  have A := chi_Alt t
  unfold rightB at h
  rw [Bool.and_eq_true, Option.isNone_iff_eq_none, Option.isNone_iff_eq_none, List.find?_eq_none, List.find?_eq_none] at h
  refine ⟨A, fun a b c ha hb hc h1 h2 h3 => chi_one hw ha hb hc h1 h2 h3, fun a b c d D z => ?_, fun x a b c d D hx xa xb xc xd z => ?_⟩
  · obtain ⟨i, j, k, l, q1, q2, q3, q4, q5, _⟩ := sort4 (P := Four (chi t)) (n := t.1) (fun _ _ _ _ D h => four_12 A D h) (fun _ _ _ _ D h => four_23 A D h) (fun _ _ _ _ D h => four_34 A D h) D z
    exact h.1 (i, j, k, l) (mem_fours.mpr ⟨q1, q2, q3, q4⟩) (by simpa [badF] using q5)
  · have key := sort4 (P := fun a b c d => (x ≠ a ∧ x ≠ b ∧ x ≠ c ∧ x ≠ d) ∧ Five (chi t) x a b c d) (n := t.1)
      (fun a b c d D h => ⟨⟨h.1.2.1, h.1.1, h.1.2.2.1, h.1.2.2.2⟩, five_12 A D hx h.1.1 h.1.2.1 h.1.2.2.1 h.1.2.2.2 h.2⟩)
      (fun a b c d D h => ⟨⟨h.1.1, h.1.2.2.1, h.1.2.1, h.1.2.2.2⟩, five_23 A D hx h.1.1 h.1.2.1 h.1.2.2.1 h.1.2.2.2 h.2⟩)
      (fun a b c d D h => ⟨⟨h.1.1, h.1.2.1, h.1.2.2.2, h.1.2.2.1⟩, five_34 A D hx h.1.1 h.1.2.1 h.1.2.2.1 h.1.2.2.2 h.2⟩) D ⟨⟨xa, xb, xc, xd⟩, z⟩
    obtain ⟨i, j, k, l, q1, q2, q3, q4, q5, _⟩ := key
    refine h.2 x (by simpa using hx) ?_
    cases hf : fiveAt t x with
    | some p => rfl
    | none =>
      unfold fiveAt at hf
      rw [List.find?_eq_none] at hf
      exact absurd (by simp only [outX, badX, Bool.and_eq_true, decide_eq_true_eq]; exact q5) (hf (i, j, k, l) (mem_fours.mpr ⟨q1, q2, q3, q4⟩))
theorem c_isright {n : Nat} {t : Tb} {h : LH} (hw : TW t) (hn : 5 ≤ n) : callIn (Cn n) i_is_right [tv t] h = .ok (.bl (rightB t)) h := by
  refine pure_of (k := 5) hn ?_ (by simp) (by simp)
  rw [show 5 = 4 + 1 from rfl, Cn_eq d_is_right rfl rfl]
  have e := c_lie (n := 4) (h := []) hw (by omega)
  cases hb : rightB t with
  | true => rw [lie_eq hb] at e; simp -implicitDefEqProofs (maxDischargeDepth := 12) [SL, ev.asgN, wipe, getIx_tup, getIx_lst, getIx_ftup, getIx_ref, fin_rt0, fin_nx0, Function.comp_def, Nat.max_le, -Prod.exists, -Prod.forall, d_is_right, e]
  | false =>
    obtain ⟨l, hl⟩ := lie_tup hb
    have := noRef_lie t
    rw [hl] at e
    simp -implicitDefEqProofs (maxDischargeDepth := 12) [SL, ev.asgN, wipe, getIx_tup, getIx_lst, getIx_ftup, getIx_ref, fin_rt0, fin_nx0, Function.comp_def, Nat.max_le, -Prod.exists, -Prod.forall, d_is_right, e]
end L
end PI

/-! The laws' own lie. -/
namespace PI
namespace L
theorem c_llie {n : Nat} {t : Tb} {h : LH} (hw : TW t) (hn : 3 ≤ n) : callIn (Cn n) i_law_lie [tv t] h = .ok (lieV t) h := by
  refine pure_of (k := 3) hn ?_ (by simp) (noRef_lie t)
  rw [show 3 = 2 + 1 from rfl, Cn_eq d_law_lie rfl rfl]
  generalize hr : fin _ _ = rr
  have h9 := hw.hi
  have g0 : ∀ h : LH, getIx (tv t) (.int 0) h = some (eN t.1) := fun h => rfl
  obtain ⟨P, T, e1⟩ := sides_c (n := 2) (h := []) hw (by omega)
  have tl : ∀ {x y z : Nat} {h : LH}, x < t.1 → y < t.1 → z < t.1 → x ≠ y → x ≠ z → y ≠ z → getIx (tdv P) (.tup [eN x, eN y, eN z]) h = some (eZ (chi t x y z)) := fun a b c d e f => get_tdv (T.look _ _ _ a b c d e f)
  simp -implicitDefEqProofs (maxDischargeDepth := 12) [SL, ev.asgN, wipe, getIx_tup, getIx_lst, getIx_ftup, getIx_ref, fin_rt0, fin_nx0, Function.comp_def, Nat.max_le, -Prod.exists, -Prod.forall, d_law_lie, g0, e1, c_lfours (m := t.1) (show t.1 ≤ 9 by omega)] at hr
  generalize hw1 : forGo _ _ _ _ _ = rs at hr
  have L1 := for_find' hw1 (fun σ h => ∃ o4 o5 o6 o7 o8 : Option Val, σ = [some (tv t), some (tdv P), some (.lst ((fours t.1).map e4)), none, o4, o5, o6, o7, o8, none] ∧ h = []) (badF t) fourV ⟨none, none, none, none, none, rfl, rfl⟩ (by intros; rfl) (by
    rintro ⟨a, b, c, d⟩ hp σ h ⟨o4, o5, o6, o7, o8, rfl, rfl⟩
    have D := D4.of hp
    have t1 : ∀ h, _ := fun h => tl (h := h) D.pa D.pb D.pc D.ab D.ac D.bc
    have t2 : ∀ h, _ := fun h => tl (h := h) D.pa D.pb D.pd D.ab D.ad D.bd
    have t3 : ∀ h, _ := fun h => tl (h := h) D.pa D.pc D.pd D.ac D.ad D.cd
    have t4 : ∀ h, _ := fun h => tl (h := h) D.pb D.pc D.pd D.bc D.bd D.cd
    by_cases hb : Four (chi t) a b c d
    · rw [if_pos (by simp [badF, hb])]
      obtain ⟨z1, z2, z3⟩ := hb
      exact ⟨[], by simp -implicitDefEqProofs (maxDischargeDepth := 12) [SL, ev.asgN, wipe, getIx_tup, getIx_lst, getIx_ftup, getIx_ref, fin_rt0, fin_nx0, Function.comp_def, Nat.max_le, -Prod.exists, -Prod.forall, e4, tlen, t1, t2, t3, t4, z1, z2, z3, fourV]⟩
    · rw [if_neg (by simp [badF, hb])]
      unfold Four at hb
      have hb' : (decide (chi t a b d = - chi t a b c) && (decide (chi t a c d = chi t a b c) && decide (chi t b c d = - chi t a b c))) = false := by
        rw [← Bool.decide_and, ← Bool.decide_and]; exact decide_eq_false hb
      exact ⟨_, _, by simp -implicitDefEqProofs (maxDischargeDepth := 12) [SL, ev.asgN, wipe, getIx_tup, getIx_lst, getIx_ftup, getIx_ref, fin_rt0, fin_nx0, Function.comp_def, Nat.max_le, -Prod.exists, -Prod.forall, e4, tlen, t1, t2, t3, t4, hb'], some (eN a), some (eN b), some (eN c), some (eN d), some (eZ (chi t a b c)), rfl, rfl⟩)
  unfold lieV
  rcases L1 with ⟨p, h', hf, rfl⟩ | ⟨hf, σ', h', rfl, o4, o5, o6, o7, o8, rfl, rfl⟩
  · rw [hf, ← hr]
    simp -implicitDefEqProofs (maxDischargeDepth := 12) [SL, ev.asgN, wipe, getIx_tup, getIx_lst, getIx_ftup, getIx_ref, fin_rt0, fin_nx0, Function.comp_def, Nat.max_le, -Prod.exists, -Prod.forall, fourV]
  · rw [hf]
    simp only
    have hs : t.1 ≤ SL := by simp only [SL]; omega
    simp -implicitDefEqProofs (maxDischargeDepth := 12) [SL, ev.asgN, wipe, getIx_tup, getIx_lst, getIx_ftup, getIx_ref, fin_rt0, fin_nx0, Function.comp_def, Nat.max_le, -Prod.exists, -Prod.forall, g0, rangeOk_0 t.1 hs, rangeV_0] at hr
    generalize hw2 : forGo _ _ _ _ _ = rs at hr
    have L2 := for_find' hw2 (fun σ h => ∃ o3 o4 o5 o6 o7 o8 o9 : Option Val, σ = [some (tv t), some (tdv P), some (.lst ((fours t.1).map e4)), o3, o4, o5, o6, o7, o8, o9] ∧ h = []) (fun x => (fiveAt t x).isSome) (fun x => match fiveAt t x with | some p => fiveV x p | none => .non) ⟨none, o4, o5, o6, o7, o8, none, rfl, rfl⟩ (by intros; rfl) (by
      rintro x hx σ h ⟨o3, o4, o5, o6, o7, o8, o9, rfl, rfl⟩
      rw [List.mem_range] at hx
      generalize hr3 : forB _ _ _ _ _ _ _ = r3
      simp -implicitDefEqProofs (maxDischargeDepth := 12) [SL, ev.asgN, wipe, getIx_tup, getIx_lst, getIx_ftup, getIx_ref, fin_rt0, fin_nx0, Function.comp_def, Nat.max_le, -Prod.exists, -Prod.forall] at hr3
      generalize hw3 : forGo _ _ _ _ _ = rs at hr3
      have L3 := for_find' hw3 (fun σ h => ∃ o4 o5 o6 o7 o8 o9 : Option Val, σ = [some (tv t), some (tdv P), some (.lst ((fours t.1).map e4)), some (eN x), o4, o5, o6, o7, o8, o9] ∧ h = []) (fun p => outX x p && badX t x p) (fiveV x) ⟨o4, o5, o6, o7, o8, o9, rfl, rfl⟩ (by intros; rfl) (by
        rintro ⟨a, b, c, d⟩ hp σ h ⟨o4, o5, o6, o7, o8, o9, rfl, rfl⟩
        have D := D4.of hp
        by_cases ho : x ≠ a ∧ x ≠ b ∧ x ≠ c ∧ x ≠ d
        · have e6 : outX x (a, b, c, d) = true := by simp [outX, ho]
          obtain ⟨xa, xb, xc, xd⟩ := ho
          have q1 : ¬ a = x := fun z => xa z.symm
          have q2 : ¬ b = x := fun z => xb z.symm
          have q3 : ¬ c = x := fun z => xc z.symm
          have q4 : ¬ d = x := fun z => xd z.symm
          have t1 : ∀ h, _ := fun h => tl (h := h) hx D.pa D.pb xa xb D.ab
          have t2 : ∀ h, _ := fun h => tl (h := h) hx D.pc D.pd xc xd D.cd
          have t3 : ∀ h, _ := fun h => tl (h := h) hx D.pa D.pc xa xc D.ac
          have t4 : ∀ h, _ := fun h => tl (h := h) hx D.pd D.pb xd xb D.bd.symm
          have t5 : ∀ h, _ := fun h => tl (h := h) hx D.pa D.pd xa xd D.ad
          have t6 : ∀ h, _ := fun h => tl (h := h) hx D.pb D.pc xb xc D.bc
          have o1 := chi_one hw hx D.pa D.pb xa xb D.ab
          have o2 := chi_one hw hx D.pc D.pd xc xd D.cd
          have o3 := chi_one hw hx D.pa D.pc xa xc D.ac
          have o4' := chi_one hw hx D.pd D.pb xd xb D.bd.symm
          have o5' := chi_one hw hx D.pa D.pd xa xd D.ad
          have o6' := chi_one hw hx D.pb D.pc xb xc D.bc
          have p1 : ∃ b1, chi t x a b * chi t x c d = sb b1 := sb_of (by rcases o1 with e | e <;> rcases o2 with f | f <;> rw [e, f] <;> simp)
          have p2 : ∃ b1, chi t x a c * chi t x d b = sb b1 := sb_of (by rcases o3 with e | e <;> rcases o4' with f | f <;> rw [e, f] <;> simp)
          have p3 : ∃ b1, chi t x a d * chi t x b c = sb b1 := sb_of (by rcases o5' with e | e <;> rcases o6' with f | f <;> rw [e, f] <;> simp)
          obtain ⟨b1, p1⟩ := p1
          obtain ⟨b2, p2⟩ := p2
          obtain ⟨b3, p3⟩ := p3
          have eb : badX t x (a, b, c, d) = decide (b1 = b2 ∧ b2 = b3) := by
            simp only [badX, Five, p1, p2, p3]
            cases b1 <;> cases b2 <;> cases b3 <;> rfl
          simp only [e6, eb, Bool.true_and]
          generalize hz : forB _ _ _ _ _ _ _ = rz
          simp -implicitDefEqProofs (maxDischargeDepth := 12) [SL, ev.asgN, wipe, getIx_tup, getIx_lst, getIx_ftup, getIx_ref, fin_rt0, fin_nx0, Function.comp_def, Nat.max_le, -Prod.exists, -Prod.forall, e4, tlen, q1, q2, q3, q4, t1, t2, t3, t4, t5, t6, mulOk_one o1, mulOk_one o3, mulOk_one o5', p1, p2, p3] at hz
          cases b1 <;> cases b2 <;> cases b3 <;> simp only [sb, if_true, if_false] at hz <;> simp -implicitDefEqProofs (maxDischargeDepth := 12) [SL, ev.asgN, wipe, getIx_tup, getIx_lst, getIx_ftup, getIx_ref, fin_rt0, fin_nx0, Function.comp_def, Nat.max_le, -Prod.exists, -Prod.forall, leave_0, keep_no] at hz <;>
            first | (rw [if_pos (by decide)]; exact ⟨[.dead], by rw [← hz]; rfl⟩) | (rw [if_neg (by decide)]; exact ⟨_, _, hz.symm, _, _, _, _, _, _, rfl, rfl⟩)
        · have e6 : outX x (a, b, c, d) = false := by simp only [outX, decide_eq_false_iff_not]; exact ho
          have q : a = x ∨ b = x ∨ c = x ∨ d = x := by omega
          have q' : (!decide (a = x) && (!decide (b = x) && (!decide (c = x) && !decide (d = x)))) = false := by
            rcases q with q | q | q | q <;> simp [q]
          simp only [e6, Bool.false_and]
          generalize hz : forB _ _ _ _ _ _ _ = rz
          simp -implicitDefEqProofs (maxDischargeDepth := 12) [SL, ev.asgN, wipe, getIx_tup, getIx_lst, getIx_ftup, getIx_ref, fin_rt0, fin_nx0, Function.comp_def, Nat.max_le, -Prod.exists, -Prod.forall, e4, tlen, q', leave_0, keep_no] at hz
          exact ⟨_, _, hz.symm, _, _, _, _, _, _, rfl, rfl⟩)
      change _ ∨ (fiveAt t x = none ∧ _) at L3
      rcases L3 with ⟨p, h', hf3, rfl⟩ | ⟨hf3, σ', h', rfl, o4, o5, o6, o7, o8, o9, rfl, rfl⟩
      · change fiveAt t x = some p at hf3
        simp only [hf3, Option.isSome_some, if_true]
        exact ⟨h', by rw [← hr3]; simp -implicitDefEqProofs (maxDischargeDepth := 12) [SL, ev.asgN, wipe, getIx_tup, getIx_lst, getIx_ftup, getIx_ref, fin_rt0, fin_nx0, Function.comp_def, Nat.max_le, -Prod.exists, -Prod.forall]⟩
      · simp only [hf3, Option.isSome_none]
        simp -implicitDefEqProofs (maxDischargeDepth := 12) [SL, ev.asgN, wipe, getIx_tup, getIx_lst, getIx_ftup, getIx_ref, fin_rt0, fin_nx0, Function.comp_def, Nat.max_le, -Prod.exists, -Prod.forall, leave_0, keep_no] at hr3
        exact ⟨_, _, hr3.symm, _, _, _, _, _, _, _, rfl, rfl⟩)
    rcases L2 with ⟨x, h', hf2, rfl⟩ | ⟨hf2, σ', h', rfl, o3, o4, o5, o6, o7, o8, o9, rfl, rfl⟩
    · rw [hf2, ← hr]
      simp only
      cases h3 : fiveAt t x <;> simp -implicitDefEqProofs (maxDischargeDepth := 12) [SL, ev.asgN, wipe, getIx_tup, getIx_lst, getIx_ftup, getIx_ref, fin_rt0, fin_nx0, Function.comp_def, Nat.max_le, -Prod.exists, -Prod.forall, h3, fiveV]
    · rw [hf2, ← hr]
      simp -implicitDefEqProofs (maxDischargeDepth := 12) [SL, ev.asgN, wipe, getIx_tup, getIx_lst, getIx_ftup, getIx_ref, fin_rt0, fin_nx0, Function.comp_def, Nat.max_le, -Prod.exists, -Prod.forall]
end L
end PI

/-! Law k03, plain. -/
namespace PI
namespace L
theorem plain_lie (t : Tb) : plainV (lieV t) = true := by
  unfold lieV
  repeat' split
  all_goals rfl
theorem dep_lie (t : Tb) : vdepth (lieV t) ≤ 1 := by
  unfold lieV
  repeat' split
  all_goals simp [fourV, fiveV]
theorem is_lie {n : Nat} {t : Tb} {h : LH} (hn : 2 ≤ n) : callIn (Cn n) i_law_is [lieV t, lieV t] h = .ok (.bl true) h := is_c 1 (dep_lie t) (plain_lie t) hn
theorem k03_turn {n : Nat} {c : Int} {sv : Val} (hn : 6 ≤ n) (hs : noRef sv = true) {o1 o2 o3 o4 o5 o6 o7 o8 o9 : Option Val} {tg it : E} {body : S} (hb : d_law_k03.body = .seq (.for tg it (.scoped body)) (.seq (.ret (.bl true)) .nil)) :
    ∃ p1 p2 p3 p4 p5 p6 p7 p8 p9 : Option Val, forB (Cn n) Gv tg (.scoped body) (.int c) [some sv, o1, o2, o3, o4, o5, o6, o7, o8, o9] [] = .nx [some sv, p1, p2, p3, p4, p5, p6, p7, p8, p9] [] := by
  simp only [d_law_k03, S.seq.injEq, S.for.injEq, S.scoped.injEq] at hb
  obtain ⟨⟨rfl, rfl, rfl⟩, -⟩ := hb
  generalize hr : forB _ _ _ _ _ _ _ = rr
  obtain ⟨b, ok, e1⟩ := well_c (n := n) c (h := []) (by omega)
  obtain ⟨t1, b1, w1, _, _, ok1, e2⟩ := any_c (n := n) (l := 0) (h := [bagO b]) (lo := 3) (hi := 6) (by omega) rfl ok (by omega) (by omega) (by omega) (by omega)
  obtain ⟨t2, b2, w2, _, _, ok2, e3⟩ := any_c (n := n) (l := 0) (h := [bagO b1]) (lo := 3) (hi := 9) (by omega) rfl ok1 (by omega) (by omega) (by omega) (by omega)
  obtain ⟨t3, b3, w3, r3, _, _, ok3, e4⟩ := table_c (n := n) (l := 0) (h := [bagO b2]) (lo := 3) (hi := 9) (by omega) rfl ok2 (by omega) (by omega) (by omega) (by omega)
  obtain ⟨t4, b4, w4, _, ok4, e5⟩ := spoilt_c (n := n) (l := 0) (h := [bagO b3]) (t := t3) (m := 1) (by omega) rfl ok3 (by omega) w3 (by omega)
  obtain ⟨t5, b5, w5, _, ok5, e6⟩ := spoilt_c (n := n) (l := 0) (h := [bagO b4]) (t := t3) (m := 4) (by omega) rfl ok4 (by omega) w3 (by omega)
  have e1' : callIn (Cn n) 7 [.int c, .int 0] [] = .ok (.ref 0) [bagO b] := e1
  have e2' : callIn (Cn n) 11 [.ref 0, .int 3, .int 6] [bagO b] = .ok (tv t1) [bagO b1] := e2
  have e3' : callIn (Cn n) 11 [.ref 0, .int 3, .int 9] [bagO b1] = .ok (tv t2) [bagO b2] := e3
  have e4' : callIn (Cn n) 27 [.ref 0, .int 3, .int 9] [bagO b2] = .ok (tv t3) [bagO b3] := e4
  have e5' : callIn (Cn n) 28 [.ref 0, tv t3, .int 1] [bagO b3] = .ok (tv t4) [bagO b4] := e5
  have e6' : callIn (Cn n) 28 [.ref 0, tv t3, .int 4] [bagO b4] = .ok (tv t5) [bagO b5] := e6
  simp -implicitDefEqProofs (maxDischargeDepth := 12) [SL, ev.asgN, wipe, getIx_tup, getIx_lst, getIx_ftup, getIx_ref, fin_rt0, fin_nx0, Function.comp_def, Nat.max_le, -Prod.exists, -Prod.forall, e1', e2', e3', e4', e5', e6'] at hr
  rw [show [tv t1, tv t2, tv t3, tv t4, tv t5] = [t1, t2, t3, t4, t5].map tv from rfl] at hr
  generalize hw : forGo _ _ _ _ _ = rs at hr
  have L1 := for_all' hw (fun σ h => ∃ p5 p6 p7 p8 p9 : Option Val, σ = [some sv, some (.int c), some (.ref 0), some (.lst ([t1, t2, t3, t4, t5].map tv)), some (tv t3), p5, p6, p7, p8, p9] ∧ h = [bagO b5]) ⟨o5, o6, o7, o8, o9, rfl, rfl⟩ (by intros; rfl) (by
    rintro t ht σ h ⟨p5, p6, p7, p8, p9, rfl, rfl⟩
    have w : TW t := by
      simp only [List.mem_cons, List.not_mem_nil, or_false] at ht
      rcases ht with rfl | rfl | rfl | rfl | rfl <;> assumption
    generalize hr2 : forB _ _ _ _ _ _ _ = r2
    have l1 := c_llie (n := n) (h := [bagO b5]) w (by omega)
    simp -implicitDefEqProofs (maxDischargeDepth := 12) [SL, ev.asgN, wipe, getIx_tup, getIx_lst, getIx_ftup, getIx_ref, fin_rt0, fin_nx0, Function.comp_def, Nat.max_le, -Prod.exists, -Prod.forall, l1, show rangeOk 0 2 = true by decide, show rangeV 0 2 = [0, 1].map eN from rfl] at hr2
    generalize hw2 : forGo _ _ _ _ _ = rs2 at hr2
    have L2 := for_all' (enc := eN) (xs := [0, 1]) hw2 (fun σ h => ∃ p7 p9 : Option Val, σ = [some sv, some (.int c), some (.ref 0), some (.lst ([t1, t2, t3, t4, t5].map tv)), some (tv t3), some (tv t), some (lieV t), p7, p8, p9] ∧ h = [bagO b5]) ⟨p7, p9, rfl, rfl⟩ (by intros; rfl) (by
      rintro x hx σ h ⟨p7, p9, rfl, rfl⟩
      generalize hr3 : forB _ _ _ _ _ _ _ = r3
      have l2 := c_lie (n := n) (h := [bagO b5]) w (by omega)
      have l3 := is_lie (n := n) (t := t) (h := [bagO b5]) (by omega)
      cases hb : rightB t with
      | true =>
        rw [lie_eq hb] at l2 l3 hr3 ⊢
        simp -implicitDefEqProofs (maxDischargeDepth := 12) [SL, ev.asgN, wipe, getIx_tup, getIx_lst, getIx_ftup, getIx_ref, fin_rt0, fin_nx0, Function.comp_def, Nat.max_le, -Prod.exists, -Prod.forall, l2] at hr3
        exact ⟨_, _, hr3.symm, _, _, rfl, rfl⟩
      | false =>
        obtain ⟨l, hl⟩ := lie_tup hb
        rw [hl] at l2 l3 hr3 ⊢
        simp -implicitDefEqProofs (maxDischargeDepth := 12) [SL, ev.asgN, wipe, getIx_tup, getIx_lst, getIx_ftup, getIx_ref, fin_rt0, fin_nx0, Function.comp_def, Nat.max_le, -Prod.exists, -Prod.forall, l2, l3] at hr3
        exact ⟨_, _, hr3.symm, _, _, rfl, rfl⟩)
    obtain ⟨σ', h', rfl, p7, p9, rfl, rfl⟩ := L2
    have l4 := c_isright (n := n) (h := [bagO b5]) w (by omega)
    cases hb : rightB t with
    | true =>
      rw [lie_eq hb] at hr2
      rw [hb] at l4
      simp -implicitDefEqProofs (maxDischargeDepth := 12) [SL, ev.asgN, wipe, getIx_tup, getIx_lst, getIx_ftup, getIx_ref, fin_rt0, fin_nx0, Function.comp_def, Nat.max_le, -Prod.exists, -Prod.forall, l4] at hr2
      exact ⟨_, _, hr2.symm, _, _, _, _, _, rfl, rfl⟩
    | false =>
      obtain ⟨l, hl⟩ := lie_tup hb
      rw [hl] at hr2
      rw [hb] at l4
      simp -implicitDefEqProofs (maxDischargeDepth := 12) [SL, ev.asgN, wipe, getIx_tup, getIx_lst, getIx_ftup, getIx_ref, fin_rt0, fin_nx0, Function.comp_def, Nat.max_le, -Prod.exists, -Prod.forall, l4] at hr2
      exact ⟨_, _, hr2.symm, _, _, _, _, _, rfl, rfl⟩)
  obtain ⟨σ', h', rfl, p5, p6, p7, p8, p9, rfl, rfl⟩ := L1
  have l5 := c_llie (n := n) (h := [bagO b5]) w3 (by omega)
  rw [lie_eq (rightB_of r3.right)] at l5
  simp -implicitDefEqProofs (maxDischargeDepth := 12) [SL, ev.asgN, wipe, getIx_tup, getIx_lst, getIx_ftup, getIx_ref, fin_rt0, fin_nx0, Function.comp_def, Nat.max_le, -Prod.exists, -Prod.forall, l5, leave_0, keep_no hs] at hr
  exact ⟨_, _, _, _, _, _, _, _, _, hr.symm⟩
theorem law_ok (ns : List Int) (hl : ns.length ≤ 63) : ∃ h, Cn 20 i_law_k03 [.lst (ns.map .int)] [] = .ok (.bl true) h := by
  rw [show 20 = 19 + 1 from rfl, Cn_eq d_law_k03 rfl rfl]
  generalize hr : fin _ _ = rr
  have hs : ns.length ≤ SL := by simp only [SL]; omega
  have hc := cell_c (n := 19) (k := 0) (h := []) (by omega) hs
  have hc' : callIn (Cn 19) 6 [.lst (ns.map .int), .int 0] [] = .ok (.int (ns.getD 0 0)) [] := hc
  have hlen : min 5 (ns.length - 1) + 1 ≤ 16777216 := by omega
  have hlen' : 1 + min 5 (ns.length - 1) ≤ 16777216 := by omega
  simp -implicitDefEqProofs (maxDischargeDepth := 12) [SL, ev.asgN, wipe, getIx_tup, getIx_lst, getIx_ftup, getIx_ref, fin_rt0, fin_nx0, Function.comp_def, Nat.max_le, -Prod.exists, -Prod.forall, d_law_k03, hc', hlen, hlen', show min 5 (ns.length - 1) ≤ 16777216 by omega] at hr
  rw [show Val.int (ns[0]?.getD 0) :: List.take 5 (ns.map Val.int).tail = ((ns[0]?.getD 0) :: List.take 5 ns.tail).map Val.int by simp] at hr
  generalize hw : forGo _ _ _ _ _ = rs at hr
  have L1 := for_all' (enc := Val.int) hw (fun σ h => ∃ p1 p2 p3 p4 p5 p6 p7 p8 p9 : Option Val, σ = [some (.lst (ns.map .int)), p1, p2, p3, p4, p5, p6, p7, p8, p9] ∧ h = []) ⟨none, none, none, none, none, none, none, none, none, rfl, rfl⟩ (by intros; rfl) (by
    rintro x hx σ h ⟨p1, p2, p3, p4, p5, p6, p7, p8, p9, rfl, rfl⟩
    obtain ⟨q1, q2, q3, q4, q5, q6, q7, q8, q9, e⟩ := k03_turn (n := 19) (c := x) (sv := .lst (ns.map .int)) (by omega) (by simp) (o1 := p1) (o2 := p2) (o3 := p3) (o4 := p4) (o5 := p5) (o6 := p6) (o7 := p7) (o8 := p8) (o9 := p9) rfl
    exact ⟨_, _, e, q1, q2, q3, q4, q5, q6, q7, q8, q9, rfl, rfl⟩)
  obtain ⟨σ', h', rfl, p1, p2, p3, p4, p5, p6, p7, p8, p9, rfl, rfl⟩ := L1
  exact ⟨[], by rw [← hr]; simp -implicitDefEqProofs (maxDischargeDepth := 12) [SL, ev.asgN, wipe, getIx_tup, getIx_lst, getIx_ftup, getIx_ref, fin_rt0, fin_nx0, Function.comp_def, Nat.max_le, -Prod.exists, -Prod.forall]⟩
end L
end PI

namespace PI
namespace L
open PySem PIS
def topS (i : Nat) : Stmt := PySem.Challenge.pw_threesides_k03_first_lies.main.body.getD i (.Pass ⟨0, 0, 0, 0⟩)
def r_pairs_of : DRow := ⟨2, "pairs_of", topS 1, n_pairs_of.map PySem.Str.ofString, ["many"], d_pairs_of⟩
def r_threes_of : DRow := ⟨3, "threes_of", topS 2, n_threes_of.map PySem.Str.ofString, ["many"], d_threes_of⟩
def r_law_cell : DRow := ⟨6, "_law_cell", topS 13, n_law_cell.map PySem.Str.ofString, ["script", "k"], d_law_cell⟩
def r_law_well : DRow := ⟨7, "_law_well", topS 14, n_law_well.map PySem.Str.ofString, ["cell", "turn"], d_law_well⟩
def r_law_take : DRow := ⟨8, "_law_take", topS 15, n_law_take.map PySem.Str.ofString, ["bag", "many"], d_law_take⟩
def r_law_shuffled : DRow := ⟨9, "_law_shuffled", topS 16, n_law_shuffled.map PySem.Str.ofString, ["bag", "some"], d_law_shuffled⟩
def r_law_threes : DRow := ⟨10, "_law_threes", topS 17, n_law_threes.map PySem.Str.ofString, ["many"], d_law_threes⟩
def r_law_any_table : DRow := ⟨11, "_law_any_table", topS 25, n_law_any_table.map PySem.Str.ofString, ["bag", "least", "most"], d_law_any_table⟩
def r_place_of : DRow := ⟨16, "place_of", topS 3, n_place_of.map PySem.Str.ofString, ["many", "a", "b", "c"], d_place_of⟩
def r_turns_of : DRow := ⟨17, "turns_of", topS 4, n_turns_of.map PySem.Str.ofString, ["a", "b", "c"], d_turns_of⟩
def r_side : DRow := ⟨18, "side", topS 5, n_side.map PySem.Str.ofString, ["table", "a", "b", "c"], d_side⟩
def r_law_sides : DRow := ⟨22, "_law_sides", topS 19, n_law_sides.map PySem.Str.ofString, ["table"], d_law_sides⟩
def r_law_from : DRow := ⟨23, "_law_from", topS 20, n_law_from.map PySem.Str.ofString, ["many", "told"], d_law_from⟩
def r_law_sweep : DRow := ⟨24, "_law_sweep", topS 21, n_law_sweep.map PySem.Str.ofString, ["bag", "many"], d_law_sweep⟩
def r_law_read : DRow := ⟨25, "_law_read", topS 22, n_law_read.map PySem.Str.ofString, ["sweep"], d_law_read⟩
def r_law_ring_table : DRow := ⟨26, "_law_ring_table", topS 23, n_law_ring_table.map PySem.Str.ofString, ["order"], d_law_ring_table⟩
def r_law_table : DRow := ⟨27, "_law_table", topS 24, n_law_table.map PySem.Str.ofString, ["bag", "least", "most"], d_law_table⟩
def r_law_spoilt_table : DRow := ⟨28, "_law_spoilt_table", topS 26, n_law_spoilt_table.map PySem.Str.ofString, ["bag", "table", "most"], d_law_spoilt_table⟩
def r_law_is : DRow := ⟨29, "_law_is", topS 28, n_law_is.map PySem.Str.ofString, ["found", "due"], d_law_is⟩
def r_fours_of : DRow := ⟨33, "fours_of", topS 7, n_fours_of.map PySem.Str.ofString, ["many"], d_fours_of⟩
def r_is_four_right : DRow := ⟨34, "is_four_right", topS 8, n_is_four_right.map PySem.Str.ofString, ["table", "four"], d_is_four_right⟩
def r_is_five_right : DRow := ⟨35, "is_five_right", topS 9, n_is_five_right.map PySem.Str.ofString, ["table", "x", "four"], d_is_five_right⟩
def r_lie_of : DRow := ⟨36, "lie_of", topS 10, n_lie_of.map PySem.Str.ofString, ["table"], d_lie_of⟩
def r_is_right : DRow := ⟨37, "is_right", topS 11, n_is_right.map PySem.Str.ofString, ["table"], d_is_right⟩
def r_law_fours : DRow := ⟨38, "_law_fours", topS 18, n_law_fours.map PySem.Str.ofString, ["many"], d_law_fours⟩
def r_law_lie : DRow := ⟨39, "_law_lie", topS 27, n_law_lie.map PySem.Str.ofString, ["table"], d_law_lie⟩
def r_law_k03 : DRow := ⟨40, "law", topS 29, n_law_k03.map PySem.Str.ofString, ["script"], d_law_k03⟩
def rows : List DRow := [r_pairs_of, r_threes_of, r_law_cell, r_law_well, r_law_take, r_law_shuffled, r_law_threes, r_law_any_table, r_place_of, r_turns_of, r_side, r_law_sides, r_law_from, r_law_sweep, r_law_read, r_law_ring_table, r_law_table, r_law_spoilt_table, r_law_is, r_fours_of, r_is_four_right, r_is_five_right, r_lie_of, r_is_right, r_law_fours, r_law_lie, r_law_k03]
end L
end PI
namespace PI
namespace L
open PySem PySem.Spec PyProof.Rows L2 PIS
theorem chk_r_pairs_of : rowB rows r_pairs_of = true := by decide +kernel
theorem chk_r_threes_of : rowB rows r_threes_of = true := by decide +kernel
theorem chk_r_law_cell : rowB rows r_law_cell = true := by decide +kernel
theorem chk_r_law_well : rowB rows r_law_well = true := by decide +kernel
theorem chk_r_law_take : rowB rows r_law_take = true := by decide +kernel
theorem chk_r_law_shuffled : rowB rows r_law_shuffled = true := by decide +kernel
theorem chk_r_law_threes : rowB rows r_law_threes = true := by decide +kernel
theorem chk_r_law_any_table : rowB rows r_law_any_table = true := by decide +kernel
theorem chk_r_place_of : rowB rows r_place_of = true := by decide +kernel
theorem chk_r_turns_of : rowB rows r_turns_of = true := by decide +kernel
theorem chk_r_side : rowB rows r_side = true := by decide +kernel
theorem chk_r_law_sides : rowB rows r_law_sides = true := by decide +kernel
theorem chk_r_law_from : rowB rows r_law_from = true := by decide +kernel
theorem chk_r_law_sweep : rowB rows r_law_sweep = true := by decide +kernel
theorem chk_r_law_read : rowB rows r_law_read = true := by decide +kernel
theorem chk_r_law_ring_table : rowB rows r_law_ring_table = true := by decide +kernel
theorem chk_r_law_table : rowB rows r_law_table = true := by decide +kernel
theorem chk_r_law_spoilt_table : rowB rows r_law_spoilt_table = true := by decide +kernel
theorem chk_r_law_is : rowB rows r_law_is = true := by decide +kernel
theorem chk_r_fours_of : rowB rows r_fours_of = true := by decide +kernel
theorem chk_r_is_four_right : rowB rows r_is_four_right = true := by decide +kernel
theorem chk_r_is_five_right : rowB rows r_is_five_right = true := by decide +kernel
theorem chk_r_lie_of : rowB rows r_lie_of = true := by decide +kernel
theorem chk_r_is_right : rowB rows r_is_right = true := by decide +kernel
theorem chk_r_law_fours : rowB rows r_law_fours = true := by decide +kernel
theorem chk_r_law_lie : rowB rows r_law_lie = true := by decide +kernel
theorem chk_r_law_k03 : rowB rows r_law_k03 = true := by decide +kernel
theorem chk_all : rows.all (rowB rows) = true := by simp only [rows, List.all_cons, List.all_nil, Bool.and_true, Bool.and_self, show rowB [r_pairs_of, r_threes_of, r_law_cell, r_law_well, r_law_take, r_law_shuffled, r_law_threes, r_law_any_table, r_place_of, r_turns_of, r_side, r_law_sides, r_law_from, r_law_sweep, r_law_read, r_law_ring_table, r_law_table, r_law_spoilt_table, r_law_is, r_fours_of, r_is_four_right, r_is_five_right, r_lie_of, r_is_right, r_law_fours, r_law_lie, r_law_k03] r_pairs_of = true from chk_r_pairs_of, show rowB [r_pairs_of, r_threes_of, r_law_cell, r_law_well, r_law_take, r_law_shuffled, r_law_threes, r_law_any_table, r_place_of, r_turns_of, r_side, r_law_sides, r_law_from, r_law_sweep, r_law_read, r_law_ring_table, r_law_table, r_law_spoilt_table, r_law_is, r_fours_of, r_is_four_right, r_is_five_right, r_lie_of, r_is_right, r_law_fours, r_law_lie, r_law_k03] r_threes_of = true from chk_r_threes_of, show rowB [r_pairs_of, r_threes_of, r_law_cell, r_law_well, r_law_take, r_law_shuffled, r_law_threes, r_law_any_table, r_place_of, r_turns_of, r_side, r_law_sides, r_law_from, r_law_sweep, r_law_read, r_law_ring_table, r_law_table, r_law_spoilt_table, r_law_is, r_fours_of, r_is_four_right, r_is_five_right, r_lie_of, r_is_right, r_law_fours, r_law_lie, r_law_k03] r_law_cell = true from chk_r_law_cell, show rowB [r_pairs_of, r_threes_of, r_law_cell, r_law_well, r_law_take, r_law_shuffled, r_law_threes, r_law_any_table, r_place_of, r_turns_of, r_side, r_law_sides, r_law_from, r_law_sweep, r_law_read, r_law_ring_table, r_law_table, r_law_spoilt_table, r_law_is, r_fours_of, r_is_four_right, r_is_five_right, r_lie_of, r_is_right, r_law_fours, r_law_lie, r_law_k03] r_law_well = true from chk_r_law_well, show rowB [r_pairs_of, r_threes_of, r_law_cell, r_law_well, r_law_take, r_law_shuffled, r_law_threes, r_law_any_table, r_place_of, r_turns_of, r_side, r_law_sides, r_law_from, r_law_sweep, r_law_read, r_law_ring_table, r_law_table, r_law_spoilt_table, r_law_is, r_fours_of, r_is_four_right, r_is_five_right, r_lie_of, r_is_right, r_law_fours, r_law_lie, r_law_k03] r_law_take = true from chk_r_law_take, show rowB [r_pairs_of, r_threes_of, r_law_cell, r_law_well, r_law_take, r_law_shuffled, r_law_threes, r_law_any_table, r_place_of, r_turns_of, r_side, r_law_sides, r_law_from, r_law_sweep, r_law_read, r_law_ring_table, r_law_table, r_law_spoilt_table, r_law_is, r_fours_of, r_is_four_right, r_is_five_right, r_lie_of, r_is_right, r_law_fours, r_law_lie, r_law_k03] r_law_shuffled = true from chk_r_law_shuffled, show rowB [r_pairs_of, r_threes_of, r_law_cell, r_law_well, r_law_take, r_law_shuffled, r_law_threes, r_law_any_table, r_place_of, r_turns_of, r_side, r_law_sides, r_law_from, r_law_sweep, r_law_read, r_law_ring_table, r_law_table, r_law_spoilt_table, r_law_is, r_fours_of, r_is_four_right, r_is_five_right, r_lie_of, r_is_right, r_law_fours, r_law_lie, r_law_k03] r_law_threes = true from chk_r_law_threes, show rowB [r_pairs_of, r_threes_of, r_law_cell, r_law_well, r_law_take, r_law_shuffled, r_law_threes, r_law_any_table, r_place_of, r_turns_of, r_side, r_law_sides, r_law_from, r_law_sweep, r_law_read, r_law_ring_table, r_law_table, r_law_spoilt_table, r_law_is, r_fours_of, r_is_four_right, r_is_five_right, r_lie_of, r_is_right, r_law_fours, r_law_lie, r_law_k03] r_law_any_table = true from chk_r_law_any_table, show rowB [r_pairs_of, r_threes_of, r_law_cell, r_law_well, r_law_take, r_law_shuffled, r_law_threes, r_law_any_table, r_place_of, r_turns_of, r_side, r_law_sides, r_law_from, r_law_sweep, r_law_read, r_law_ring_table, r_law_table, r_law_spoilt_table, r_law_is, r_fours_of, r_is_four_right, r_is_five_right, r_lie_of, r_is_right, r_law_fours, r_law_lie, r_law_k03] r_place_of = true from chk_r_place_of, show rowB [r_pairs_of, r_threes_of, r_law_cell, r_law_well, r_law_take, r_law_shuffled, r_law_threes, r_law_any_table, r_place_of, r_turns_of, r_side, r_law_sides, r_law_from, r_law_sweep, r_law_read, r_law_ring_table, r_law_table, r_law_spoilt_table, r_law_is, r_fours_of, r_is_four_right, r_is_five_right, r_lie_of, r_is_right, r_law_fours, r_law_lie, r_law_k03] r_turns_of = true from chk_r_turns_of, show rowB [r_pairs_of, r_threes_of, r_law_cell, r_law_well, r_law_take, r_law_shuffled, r_law_threes, r_law_any_table, r_place_of, r_turns_of, r_side, r_law_sides, r_law_from, r_law_sweep, r_law_read, r_law_ring_table, r_law_table, r_law_spoilt_table, r_law_is, r_fours_of, r_is_four_right, r_is_five_right, r_lie_of, r_is_right, r_law_fours, r_law_lie, r_law_k03] r_side = true from chk_r_side, show rowB [r_pairs_of, r_threes_of, r_law_cell, r_law_well, r_law_take, r_law_shuffled, r_law_threes, r_law_any_table, r_place_of, r_turns_of, r_side, r_law_sides, r_law_from, r_law_sweep, r_law_read, r_law_ring_table, r_law_table, r_law_spoilt_table, r_law_is, r_fours_of, r_is_four_right, r_is_five_right, r_lie_of, r_is_right, r_law_fours, r_law_lie, r_law_k03] r_law_sides = true from chk_r_law_sides, show rowB [r_pairs_of, r_threes_of, r_law_cell, r_law_well, r_law_take, r_law_shuffled, r_law_threes, r_law_any_table, r_place_of, r_turns_of, r_side, r_law_sides, r_law_from, r_law_sweep, r_law_read, r_law_ring_table, r_law_table, r_law_spoilt_table, r_law_is, r_fours_of, r_is_four_right, r_is_five_right, r_lie_of, r_is_right, r_law_fours, r_law_lie, r_law_k03] r_law_from = true from chk_r_law_from, show rowB [r_pairs_of, r_threes_of, r_law_cell, r_law_well, r_law_take, r_law_shuffled, r_law_threes, r_law_any_table, r_place_of, r_turns_of, r_side, r_law_sides, r_law_from, r_law_sweep, r_law_read, r_law_ring_table, r_law_table, r_law_spoilt_table, r_law_is, r_fours_of, r_is_four_right, r_is_five_right, r_lie_of, r_is_right, r_law_fours, r_law_lie, r_law_k03] r_law_sweep = true from chk_r_law_sweep, show rowB [r_pairs_of, r_threes_of, r_law_cell, r_law_well, r_law_take, r_law_shuffled, r_law_threes, r_law_any_table, r_place_of, r_turns_of, r_side, r_law_sides, r_law_from, r_law_sweep, r_law_read, r_law_ring_table, r_law_table, r_law_spoilt_table, r_law_is, r_fours_of, r_is_four_right, r_is_five_right, r_lie_of, r_is_right, r_law_fours, r_law_lie, r_law_k03] r_law_read = true from chk_r_law_read, show rowB [r_pairs_of, r_threes_of, r_law_cell, r_law_well, r_law_take, r_law_shuffled, r_law_threes, r_law_any_table, r_place_of, r_turns_of, r_side, r_law_sides, r_law_from, r_law_sweep, r_law_read, r_law_ring_table, r_law_table, r_law_spoilt_table, r_law_is, r_fours_of, r_is_four_right, r_is_five_right, r_lie_of, r_is_right, r_law_fours, r_law_lie, r_law_k03] r_law_ring_table = true from chk_r_law_ring_table, show rowB [r_pairs_of, r_threes_of, r_law_cell, r_law_well, r_law_take, r_law_shuffled, r_law_threes, r_law_any_table, r_place_of, r_turns_of, r_side, r_law_sides, r_law_from, r_law_sweep, r_law_read, r_law_ring_table, r_law_table, r_law_spoilt_table, r_law_is, r_fours_of, r_is_four_right, r_is_five_right, r_lie_of, r_is_right, r_law_fours, r_law_lie, r_law_k03] r_law_table = true from chk_r_law_table, show rowB [r_pairs_of, r_threes_of, r_law_cell, r_law_well, r_law_take, r_law_shuffled, r_law_threes, r_law_any_table, r_place_of, r_turns_of, r_side, r_law_sides, r_law_from, r_law_sweep, r_law_read, r_law_ring_table, r_law_table, r_law_spoilt_table, r_law_is, r_fours_of, r_is_four_right, r_is_five_right, r_lie_of, r_is_right, r_law_fours, r_law_lie, r_law_k03] r_law_spoilt_table = true from chk_r_law_spoilt_table, show rowB [r_pairs_of, r_threes_of, r_law_cell, r_law_well, r_law_take, r_law_shuffled, r_law_threes, r_law_any_table, r_place_of, r_turns_of, r_side, r_law_sides, r_law_from, r_law_sweep, r_law_read, r_law_ring_table, r_law_table, r_law_spoilt_table, r_law_is, r_fours_of, r_is_four_right, r_is_five_right, r_lie_of, r_is_right, r_law_fours, r_law_lie, r_law_k03] r_law_is = true from chk_r_law_is, show rowB [r_pairs_of, r_threes_of, r_law_cell, r_law_well, r_law_take, r_law_shuffled, r_law_threes, r_law_any_table, r_place_of, r_turns_of, r_side, r_law_sides, r_law_from, r_law_sweep, r_law_read, r_law_ring_table, r_law_table, r_law_spoilt_table, r_law_is, r_fours_of, r_is_four_right, r_is_five_right, r_lie_of, r_is_right, r_law_fours, r_law_lie, r_law_k03] r_fours_of = true from chk_r_fours_of, show rowB [r_pairs_of, r_threes_of, r_law_cell, r_law_well, r_law_take, r_law_shuffled, r_law_threes, r_law_any_table, r_place_of, r_turns_of, r_side, r_law_sides, r_law_from, r_law_sweep, r_law_read, r_law_ring_table, r_law_table, r_law_spoilt_table, r_law_is, r_fours_of, r_is_four_right, r_is_five_right, r_lie_of, r_is_right, r_law_fours, r_law_lie, r_law_k03] r_is_four_right = true from chk_r_is_four_right, show rowB [r_pairs_of, r_threes_of, r_law_cell, r_law_well, r_law_take, r_law_shuffled, r_law_threes, r_law_any_table, r_place_of, r_turns_of, r_side, r_law_sides, r_law_from, r_law_sweep, r_law_read, r_law_ring_table, r_law_table, r_law_spoilt_table, r_law_is, r_fours_of, r_is_four_right, r_is_five_right, r_lie_of, r_is_right, r_law_fours, r_law_lie, r_law_k03] r_is_five_right = true from chk_r_is_five_right, show rowB [r_pairs_of, r_threes_of, r_law_cell, r_law_well, r_law_take, r_law_shuffled, r_law_threes, r_law_any_table, r_place_of, r_turns_of, r_side, r_law_sides, r_law_from, r_law_sweep, r_law_read, r_law_ring_table, r_law_table, r_law_spoilt_table, r_law_is, r_fours_of, r_is_four_right, r_is_five_right, r_lie_of, r_is_right, r_law_fours, r_law_lie, r_law_k03] r_lie_of = true from chk_r_lie_of, show rowB [r_pairs_of, r_threes_of, r_law_cell, r_law_well, r_law_take, r_law_shuffled, r_law_threes, r_law_any_table, r_place_of, r_turns_of, r_side, r_law_sides, r_law_from, r_law_sweep, r_law_read, r_law_ring_table, r_law_table, r_law_spoilt_table, r_law_is, r_fours_of, r_is_four_right, r_is_five_right, r_lie_of, r_is_right, r_law_fours, r_law_lie, r_law_k03] r_is_right = true from chk_r_is_right, show rowB [r_pairs_of, r_threes_of, r_law_cell, r_law_well, r_law_take, r_law_shuffled, r_law_threes, r_law_any_table, r_place_of, r_turns_of, r_side, r_law_sides, r_law_from, r_law_sweep, r_law_read, r_law_ring_table, r_law_table, r_law_spoilt_table, r_law_is, r_fours_of, r_is_four_right, r_is_five_right, r_lie_of, r_is_right, r_law_fours, r_law_lie, r_law_k03] r_law_fours = true from chk_r_law_fours, show rowB [r_pairs_of, r_threes_of, r_law_cell, r_law_well, r_law_take, r_law_shuffled, r_law_threes, r_law_any_table, r_place_of, r_turns_of, r_side, r_law_sides, r_law_from, r_law_sweep, r_law_read, r_law_ring_table, r_law_table, r_law_spoilt_table, r_law_is, r_fours_of, r_is_four_right, r_is_five_right, r_lie_of, r_is_right, r_law_fours, r_law_lie, r_law_k03] r_law_lie = true from chk_r_law_lie, show rowB [r_pairs_of, r_threes_of, r_law_cell, r_law_well, r_law_take, r_law_shuffled, r_law_threes, r_law_any_table, r_place_of, r_turns_of, r_side, r_law_sides, r_law_from, r_law_sweep, r_law_read, r_law_ring_table, r_law_table, r_law_spoilt_table, r_law_is, r_fours_of, r_is_four_right, r_is_five_right, r_lie_of, r_is_right, r_law_fours, r_law_lie, r_law_k03] r_law_k03 = true from chk_r_law_k03]
theorem defT_tab : ∀ (rs : List DRow) (f : Nat), defT rs f = tabT (rs.map fun r => (r.id, r.d)) f
  | [], _ => rfl
  | r :: rs, f => by
    have ih := defT_tab rs f
    unfold defT rowOf tabT at ih ⊢
    simp only [List.map_cons, List.find?_cons]
    cases r.id == f
    · exact ih
    · rfl
theorem law_up (ns : List Int) (hl : ns.length ≤ 63) : ∃ h, PI.callN (defT rows) Gv 20 r_law_k03.id [.lst (ns.map .int)] [] = .ok (.bl true) h := by
  obtain ⟨h, e⟩ := law_ok ns hl
  refine ⟨h, callN_T (T := T) (fun f d q => ?_) e⟩
  rw [defT_tab]; exact q
theorem all_mk {l : PySem.W.OpenLaw} {w : World} {K : PySem.W.Frag} {h : Heap} {mg : Str → Option Value} {fa f0 f1 f2 f3 f4 f5 f6 f7 f8 f9 f10 f11 f12 f13 f14 f15 f16 f17 f18 f19 f20 f21 f22 f23 f24 f25 f26 : Addr} (X : K.In h) (G : h.Ns mainGlobals mg) (hfa : mg "law" = some (.ref fa))
    {od0 an0 od1 an1 od2 an2 od3 an3 od4 an4 od5 an5 od6 an6 od7 an7 od8 an8 od9 an9 od10 an10 od11 an11 od12 an12 od13 an13 od14 an14 od15 an15 od16 an16 od17 an17 od18 an18 od19 an19 od20 an20 od21 an21 od22 an22 od23 an23 od24 an24 od25 an25 od26 an26 : Option Addr} {sl0 sl1 sl2 sl3 sl4 sl5 sl6 sl7 sl8 sl9 sl10 sl11 sl12 sl13 sl14 sl15 sl16 sl17 sl18 sl19 sl20 sl21 sl22 sl23 sl24 sl25 sl26 : Array (Option Value)} {oc0 kV0 dc0 pm0 cd0 ct0 oc1 kV1 dc1 pm1 cd1 ct1 oc2 kV2 dc2 pm2 cd2 ct2 oc3 kV3 dc3 pm3 cd3 ct3 oc4 kV4 dc4 pm4 cd4 ct4 oc5 kV5 dc5 pm5 cd5 ct5 oc6 kV6 dc6 pm6 cd6 ct6 oc7 kV7 dc7 pm7 cd7 ct7 oc8 kV8 dc8 pm8 cd8 ct8 oc9 kV9 dc9 pm9 cd9 ct9 oc10 kV10 dc10 pm10 cd10 ct10 oc11 kV11 dc11 pm11 cd11 ct11 oc12 kV12 dc12 pm12 cd12 ct12 oc13 kV13 dc13 pm13 cd13 ct13 oc14 kV14 dc14 pm14 cd14 ct14 oc15 kV15 dc15 pm15 cd15 ct15 oc16 kV16 dc16 pm16 cd16 ct16 oc17 kV17 dc17 pm17 cd17 ct17 oc18 kV18 dc18 pm18 cd18 ct18 oc19 kV19 dc19 pm19 cd19 ct19 oc20 kV20 dc20 pm20 cd20 ct20 oc21 kV21 dc21 pm21 cd21 ct21 oc22 kV22 dc22 pm22 cd22 ct22 oc23 kV23 dc23 pm23 cd23 ct23 oc24 kV24 dc24 pm24 cd24 ct24 oc25 kV25 dc25 pm25 cd25 ct25 oc26 kV26 dc26 pm26 cd26 ct26 : Value}
    (a0 : PySem.W.nsIn K mainGlobals "pairs_of" = some (some (.ref f0))) (l0 : K.lookup f0 = some ⟨oc0, od0, .func (PySem.W.fnOf "pairs_of" "pairs_of" (defArgs r_pairs_of.st) (defBody r_pairs_of.st) (defScope r_pairs_of.st) .none kV0 dc0 pm0 an0 cd0 ct0), sl0⟩) (c0 : PySem.W.codeIn K cd0 "pairs_of" = true) (k0 : PySem.W.keepIn K (.ref f0) = true)
    (a1 : PySem.W.nsIn K mainGlobals "threes_of" = some (some (.ref f1))) (l1 : K.lookup f1 = some ⟨oc1, od1, .func (PySem.W.fnOf "threes_of" "threes_of" (defArgs r_threes_of.st) (defBody r_threes_of.st) (defScope r_threes_of.st) .none kV1 dc1 pm1 an1 cd1 ct1), sl1⟩) (c1 : PySem.W.codeIn K cd1 "threes_of" = true) (k1 : PySem.W.keepIn K (.ref f1) = true)
    (a2 : PySem.W.nsIn K mainGlobals "_law_cell" = some (some (.ref f2))) (l2 : K.lookup f2 = some ⟨oc2, od2, .func (PySem.W.fnOf "_law_cell" "_law_cell" (defArgs r_law_cell.st) (defBody r_law_cell.st) (defScope r_law_cell.st) .none kV2 dc2 pm2 an2 cd2 ct2), sl2⟩) (c2 : PySem.W.codeIn K cd2 "_law_cell" = true) (k2 : PySem.W.keepIn K (.ref f2) = true)
    (a3 : PySem.W.nsIn K mainGlobals "_law_well" = some (some (.ref f3))) (l3 : K.lookup f3 = some ⟨oc3, od3, .func (PySem.W.fnOf "_law_well" "_law_well" (defArgs r_law_well.st) (defBody r_law_well.st) (defScope r_law_well.st) .none kV3 dc3 pm3 an3 cd3 ct3), sl3⟩) (c3 : PySem.W.codeIn K cd3 "_law_well" = true) (k3 : PySem.W.keepIn K (.ref f3) = true)
    (a4 : PySem.W.nsIn K mainGlobals "_law_take" = some (some (.ref f4))) (l4 : K.lookup f4 = some ⟨oc4, od4, .func (PySem.W.fnOf "_law_take" "_law_take" (defArgs r_law_take.st) (defBody r_law_take.st) (defScope r_law_take.st) .none kV4 dc4 pm4 an4 cd4 ct4), sl4⟩) (c4 : PySem.W.codeIn K cd4 "_law_take" = true) (k4 : PySem.W.keepIn K (.ref f4) = true)
    (a5 : PySem.W.nsIn K mainGlobals "_law_shuffled" = some (some (.ref f5))) (l5 : K.lookup f5 = some ⟨oc5, od5, .func (PySem.W.fnOf "_law_shuffled" "_law_shuffled" (defArgs r_law_shuffled.st) (defBody r_law_shuffled.st) (defScope r_law_shuffled.st) .none kV5 dc5 pm5 an5 cd5 ct5), sl5⟩) (c5 : PySem.W.codeIn K cd5 "_law_shuffled" = true) (k5 : PySem.W.keepIn K (.ref f5) = true)
    (a6 : PySem.W.nsIn K mainGlobals "_law_threes" = some (some (.ref f6))) (l6 : K.lookup f6 = some ⟨oc6, od6, .func (PySem.W.fnOf "_law_threes" "_law_threes" (defArgs r_law_threes.st) (defBody r_law_threes.st) (defScope r_law_threes.st) .none kV6 dc6 pm6 an6 cd6 ct6), sl6⟩) (c6 : PySem.W.codeIn K cd6 "_law_threes" = true) (k6 : PySem.W.keepIn K (.ref f6) = true)
    (a7 : PySem.W.nsIn K mainGlobals "_law_any_table" = some (some (.ref f7))) (l7 : K.lookup f7 = some ⟨oc7, od7, .func (PySem.W.fnOf "_law_any_table" "_law_any_table" (defArgs r_law_any_table.st) (defBody r_law_any_table.st) (defScope r_law_any_table.st) .none kV7 dc7 pm7 an7 cd7 ct7), sl7⟩) (c7 : PySem.W.codeIn K cd7 "_law_any_table" = true) (k7 : PySem.W.keepIn K (.ref f7) = true)
    (a8 : PySem.W.nsIn K mainGlobals "place_of" = some (some (.ref f8))) (l8 : K.lookup f8 = some ⟨oc8, od8, .func (PySem.W.fnOf "place_of" "place_of" (defArgs r_place_of.st) (defBody r_place_of.st) (defScope r_place_of.st) .none kV8 dc8 pm8 an8 cd8 ct8), sl8⟩) (c8 : PySem.W.codeIn K cd8 "place_of" = true) (k8 : PySem.W.keepIn K (.ref f8) = true)
    (a9 : PySem.W.nsIn K mainGlobals "turns_of" = some (some (.ref f9))) (l9 : K.lookup f9 = some ⟨oc9, od9, .func (PySem.W.fnOf "turns_of" "turns_of" (defArgs r_turns_of.st) (defBody r_turns_of.st) (defScope r_turns_of.st) .none kV9 dc9 pm9 an9 cd9 ct9), sl9⟩) (c9 : PySem.W.codeIn K cd9 "turns_of" = true) (k9 : PySem.W.keepIn K (.ref f9) = true)
    (a10 : PySem.W.nsIn K mainGlobals "side" = some (some (.ref f10))) (l10 : K.lookup f10 = some ⟨oc10, od10, .func (PySem.W.fnOf "side" "side" (defArgs r_side.st) (defBody r_side.st) (defScope r_side.st) .none kV10 dc10 pm10 an10 cd10 ct10), sl10⟩) (c10 : PySem.W.codeIn K cd10 "side" = true) (k10 : PySem.W.keepIn K (.ref f10) = true)
    (a11 : PySem.W.nsIn K mainGlobals "_law_sides" = some (some (.ref f11))) (l11 : K.lookup f11 = some ⟨oc11, od11, .func (PySem.W.fnOf "_law_sides" "_law_sides" (defArgs r_law_sides.st) (defBody r_law_sides.st) (defScope r_law_sides.st) .none kV11 dc11 pm11 an11 cd11 ct11), sl11⟩) (c11 : PySem.W.codeIn K cd11 "_law_sides" = true) (k11 : PySem.W.keepIn K (.ref f11) = true)
    (a12 : PySem.W.nsIn K mainGlobals "_law_from" = some (some (.ref f12))) (l12 : K.lookup f12 = some ⟨oc12, od12, .func (PySem.W.fnOf "_law_from" "_law_from" (defArgs r_law_from.st) (defBody r_law_from.st) (defScope r_law_from.st) .none kV12 dc12 pm12 an12 cd12 ct12), sl12⟩) (c12 : PySem.W.codeIn K cd12 "_law_from" = true) (k12 : PySem.W.keepIn K (.ref f12) = true)
    (a13 : PySem.W.nsIn K mainGlobals "_law_sweep" = some (some (.ref f13))) (l13 : K.lookup f13 = some ⟨oc13, od13, .func (PySem.W.fnOf "_law_sweep" "_law_sweep" (defArgs r_law_sweep.st) (defBody r_law_sweep.st) (defScope r_law_sweep.st) .none kV13 dc13 pm13 an13 cd13 ct13), sl13⟩) (c13 : PySem.W.codeIn K cd13 "_law_sweep" = true) (k13 : PySem.W.keepIn K (.ref f13) = true)
    (a14 : PySem.W.nsIn K mainGlobals "_law_read" = some (some (.ref f14))) (l14 : K.lookup f14 = some ⟨oc14, od14, .func (PySem.W.fnOf "_law_read" "_law_read" (defArgs r_law_read.st) (defBody r_law_read.st) (defScope r_law_read.st) .none kV14 dc14 pm14 an14 cd14 ct14), sl14⟩) (c14 : PySem.W.codeIn K cd14 "_law_read" = true) (k14 : PySem.W.keepIn K (.ref f14) = true)
    (a15 : PySem.W.nsIn K mainGlobals "_law_ring_table" = some (some (.ref f15))) (l15 : K.lookup f15 = some ⟨oc15, od15, .func (PySem.W.fnOf "_law_ring_table" "_law_ring_table" (defArgs r_law_ring_table.st) (defBody r_law_ring_table.st) (defScope r_law_ring_table.st) .none kV15 dc15 pm15 an15 cd15 ct15), sl15⟩) (c15 : PySem.W.codeIn K cd15 "_law_ring_table" = true) (k15 : PySem.W.keepIn K (.ref f15) = true)
    (a16 : PySem.W.nsIn K mainGlobals "_law_table" = some (some (.ref f16))) (l16 : K.lookup f16 = some ⟨oc16, od16, .func (PySem.W.fnOf "_law_table" "_law_table" (defArgs r_law_table.st) (defBody r_law_table.st) (defScope r_law_table.st) .none kV16 dc16 pm16 an16 cd16 ct16), sl16⟩) (c16 : PySem.W.codeIn K cd16 "_law_table" = true) (k16 : PySem.W.keepIn K (.ref f16) = true)
    (a17 : PySem.W.nsIn K mainGlobals "_law_spoilt_table" = some (some (.ref f17))) (l17 : K.lookup f17 = some ⟨oc17, od17, .func (PySem.W.fnOf "_law_spoilt_table" "_law_spoilt_table" (defArgs r_law_spoilt_table.st) (defBody r_law_spoilt_table.st) (defScope r_law_spoilt_table.st) .none kV17 dc17 pm17 an17 cd17 ct17), sl17⟩) (c17 : PySem.W.codeIn K cd17 "_law_spoilt_table" = true) (k17 : PySem.W.keepIn K (.ref f17) = true)
    (a18 : PySem.W.nsIn K mainGlobals "_law_is" = some (some (.ref f18))) (l18 : K.lookup f18 = some ⟨oc18, od18, .func (PySem.W.fnOf "_law_is" "_law_is" (defArgs r_law_is.st) (defBody r_law_is.st) (defScope r_law_is.st) .none kV18 dc18 pm18 an18 cd18 ct18), sl18⟩) (c18 : PySem.W.codeIn K cd18 "_law_is" = true) (k18 : PySem.W.keepIn K (.ref f18) = true)
    (a19 : PySem.W.nsIn K mainGlobals "fours_of" = some (some (.ref f19))) (l19 : K.lookup f19 = some ⟨oc19, od19, .func (PySem.W.fnOf "fours_of" "fours_of" (defArgs r_fours_of.st) (defBody r_fours_of.st) (defScope r_fours_of.st) .none kV19 dc19 pm19 an19 cd19 ct19), sl19⟩) (c19 : PySem.W.codeIn K cd19 "fours_of" = true) (k19 : PySem.W.keepIn K (.ref f19) = true)
    (a20 : PySem.W.nsIn K mainGlobals "is_four_right" = some (some (.ref f20))) (l20 : K.lookup f20 = some ⟨oc20, od20, .func (PySem.W.fnOf "is_four_right" "is_four_right" (defArgs r_is_four_right.st) (defBody r_is_four_right.st) (defScope r_is_four_right.st) .none kV20 dc20 pm20 an20 cd20 ct20), sl20⟩) (c20 : PySem.W.codeIn K cd20 "is_four_right" = true) (k20 : PySem.W.keepIn K (.ref f20) = true)
    (a21 : PySem.W.nsIn K mainGlobals "is_five_right" = some (some (.ref f21))) (l21 : K.lookup f21 = some ⟨oc21, od21, .func (PySem.W.fnOf "is_five_right" "is_five_right" (defArgs r_is_five_right.st) (defBody r_is_five_right.st) (defScope r_is_five_right.st) .none kV21 dc21 pm21 an21 cd21 ct21), sl21⟩) (c21 : PySem.W.codeIn K cd21 "is_five_right" = true) (k21 : PySem.W.keepIn K (.ref f21) = true)
    (a22 : PySem.W.nsIn K mainGlobals "lie_of" = some (some (.ref f22))) (l22 : K.lookup f22 = some ⟨oc22, od22, .func (PySem.W.fnOf "lie_of" "lie_of" (defArgs r_lie_of.st) (defBody r_lie_of.st) (defScope r_lie_of.st) .none kV22 dc22 pm22 an22 cd22 ct22), sl22⟩) (c22 : PySem.W.codeIn K cd22 "lie_of" = true) (k22 : PySem.W.keepIn K (.ref f22) = true)
    (a23 : PySem.W.nsIn K mainGlobals "is_right" = some (some (.ref f23))) (l23 : K.lookup f23 = some ⟨oc23, od23, .func (PySem.W.fnOf "is_right" "is_right" (defArgs r_is_right.st) (defBody r_is_right.st) (defScope r_is_right.st) .none kV23 dc23 pm23 an23 cd23 ct23), sl23⟩) (c23 : PySem.W.codeIn K cd23 "is_right" = true) (k23 : PySem.W.keepIn K (.ref f23) = true)
    (a24 : PySem.W.nsIn K mainGlobals "_law_fours" = some (some (.ref f24))) (l24 : K.lookup f24 = some ⟨oc24, od24, .func (PySem.W.fnOf "_law_fours" "_law_fours" (defArgs r_law_fours.st) (defBody r_law_fours.st) (defScope r_law_fours.st) .none kV24 dc24 pm24 an24 cd24 ct24), sl24⟩) (c24 : PySem.W.codeIn K cd24 "_law_fours" = true) (k24 : PySem.W.keepIn K (.ref f24) = true)
    (a25 : PySem.W.nsIn K mainGlobals "_law_lie" = some (some (.ref f25))) (l25 : K.lookup f25 = some ⟨oc25, od25, .func (PySem.W.fnOf "_law_lie" "_law_lie" (defArgs r_law_lie.st) (defBody r_law_lie.st) (defScope r_law_lie.st) .none kV25 dc25 pm25 an25 cd25 ct25), sl25⟩) (c25 : PySem.W.codeIn K cd25 "_law_lie" = true) (k25 : PySem.W.keepIn K (.ref f25) = true)
    (a26 : PySem.W.nsIn K mainGlobals "law" = some (some (.ref f26))) (l26 : K.lookup f26 = some ⟨oc26, od26, .func (PySem.W.fnOf "law" "law" (defArgs r_law_k03.st) (defBody r_law_k03.st) (defScope r_law_k03.st) .none kV26 dc26 pm26 an26 cd26 ct26), sl26⟩) (c26 : PySem.W.codeIn K cd26 "law" = true) (k26 : PySem.W.keepIn K (.ref f26) = true)
    (z0 : PySem.W.nsIn K mainGlobals "len" = some none)
    (z1 : PySem.W.nsIn K mainGlobals "list" = some none)
    (z2 : PySem.W.nsIn K mainGlobals "tuple" = some none)
    (z3 : PySem.W.nsIn K mainGlobals "any" = some none)
    (z4 : PySem.W.nsIn K mainGlobals "all" = some none)
    (z5 : PySem.W.nsIn K mainGlobals "sum" = some none)
    (z6 : PySem.W.nsIn K mainGlobals "max" = some none)
    (z7 : PySem.W.nsIn K mainGlobals "min" = some none)
    (z8 : PySem.W.nsIn K mainGlobals "abs" = some none)
    (z9 : PySem.W.nsIn K mainGlobals "int" = some none)
    (z10 : PySem.W.nsIn K mainGlobals "sorted" = some none)
    (z11 : PySem.W.nsIn K mainGlobals "isinstance" = some none)
    (z12 : PySem.W.nsIn K mainGlobals "range" = some none)
    (z13 : PySem.W.nsIn K mainGlobals "enumerate" = some none)
    (z14 : PySem.W.nsIn K mainGlobals "zip" = some none)
    (z15 : PySem.W.nsIn K mainGlobals "bool" = some none)
    (z16 : PySem.W.nsIn K mainGlobals "str" = some none)
    (nl : noListK K = true) : ∃ fd : FuncData, (∀ (s : Shared) (v : Value), BindsTo s fd ⟨[v], []⟩ [("script", v)]) ∧ ∀ base : Heap, K.In base → base.Ns mainGlobals mg → FnOk l.prog w K mg base (L2.CX l.prog w) 20 fa fd ["script"] (spLaw K) := by
  have F0 := fun_mk (st := r_pairs_of.st) l0 c0 k0
  have b0 := F0.binds (ps := r_pairs_of.ps) fun _ _ _ _ _ _ us hl => match us, hl with | [_], _ => rfl
  have F1 := fun_mk (st := r_threes_of.st) l1 c1 k1
  have b1 := F1.binds (ps := r_threes_of.ps) fun _ _ _ _ _ _ us hl => match us, hl with | [_], _ => rfl
  have F2 := fun_mk (st := r_law_cell.st) l2 c2 k2
  have b2 := F2.binds (ps := r_law_cell.ps) fun _ _ _ _ _ _ us hl => match us, hl with | [_, _], _ => rfl
  have F3 := fun_mk (st := r_law_well.st) l3 c3 k3
  have b3 := F3.binds (ps := r_law_well.ps) fun _ _ _ _ _ _ us hl => match us, hl with | [_, _], _ => rfl
  have F4 := fun_mk (st := r_law_take.st) l4 c4 k4
  have b4 := F4.binds (ps := r_law_take.ps) fun _ _ _ _ _ _ us hl => match us, hl with | [_, _], _ => rfl
  have F5 := fun_mk (st := r_law_shuffled.st) l5 c5 k5
  have b5 := F5.binds (ps := r_law_shuffled.ps) fun _ _ _ _ _ _ us hl => match us, hl with | [_, _], _ => rfl
  have F6 := fun_mk (st := r_law_threes.st) l6 c6 k6
  have b6 := F6.binds (ps := r_law_threes.ps) fun _ _ _ _ _ _ us hl => match us, hl with | [_], _ => rfl
  have F7 := fun_mk (st := r_law_any_table.st) l7 c7 k7
  have b7 := F7.binds (ps := r_law_any_table.ps) fun _ _ _ _ _ _ us hl => match us, hl with | [_, _, _], _ => rfl
  have F8 := fun_mk (st := r_place_of.st) l8 c8 k8
  have b8 := F8.binds (ps := r_place_of.ps) fun _ _ _ _ _ _ us hl => match us, hl with | [_, _, _, _], _ => rfl
  have F9 := fun_mk (st := r_turns_of.st) l9 c9 k9
  have b9 := F9.binds (ps := r_turns_of.ps) fun _ _ _ _ _ _ us hl => match us, hl with | [_, _, _], _ => rfl
  have F10 := fun_mk (st := r_side.st) l10 c10 k10
  have b10 := F10.binds (ps := r_side.ps) fun _ _ _ _ _ _ us hl => match us, hl with | [_, _, _, _], _ => rfl
  have F11 := fun_mk (st := r_law_sides.st) l11 c11 k11
  have b11 := F11.binds (ps := r_law_sides.ps) fun _ _ _ _ _ _ us hl => match us, hl with | [_], _ => rfl
  have F12 := fun_mk (st := r_law_from.st) l12 c12 k12
  have b12 := F12.binds (ps := r_law_from.ps) fun _ _ _ _ _ _ us hl => match us, hl with | [_, _], _ => rfl
  have F13 := fun_mk (st := r_law_sweep.st) l13 c13 k13
  have b13 := F13.binds (ps := r_law_sweep.ps) fun _ _ _ _ _ _ us hl => match us, hl with | [_, _], _ => rfl
  have F14 := fun_mk (st := r_law_read.st) l14 c14 k14
  have b14 := F14.binds (ps := r_law_read.ps) fun _ _ _ _ _ _ us hl => match us, hl with | [_], _ => rfl
  have F15 := fun_mk (st := r_law_ring_table.st) l15 c15 k15
  have b15 := F15.binds (ps := r_law_ring_table.ps) fun _ _ _ _ _ _ us hl => match us, hl with | [_], _ => rfl
  have F16 := fun_mk (st := r_law_table.st) l16 c16 k16
  have b16 := F16.binds (ps := r_law_table.ps) fun _ _ _ _ _ _ us hl => match us, hl with | [_, _, _], _ => rfl
  have F17 := fun_mk (st := r_law_spoilt_table.st) l17 c17 k17
  have b17 := F17.binds (ps := r_law_spoilt_table.ps) fun _ _ _ _ _ _ us hl => match us, hl with | [_, _, _], _ => rfl
  have F18 := fun_mk (st := r_law_is.st) l18 c18 k18
  have b18 := F18.binds (ps := r_law_is.ps) fun _ _ _ _ _ _ us hl => match us, hl with | [_, _], _ => rfl
  have F19 := fun_mk (st := r_fours_of.st) l19 c19 k19
  have b19 := F19.binds (ps := r_fours_of.ps) fun _ _ _ _ _ _ us hl => match us, hl with | [_], _ => rfl
  have F20 := fun_mk (st := r_is_four_right.st) l20 c20 k20
  have b20 := F20.binds (ps := r_is_four_right.ps) fun _ _ _ _ _ _ us hl => match us, hl with | [_, _], _ => rfl
  have F21 := fun_mk (st := r_is_five_right.st) l21 c21 k21
  have b21 := F21.binds (ps := r_is_five_right.ps) fun _ _ _ _ _ _ us hl => match us, hl with | [_, _, _], _ => rfl
  have F22 := fun_mk (st := r_lie_of.st) l22 c22 k22
  have b22 := F22.binds (ps := r_lie_of.ps) fun _ _ _ _ _ _ us hl => match us, hl with | [_], _ => rfl
  have F23 := fun_mk (st := r_is_right.st) l23 c23 k23
  have b23 := F23.binds (ps := r_is_right.ps) fun _ _ _ _ _ _ us hl => match us, hl with | [_], _ => rfl
  have F24 := fun_mk (st := r_law_fours.st) l24 c24 k24
  have b24 := F24.binds (ps := r_law_fours.ps) fun _ _ _ _ _ _ us hl => match us, hl with | [_], _ => rfl
  have F25 := fun_mk (st := r_law_lie.st) l25 c25 k25
  have b25 := F25.binds (ps := r_law_lie.ps) fun _ _ _ _ _ _ us hl => match us, hl with | [_], _ => rfl
  have F26 := fun_mk (st := r_law_k03.st) l26 c26 k26
  have b26 := F26.binds (ps := r_law_k03.ps) fun _ _ _ _ _ _ us hl => match us, hl with | [_], _ => rfl
  have hD : ∀ r ∈ rows, DefAt K mg r := by
    intro r hr
    simp only [rows, List.mem_cons, List.not_mem_nil, or_false] at hr
    rcases hr with rfl | rfl | rfl | rfl | rfl | rfl | rfl | rfl | rfl | rfl | rfl | rfl | rfl | rfl | rfl | rfl | rfl | rfl | rfl | rfl | rfl | rfl | rfl | rfl | rfl | rfl | rfl
    · exact ⟨f0, _, PySem.W.mg_of X G a0, F0, b0⟩
    · exact ⟨f1, _, PySem.W.mg_of X G a1, F1, b1⟩
    · exact ⟨f2, _, PySem.W.mg_of X G a2, F2, b2⟩
    · exact ⟨f3, _, PySem.W.mg_of X G a3, F3, b3⟩
    · exact ⟨f4, _, PySem.W.mg_of X G a4, F4, b4⟩
    · exact ⟨f5, _, PySem.W.mg_of X G a5, F5, b5⟩
    · exact ⟨f6, _, PySem.W.mg_of X G a6, F6, b6⟩
    · exact ⟨f7, _, PySem.W.mg_of X G a7, F7, b7⟩
    · exact ⟨f8, _, PySem.W.mg_of X G a8, F8, b8⟩
    · exact ⟨f9, _, PySem.W.mg_of X G a9, F9, b9⟩
    · exact ⟨f10, _, PySem.W.mg_of X G a10, F10, b10⟩
    · exact ⟨f11, _, PySem.W.mg_of X G a11, F11, b11⟩
    · exact ⟨f12, _, PySem.W.mg_of X G a12, F12, b12⟩
    · exact ⟨f13, _, PySem.W.mg_of X G a13, F13, b13⟩
    · exact ⟨f14, _, PySem.W.mg_of X G a14, F14, b14⟩
    · exact ⟨f15, _, PySem.W.mg_of X G a15, F15, b15⟩
    · exact ⟨f16, _, PySem.W.mg_of X G a16, F16, b16⟩
    · exact ⟨f17, _, PySem.W.mg_of X G a17, F17, b17⟩
    · exact ⟨f18, _, PySem.W.mg_of X G a18, F18, b18⟩
    · exact ⟨f19, _, PySem.W.mg_of X G a19, F19, b19⟩
    · exact ⟨f20, _, PySem.W.mg_of X G a20, F20, b20⟩
    · exact ⟨f21, _, PySem.W.mg_of X G a21, F21, b21⟩
    · exact ⟨f22, _, PySem.W.mg_of X G a22, F22, b22⟩
    · exact ⟨f23, _, PySem.W.mg_of X G a23, F23, b23⟩
    · exact ⟨f24, _, PySem.W.mg_of X G a24, F24, b24⟩
    · exact ⟨f25, _, PySem.W.mg_of X G a25, F25, b25⟩
    · exact ⟨f26, _, PySem.W.mg_of X G a26, F26, b26⟩
  have hb : ∀ b : Str, b ∈ (["len", "list", "tuple", "any", "all", "sum", "max", "min", "abs", "int", "sorted", "isinstance", "range", "enumerate", "zip", "bool", "str"] : List Str) → mg b = none := by
    intro b hb
    simp only [List.mem_cons, List.not_mem_nil, or_false] at hb
    rcases hb with rfl | rfl | rfl | rfl | rfl | rfl | rfl | rfl | rfl | rfl | rfl | rfl | rfl | rfl | rfl | rfl | rfl
    · exact PySem.W.mg_none_of X G z0
    · exact PySem.W.mg_none_of X G z1
    · exact PySem.W.mg_none_of X G z2
    · exact PySem.W.mg_none_of X G z3
    · exact PySem.W.mg_none_of X G z4
    · exact PySem.W.mg_none_of X G z5
    · exact PySem.W.mg_none_of X G z6
    · exact PySem.W.mg_none_of X G z7
    · exact PySem.W.mg_none_of X G z8
    · exact PySem.W.mg_none_of X G z9
    · exact PySem.W.mg_none_of X G z10
    · exact PySem.W.mg_none_of X G z11
    · exact PySem.W.mg_none_of X G z12
    · exact PySem.W.mg_none_of X G z13
    · exact PySem.W.mg_none_of X G z14
    · exact PySem.W.mg_none_of X G z15
    · exact PySem.W.mg_none_of X G z16
  have e := hfa.symm.trans (PySem.W.mg_of X G a26)
  cases e
  exact ⟨_, fun s v => .of_eq rfl, fun base _ _ => law_fn rows chk_all Gv hD hb nl 20 r_law_k03 rfl law_up (PySem.W.mg_of X G a26) F26⟩
end L
end PI
open PySem PySem.W PyProof.Rows
set_option maxHeartbeats 0 in
theorem PySem.Challenge.cw_threesides_k03_first_lies_holds : PySem.Challenge.rw_threesides_k03_first_lies.Holds := by
  w_on; o_law; k_head; (case hw => w_witness2)
  k_fill
  refine L2.walk_of (l := PySem.Challenge.rw_threesides_k03_first_lies) (n := 63) (k := 20) (x := "script") (CX := fun w => L2.CX (PySem.Challenge.rw_threesides_k03_first_lies).prog w) (sp := fun w => PIS.spLaw _) rfl (by decide) rfl ⟨rfl, by decide, by decide⟩ (fun w h Y => PySem.W.kIn_of Y) ?F (fun _ _ a ns hl _ hS => ⟨a, ns, rfl, hS, hl, fun _ => rfl⟩) (fun _ _ _ _ _ h => PIS.cx_false h)
  case F =>
    intro w mg fa h KX G hmg
    refine' PI.L.all_mk KX G hmg ?a0 ?l0 ?c0 ?k0 ?a1 ?l1 ?c1 ?k1 ?a2 ?l2 ?c2 ?k2 ?a3 ?l3 ?c3 ?k3 ?a4 ?l4 ?c4 ?k4 ?a5 ?l5 ?c5 ?k5 ?a6 ?l6 ?c6 ?k6 ?a7 ?l7 ?c7 ?k7 ?a8 ?l8 ?c8 ?k8 ?a9 ?l9 ?c9 ?k9 ?a10 ?l10 ?c10 ?k10 ?a11 ?l11 ?c11 ?k11 ?a12 ?l12 ?c12 ?k12 ?a13 ?l13 ?c13 ?k13 ?a14 ?l14 ?c14 ?k14 ?a15 ?l15 ?c15 ?k15 ?a16 ?l16 ?c16 ?k16 ?a17 ?l17 ?c17 ?k17 ?a18 ?l18 ?c18 ?k18 ?a19 ?l19 ?c19 ?k19 ?a20 ?l20 ?c20 ?k20 ?a21 ?l21 ?c21 ?k21 ?a22 ?l22 ?c22 ?k22 ?a23 ?l23 ?c23 ?k23 ?a24 ?l24 ?c24 ?k24 ?a25 ?l25 ?c25 ?k25 ?a26 ?l26 ?c26 ?k26 ?z0 ?z1 ?z2 ?z3 ?z4 ?z5 ?z6 ?z7 ?z8 ?z9 ?z10 ?z11 ?z12 ?z13 ?z14 ?z15 ?z16 ?nl
    (case a0 => k_is)
    (case l0 => k_is)
    (case c0 => k_is)
    (case k0 => k_is)
    (case a1 => k_is)
    (case l1 => k_is)
    (case c1 => k_is)
    (case k1 => k_is)
    (case a2 => k_is)
    (case l2 => k_is)
    (case c2 => k_is)
    (case k2 => k_is)
    (case a3 => k_is)
    (case l3 => k_is)
    (case c3 => k_is)
    (case k3 => k_is)
    (case a4 => k_is)
    (case l4 => k_is)
    (case c4 => k_is)
    (case k4 => k_is)
    (case a5 => k_is)
    (case l5 => k_is)
    (case c5 => k_is)
    (case k5 => k_is)
    (case a6 => k_is)
    (case l6 => k_is)
    (case c6 => k_is)
    (case k6 => k_is)
    (case a7 => k_is)
    (case l7 => k_is)
    (case c7 => k_is)
    (case k7 => k_is)
    (case a8 => k_is)
    (case l8 => k_is)
    (case c8 => k_is)
    (case k8 => k_is)
    (case a9 => k_is)
    (case l9 => k_is)
    (case c9 => k_is)
    (case k9 => k_is)
    (case a10 => k_is)
    (case l10 => k_is)
    (case c10 => k_is)
    (case k10 => k_is)
    (case a11 => k_is)
    (case l11 => k_is)
    (case c11 => k_is)
    (case k11 => k_is)
    (case a12 => k_is)
    (case l12 => k_is)
    (case c12 => k_is)
    (case k12 => k_is)
    (case a13 => k_is)
    (case l13 => k_is)
    (case c13 => k_is)
    (case k13 => k_is)
    (case a14 => k_is)
    (case l14 => k_is)
    (case c14 => k_is)
    (case k14 => k_is)
    (case a15 => k_is)
    (case l15 => k_is)
    (case c15 => k_is)
    (case k15 => k_is)
    (case a16 => k_is)
    (case l16 => k_is)
    (case c16 => k_is)
    (case k16 => k_is)
    (case a17 => k_is)
    (case l17 => k_is)
    (case c17 => k_is)
    (case k17 => k_is)
    (case a18 => k_is)
    (case l18 => k_is)
    (case c18 => k_is)
    (case k18 => k_is)
    (case a19 => k_is)
    (case l19 => k_is)
    (case c19 => k_is)
    (case k19 => k_is)
    (case a20 => k_is)
    (case l20 => k_is)
    (case c20 => k_is)
    (case k20 => k_is)
    (case a21 => k_is)
    (case l21 => k_is)
    (case c21 => k_is)
    (case k21 => k_is)
    (case a22 => k_is)
    (case l22 => k_is)
    (case c22 => k_is)
    (case k22 => k_is)
    (case a23 => k_is)
    (case l23 => k_is)
    (case c23 => k_is)
    (case k23 => k_is)
    (case a24 => k_is)
    (case l24 => k_is)
    (case c24 => k_is)
    (case k24 => k_is)
    (case a25 => k_is)
    (case l25 => k_is)
    (case c25 => k_is)
    (case k25 => k_is)
    (case a26 => k_is)
    (case l26 => k_is)
    (case c26 => k_is)
    (case k26 => k_is)
    (case z0 => k_is)
    (case z1 => k_is)
    (case z2 => k_is)
    (case z3 => k_is)
    (case z4 => k_is)
    (case z5 => k_is)
    (case z6 => k_is)
    (case z7 => k_is)
    (case z8 => k_is)
    (case z9 => k_is)
    (case z10 => k_is)
    (case z11 => k_is)
    (case z12 => k_is)
    (case z13 => k_is)
    (case z14 => k_is)
    (case z15 => k_is)
    (case z16 => k_is)
    (case nl => kernel_rfl)
