import PyProof.Rows.All
import KE.SortData
import HandS.ForMost
import HandS.Exc
import HandS.TryOnly
import HandS.TryMany
import HandS.IsInst
import HandS.Flow
import HandS.Style
import HandS.Codes
import HandS.Defaults
import HandS.FStr
import HandS.Zip
import HandS.Rev
import HandS.Strs
import HandS.TupAny
import HandS.TupMul
import HandS.Conv
import HandS.More
import HandS.SortInts
import HandS.MakeKw
import HandS.ExcOwn
import HandS.MakeKwOnly
import KE.KDictPairs
import HandS.Small
import HandS.HeadHook1
import HandS.HeadHook2
import HandS.Words
import PySem.Challenge.RW_appendedbook_k15_what_is_met
import Wide.All
import OpenK.AllK
import Wide.FinOn
import KE.KStateDown
import HandS.Ends
import HandS.Head0
import HandS.Head1
import HandS.Head2
import HandS.HeadEnd
import HandS.HeadHook3
import HandS.HeadHook4
section
/-! Fw1: a small language of plain data, and what its programs compute. -/
set_option linter.all false
set_option autoImplicit false
namespace Fw
abbrev Tx := List Nat
abbrev K1 := Int ⊕ Tx
/-- plain data; ref n: the n-th thing of the abstract heap -/
inductive D where
  | non
  | bl (b : Bool)
  | int (i : Int)
  | str (s : Tx)
  | tup (xs : List D)
  | lst (xs : List D)
  | dct (kvs : List (K1 × D))
  | obj (c : Nat) (fs : List (Nat × D))
  | ref (n : Nat)
  | fn (f : Nat)
  | roi (is : List Int)
  deriving Inhabited
/-- what may change -/
inductive O where
  | lst (xs : List D)
  | ro (xs : List D)
  | dct (kvs : List (K1 × D))
  | ins (c : Nat) (fs : List (Nat × D))
abbrev Hh := List O
abbrev Sg := List (Option D)
structure Exn where
  cls : Nat
  fld : Option D
inductive R (α : Type) where
  | ok (a : α) (h : Hh)
  | xn (x : Exn) (h : Hh)
  | bad
namespace R
def bind {α β : Type} (r : R α) (f : α → Hh → R β) : R β := match r with
  | .ok a h => f a h
  | .xn x h => .xn x h
  | .bad => .bad
@[simp] theorem bind_ok {α β : Type} (a : α) (h : Hh) (f : α → Hh → R β) : (R.ok a h).bind f = f a h := (rfl)
@[simp] theorem bind_xn {α β : Type} (x : Exn) (h : Hh) (f : α → Hh → R β) : (R.xn x h : R α).bind f = .xn x h := (rfl)
@[simp] theorem bind_bad {α β : Type} (f : α → Hh → R β) : (R.bad : R α).bind f = .bad := (rfl)
end R
/-- a value that may lack -/
def opt (o : Option D) (h : Hh) : R D := match o with
  | some d => .ok d h
  | none => .bad
@[simp] theorem opt_some (d : D) (h : Hh) : opt (some d) h = .ok d h := (rfl)
@[simp] theorem opt_none (h : Hh) : opt none h = .bad := (rfl)
def line : Nat := 16777216

/-! ### reading -/
def asLst (h : Hh) : D → Option (List D)
  | .lst xs => some xs
  | .ref n => match h[n]? with
    | some (.lst xs) => some xs
    | _ => none
  | _ => none
def asSeq (h : Hh) : D → Option (List D)
  | .tup xs => some xs
  | .roi is => some (is.map .int)
  | .lst xs => some xs
  | .ref n => match h[n]? with
    | some (.lst xs) => some xs
    | some (.ro xs) => some xs
    | _ => none
  | _ => none
def asDct (h : Hh) : D → Option (List (K1 × D))
  | .dct kvs => some kvs
  | .ref n => match h[n]? with
    | some (.dct kvs) => some kvs
    | _ => none
  | _ => none
def asObj (h : Hh) : D → Option (Nat × List (Nat × D))
  | .obj c fs => some (c, fs)
  | .ref n => match h[n]? with
    | some (.ins c fs) => some (c, fs)
    | _ => none
  | _ => none
def key1 : D → Option K1
  | .int i => some (.inl i)
  | .str s => some (.inr s)
  | _ => none
def unkey : K1 → D
  | .inl i => .int i
  | .inr s => .str s
/-- truth -/
def tru (h : Hh) : D → Option Bool
  | .non => some false
  | .bl b => some b
  | .int i => some (i != 0)
  | .str s => if s.length ≤ line then some (!s.isEmpty) else none
  | .tup xs => some (!xs.isEmpty)
  | .lst xs => some (!xs.isEmpty)
  | .ref n => match h[n]? with
    | some (.lst xs) => some (!xs.isEmpty)
    | some (.ro xs) => some (!xs.isEmpty)
    | _ => none
  | _ => none
/-- the value with what it refers to written out (n deep) -/
def seen (h : Hh) : Nat → D → Option D
  | _, .ref n => match h[n]? with
    | some (.lst xs) => some (.lst xs)
    | some (.ro xs) => some (.lst xs)
    | some (.dct kvs) => some (.dct kvs)
    | _ => none
  | _, d => some d
mutual
/-- no reference, no def, no object within; texts of ordinary signs; so deep at most -/
def D.flat : Nat → D → Bool
  | _, .non => true
  | _, .bl _ => true
  | _, .int _ => true
  | _, .str s => s.all (· < 1114112)
  | 0, .tup xs => xs.isEmpty
  | n + 1, .tup xs => flatAll n xs
  | 0, .lst xs => xs.isEmpty
  | n + 1, .lst xs => flatAll n xs
  | _, _ => false
def flatAll : Nat → List D → Bool
  | _, [] => true
  | n, x :: xs => x.flat n && flatAll n xs
end
mutual
/-- == of data without dicts -/
def D.eqv : D → D → Bool
  | .non, .non => true
  | .bl a, .bl b => a == b
  | .bl a, .int j => (if a then 1 else 0) == j
  | .int i, .bl b => i == (if b then 1 else 0)
  | .int i, .int j => i == j
  | .str x, .str y => x == y
  | .lst xs, .lst ys => eqvAll xs ys
  | .tup xs, .tup ys => eqvAll xs ys
  | _, _ => false
def eqvAll : List D → List D → Bool
  | [], [] => true
  | x :: xs, y :: ys => x.eqv y && eqvAll xs ys
  | _, _ => false
end
def scalar : D → Bool
  | .non => true
  | .bl _ => true
  | .int _ => true
  | .str _ => true
  | _ => false
/-- scalars that == tells apart at once -/
def scalPair : D → D → Bool
  | .bl _, .int _ => false
  | .int _, .bl _ => false
  | a, b => scalar a && scalar b
def eqD (h : Hh) (a b : D) : Option Bool :=
  if scalPair a b then some (a.eqv b) else
  match seen h 0 a, seen h 0 b with
  | some a, some b => if a.flat 60 && b.flat 60 then some (a.eqv b) else none
  | _, _ => none
/-- items that are numbers, truths, asTexts, None -/
def flatItem (d : D) : Bool := scalar d

def D.isNon : D → Bool
  | .non => true
  | _ => false
/-! ### operators -/
inductive Bop where
  | add | sub | mul | fdiv | mod | pow
inductive Cop where
  | eq | ne | lt | le | gt | ge | is_ | isnt | in_ | notin
def asTexts : List D → Option (List Tx)
  | [] => some []
  | .str s :: r => (asTexts r).map (s :: ·)
  | _ :: _ => none
def asInts : List D → Option (List Int)
  | [] => some []
  | .int i :: r => (asInts r).map (i :: ·)
  | _ :: _ => none
def asBools : List D → Option (List Bool)
  | [] => some []
  | .bl b :: r => (asBools r).map (b :: ·)
  | _ :: _ => none
def big : Int := 18446744073709551616
def binop (h : Hh) : Bop → D → D → Option D
  | .add, .int i, .int j => some (.int (i + j))
  | .add, .str x, .str y => if x.length + y.length ≤ line then some (.str (x ++ y)) else none
  | .add, .tup xs, .tup ys => if xs.length + ys.length ≤ line then some (.tup (xs ++ ys)) else none
  | .add, a, b => match asLst h a, asLst h b with
    | some xs, some ys => if xs.length + ys.length ≤ line then some (.lst (xs ++ ys)) else none
    | _, _ => none
  | .sub, .int i, .int j => some (.int (i - j))
  | .mul, .int i, .int j => if (-big < i ∧ i < big) ∨ (-big < j ∧ j < big) then some (.int (i * j)) else none
  | .mul, .str x, .int j => if 0 ≤ j ∧ j ≤ 100000 ∧ x.length * j.toNat ≤ line then some (.str (List.flatten (List.replicate j.toNat x))) else none
  | .mul, .tup xs, .int j => if xs ≠ [] ∧ 2 ≤ j ∧ j ≤ 1000 ∧ xs.length ≤ 1000 then some (.tup (List.flatten (List.replicate j.toNat xs))) else none
  | .fdiv, .int i, .int j => if 0 < j ∧ j < 1073741824 then some (.int (i / j)) else none
  | .mod, .int i, .int j => if 0 < j then some (.int (i % j)) else none
  | .pow, .int i, .int j => if 0 ≤ j ∧ j ≤ 1000000 ∧ i.natAbs < 18446744073709551616 then some (.int (i ^ j.toNat)) else none
  | _, _, _ => none
/-- x begins somewhere in y -/
def isPre : Tx → Tx → Bool
  | [], _ => true
  | _ :: _, [] => false
  | a :: x, b :: y => a == b && isPre x y
/-- a in b, b a dict, a list, a tuple -/
def isMem (h : Hh) (a b : D) : Option Bool := match asDct h b with
  | some kvs => (key1 a).map fun k => kvs.any fun q => decide (q.1 = k)
  | none => match asSeq h b with
    | some xs => if scalar a && xs.all scalar then some (xs.any fun y => y.eqv a) else none
    | none => none
def cmpop (h : Hh) : Cop → D → D → Option Bool
  | .eq, a, b => eqD h a b
  | .ne, a, b => (eqD h a b).map (!·)
  | .lt, .int i, .int j => some (decide (i < j))
  | .le, .int i, .int j => some (decide (i ≤ j))
  | .gt, .int i, .int j => some (decide (j < i))
  | .ge, .int i, .int j => some (decide (j ≤ i))
  | .lt, .str x, .str y => some (decide (x < y))
  | .le, .str x, .str y => some (!decide (y < x))
  | .is_, a, .non => some a.isNon
  | .isnt, a, .non => some (!a.isNon)
  | .is_, .bl a, .bl b => some (a == b)
  | .isnt, .bl a, .bl b => some (a != b)
  | .in_, .str [c], .str y => some (decide (c ∈ y))
  | .notin, .str [c], .str y => some (!decide (c ∈ y))
  | .in_, a, b => isMem h a b
  | .notin, a, b => (isMem h a b).map (!·)
  | _, _, _ => none
/-- the place that an index of any sign means -/
def ixn (n : Nat) (i : Int) : Option Nat := if 0 ≤ i then (if i < n then some i.toNat else none) else if -(n : Int) ≤ i then some (i + n).toNat else none
def look (k : K1) : List (K1 × D) → Option D
  | [] => none
  | (j, d) :: r => if j = k then some d else look k r
def put (k : K1) (d : D) (l : List (K1 × D)) : List (K1 × D) :=
  if l.any fun q => decide (q.1 = k) then l.map fun q => if q.1 = k then (q.1, d) else q else l ++ [(k, d)]
def drop1 (k : K1) (l : List (K1 × D)) : List (K1 × D) := l.filter fun q => decide (q.1 ≠ k)
def index (h : Hh) (a b : D) : Option D := match b with
  | .int i => (match a with
    | .str s => if s.length ≤ line then ((ixn s.length i).bind fun j => s[j]?).map fun c => .str [c] else none
    | _ => match asSeq h a with
      | some xs => (ixn xs.length i).bind fun j => xs[j]?
      | none => (asDct h a).bind fun kvs => look (.inl i) kvs)
  | .str s => (asDct h a).bind fun kvs => look (.inr s) kvs
  | _ => none
/-- a slice's bound as a place among n (d where it is left out) -/
def six (n d : Nat) : Option Int → Nat
  | none => d
  | some v => if v < 0 then (v + (n : Int)).toNat else min v.toNat n
def cut {α : Type} (xs : List α) (lo hi : Option Int) : List α := (xs.drop (six xs.length 0 lo)).take (six xs.length xs.length hi - six xs.length 0 lo)
def slice (h : Hh) (a : D) (lo hi : Option Int) : Option D := match a with
  | .str s => if s.length ≤ line then some (.str (cut s lo hi)) else none
  | .tup xs => some (.tup (cut xs lo hi))
  | a => (asLst h a).map fun xs => .lst (cut xs lo hi)
/-! ### built-in calls -/
mutual
def D.py : D → PySem.PyData
  | .non => .none
  | .bl b => .bool b
  | .int i => .int i
  | .str s => .str ⟨s.toArray⟩
  | .tup xs => .tuple (pyAll xs)
  | .lst xs => .list (pyAll xs)
  | _ => .none
def pyAll : List D → List PySem.PyData
  | [] => []
  | x :: xs => x.py :: pyAll xs
end
def joinT (sep : Tx) : List Tx → Tx
  | [] => []
  | [x] => x
  | x :: y :: r => x ++ sep ++ joinT sep (y :: r)
def digits (i : Int) : Tx := (toString i).toList.map Char.toNat
def reprD (d : D) : Tx := d.py.shown.cps.toList
def sortD (xs : List D) : List D := xs.mergeSort (PySem.W.dataLe false D.py)
/-- each once, in the order of their first places -/
def once (xs : List Tx) : List Tx := match xs with
  | [] => []
  | x :: xs => x :: (once xs).filter fun y => decide (y ≠ x)
/-- texts by their signs, numbers -/
def sortT (xs : List Tx) : List Tx := xs.mergeSort fun a b => !decide (b < a)
def sortI (xs : List Int) : List Int := xs.mergeSort fun a b => decide (a ≤ b)
/-! built-in calls of one value -/
def lenD (h : Hh) (d : D) : Option D := match d with
  | .str s => if s.length ≤ line then some (.int s.length) else none
  | d => match asSeq h d with
    | some xs => some (.int xs.length)
    | none => (asDct h d).map fun kvs => .int kvs.length
def absD (_ : Hh) : D → Option D
  | .int i => some (.int (if i < 0 then -i else i))
  | _ => none
def allD (h : Hh) (d : D) : Option D := ((asLst h d).bind asBools).map fun bs => .bl (bs.all id)
def anyD (h : Hh) (d : D) : Option D := ((asLst h d).bind asBools).map fun bs => .bl (bs.any id)
def sumD (h : Hh) (d : D) : Option D := ((asLst h d).bind asInts).map fun is => .int is.sum
def intD (_ : Hh) : D → Option D
  | .bl b => some (.int (if b then 1 else 0))
  | .int i => some (.int i)
  | _ => none
def strD (_ : Hh) : D → Option D
  | .int i => if i.natAbs < 2 ^ 1000 then some (.str (digits i)) else none
  | _ => none
def ordD (_ : Hh) : D → Option D
  | .str [c] => some (.int c)
  | _ => none
def listD (h : Hh) (d : D) : Option D := (asSeq h d).map .lst
def tupleD (h : Hh) (d : D) : Option D := match d with
  | .tup xs => some (.tup xs)
  | d => (asLst h d).map .tup
/-- the place of the written empty tuple among the constants -/
def empT : Nat := 1000
def dictD (h : Hh) (d : D) : Option D := match d with
  | .fn f => if f = empT then some (.dct []) else none
  | d => (asDct h d).map .dct
def intKeys : List (K1 × D) → Option (List Int)
  | [] => some []
  | (.inl i, _) :: r => (intKeys r).map (i :: ·)
  | _ => none
def textKeys : List (K1 × D) → Option (List Tx)
  | [] => some []
  | (.inr s, _) :: r => (textKeys r).map (s :: ·)
  | _ => none
/-- sorted(a list) -/
def sortedL (h : Hh) (d : D) : Option D := (asLst h d).bind fun xs => match asInts xs with
  | some is => some (.lst ((sortI is).map .int))
  | none => if xs.length < 64 then (asTexts xs).map fun ts => .lst ((sortT ts).map .str) else none
/-- sorted(a dict) -/
def sortedK (h : Hh) (d : D) : Option D := (asDct h d).bind fun kvs => if kvs.length < 64 then (match intKeys kvs with
  | some is => some (.lst ((sortI is).map .int))
  | none => (textKeys kvs).map fun ts => .lst ((sortT ts).map .str)) else none
def minD (_ : Hh) : D → D → Option D
  | .int i, .int j => some (.int (if j < i then j else i))
  | _, _ => none
def maxD (_ : Hh) : D → D → Option D
  | .int i, .int j => some (.int (if j > i then j else i))
  | _, _ => none
/-- exact types, for isinstance -/
inductive T1 where
  | non | bl | int | str | tup | lst | dct | own (c : Nat)
  deriving DecidableEq
def ty1 (h : Hh) : D → Option T1
  | .non => some .non
  | .bl _ => some .bl
  | .int _ => some .int
  | .str _ => some .str
  | .tup _ => some .tup
  | .lst _ => some .lst
  | .roi _ => some .lst
  | .dct _ => some .dct
  | .obj c _ => some (.own c)
  | .ref n => match h[n]? with
    | some (.lst _) => some .lst
    | some (.ro _) => some .lst
    | some (.dct _) => some .dct
    | some (.ins c _) => some (.own c)
    | none => none
  | .fn _ => none
def isT (p : T1 → Option Bool) (h : Hh) (d : D) : Option D := ((ty1 h d).bind p).map .bl

/-! ### methods of built-in values; what they change -/
def joinD (h : Hh) : D → D → Option (D × Option (Nat × O))
  | .str sep, d => (asSeq h d).bind fun xs => (asTexts xs).bind fun ts => if (ts.map List.length).sum + ts.length * sep.length ≤ line then some (.str (joinT sep ts), none) else none
  | _, _ => none
def appD (h : Hh) : D → D → Option (D × Option (Nat × O))
  | .ref n, d => match h[n]? with
    | some (.lst xs) => if xs.length < line then some (.non, some (n, .lst (xs ++ [d]))) else none
    | _ => none
  | _, _ => none
/-- x.pop(i) of a list of one's own -/
def popD (h : Hh) : D → D → Option (D × Option (Nat × O))
  | .ref n, .int i => match h[n]? with
    | some (.lst xs) => (ixn xs.length i).bind fun j => (xs[j]?).map fun d => (d, some (n, .lst (xs.eraseIdx j)))
    | _ => none
  | _, _ => none
/-- x.pop() -/
def pop0D (h : Hh) : D → Option (D × Option (Nat × O))
  | .ref n => match h[n]? with
    | some (.lst xs) => (xs[xs.length - 1]?).map fun d => (d, some (n, .lst xs.dropLast))
    | _ => none
  | _ => none
/-- the heap behind a change -/
def wr (h : Hh) : Option (Nat × O) → Hh
  | none => h
  | some (n, o) => h.set n o
@[simp] theorem wr_none (h : Hh) : wr h none = h := (rfl)
@[simp] theorem wr_some (h : Hh) (n : Nat) (o : O) : wr h (some (n, o)) = h.set n o := (rfl)

/-! ### the parts of a program's text, by what they compute -/
/-- targets -/
inductive G where
  | nm (i : Nat)
  | tp (gs : List G)
/-- what is walked -/
inductive It where
  | e | range | enum | zip
/-- what a statement comes to -/
inductive SR where
  | nx (σ : Sg) (h : Hh)
  | rt (d : D) (h : Hh)
  | bk (σ : Sg) (h : Hh)
  | ct (σ : Sg) (h : Hh)
  | xn (x : Exn) (σ : Sg) (h : Hh)
  | bad
def sget (σ : Sg) (i : Nat) : Option D := match σ[i]? with
  | some (some d) => some d
  | _ => none
def wipe (σ : Sg) : List Nat → Sg
  | [] => σ
  | v :: vs => (wipe σ vs).set v none
mutual
def bindG (σ : Sg) : G → D → Option Sg
  | .nm i, d => some (σ.set i (some d))
  | .tp gs, .tup xs => bindGs σ gs xs
  | .tp gs, .lst xs => bindGs σ gs xs
  | _, _ => none
def bindGs (σ : Sg) : List G → List D → Option Sg
  | [], [] => some σ
  | g :: gs, x :: xs => match bindG σ g x with
    | some σ => bindGs σ gs xs
    | none => none
  | _, _ => none
end
mutual
def G.ix : G → List Nat
  | .nm i => [i]
  | .tp gs => ixs gs
def ixs : List G → List Nat
  | [] => []
  | g :: gs => g.ix ++ ixs gs
end
def rangeD (lo : Int) (n : Nat) : List D := (List.range n).map fun (i : Nat) => .int (lo + (i : Int))
def zipD : List D → List D → List D
  | x :: xs, y :: ys => .tup [x, y] :: zipD xs ys
  | _, _ => []
def enumD (xs : List D) : List D := xs.zipIdx.map fun q => .tup [.int q.2, q.1]
def lim : Int := 4611686018427387904
/-- the items of what is walked -/
def walk : It → List D → Option (List D)
  | .e, [.str s] => some (s.map fun c => .str [c])
  | .e, [.lst xs] => some xs
  | .e, [.tup xs] => some xs
  | .range, [.int n] => if -lim ≤ n ∧ n < lim then some (rangeD 0 n.toNat) else none
  | .range, [.int m, .int n] => if -lim ≤ m ∧ m < lim ∧ -lim ≤ n ∧ n < lim then some (rangeD m (n - m).toNat) else none
  | .enum, [.lst xs] => some (enumD xs)
  | .zip, [.lst xs, .lst ys] => some (zipD xs ys)
  | .zip, [.tup xs, .tup ys] => some (zipD xs ys)
  | _, _ => none

/-! ### the parts of a program's text, by what they compute -/
abbrev Call := Nat → List D → Hh → R D
abbrev TM := Sg → Hh → R D
abbrev AM := Sg → Hh → R (List D)
abbrev BM := Sg → Hh → R Bool
abbrev SM := Sg → Hh → SR
/-- a truth that may lack -/
def optB (o : Option Bool) (h : Hh) : R Bool := match o with
  | some d => .ok d h
  | none => .bad
@[simp] theorem optB_some (d : Bool) (h : Hh) : optB (some d) h = .ok d h := (rfl)
@[simp] theorem optB_none (h : Hh) : optB none h = .bad := (rfl)
def eC (d : D) : TM := fun _ h => .ok d h
def eV (i : Nat) : TM := fun σ h => opt (sget σ i) h
def aNil : AM := fun _ h => .ok [] h
def aCons (a : TM) (r : AM) : AM := fun σ h => (a σ h).bind fun d h => (r σ h).bind fun ds h => .ok (d :: ds) h
def eTup (as : AM) : TM := fun σ h => (as σ h).bind fun ds h => if ds.length ≤ line then .ok (.tup ds) h else .bad
def eLst (as : AM) : TM := fun σ h => (as σ h).bind fun ds h => if ds.length ≤ line then .ok (.lst ds) h else .bad
def eDct0 : TM := fun _ h => .ok (.dct []) h
/-- a new thing of one's own -/
def eNewL (as : AM) : TM := fun σ h => (as σ h).bind fun ds h => if ds.length ≤ line then .ok (.ref h.length) (h ++ [.lst ds]) else .bad
def eNewD : TM := fun _ h => .ok (.ref h.length) (h ++ [.dct []])
def eBin (op : Bop) (a b : TM) : TM := fun σ h => (a σ h).bind fun d h => (b σ h).bind fun e h => opt (binop h op d e) h
def eCmp (op : Cop) (a b : TM) : TM := fun σ h => (a σ h).bind fun d h => (b σ h).bind fun e h => opt ((cmpop h op d e).map .bl) h
def eAnd (a b : TM) : TM := fun σ h => (a σ h).bind fun d h => match tru h d with
  | none => .bad
  | some true => b σ h
  | some false => .ok d h
def eOr (a b : TM) : TM := fun σ h => (a σ h).bind fun d h => match tru h d with
  | none => .bad
  | some true => .ok d h
  | some false => b σ h
def eNot (a : TM) : TM := fun σ h => (a σ h).bind fun d h => opt ((tru h d).map fun t => .bl (!t)) h
def eIte (t : BM) (a b : TM) : TM := fun σ h => (t σ h).bind fun k h => if k then a σ h else b σ h
def eNeg (a : TM) : TM := fun σ h => (a σ h).bind fun d h => match d with
  | .int i => .ok (.int (-i)) h
  | _ => .bad
def eCall (c : List D → Hh → R D) (as : AM) : TM := fun σ h => (as σ h).bind fun ds h => c ds h
/-- a method: the object is the first value -/
def eMeth (c : List D → Hh → R D) (cls : Nat) (a : TM) (as : AM) : TM := fun σ h => (a σ h).bind fun d h => match asObj h d with
  | some (k, _) => if k = cls then (as σ h).bind fun ds h => c (d :: ds) h else .bad
  | none => .bad
def eU (f : Hh → D → Option D) (a : TM) : TM := fun σ h => (a σ h).bind fun d h => opt (f h d) h
def eU2 (f : Hh → D → D → Option D) (a b : TM) : TM := fun σ h => (a σ h).bind fun d h => (b σ h).bind fun e h => opt (f h d e) h
def optW (h : Hh) (o : Option (D × Option (Nat × O))) : R D := match o with
  | none => .bad
  | some (r, w) => .ok r (wr h w)
@[simp] theorem optW_some (h : Hh) (r : D) (w : Option (Nat × O)) : optW h (some (r, w)) = .ok r (wr h w) := (rfl)
/-- x.m(e): x is what k tells -/
def eM (k : Hh → D → Bool) (f : Hh → D → D → Option (D × Option (Nat × O))) (a b : TM) : TM := fun σ h => (a σ h).bind fun d h => if k h d then (b σ h).bind fun e h => optW h (f h d e) else .bad
def eM0 (f : Hh → D → Option (D × Option (Nat × O))) (a : TM) : TM := fun σ h => (a σ h).bind fun d h => optW h (f h d)
def isLst (h : Hh) (d : D) : Bool := (asLst h d).isSome
def isStr (_ : Hh) : D → Bool
  | .str _ => true
  | _ => false
def eIx (a b : TM) : TM := fun σ h => (a σ h).bind fun d h => (b σ h).bind fun e h => opt (index h d e) h
/-- a slice's bound -/
abbrev OM := Sg → Hh → R (Option Int)
def oN : OM := fun _ h => .ok none h
def oS (a : TM) : OM := fun σ h => (a σ h).bind fun d h => match d with
  | .int i => .ok (some i) h
  | _ => .bad
def eSl (a : TM) (lo hi : OM) : TM := fun σ h => (a σ h).bind fun d h => (lo σ h).bind fun l h => (hi σ h).bind fun u h => opt (slice h d l u) h
def eFld (cls k : Nat) (a : TM) : TM := fun σ h => (a σ h).bind fun d h => match asObj h d with
  | some (c, fs) => if c = cls then opt (fs.lookup k) h else .bad
  | none => .bad
def eCallK (c : List D → Hh → R D) (g : List D → List D → List D) (as ks : AM) : TM := fun σ h => (as σ h).bind fun ds h => (ks σ h).bind fun es h => c (g ds es) h
/-- tests -/
def bT (a : TM) : BM := fun σ h => (a σ h).bind fun d h => optB (tru h d) h
def bCmp (op : Cop) (a b : TM) : BM := fun σ h => (a σ h).bind fun d h => (b σ h).bind fun e h => optB (cmpop h op d e) h
def bCh (op op' : Cop) (a b c : TM) : BM := fun σ h => (a σ h).bind fun d h => (b σ h).bind fun e h => match cmpop h op d e with
  | none => .bad
  | some false => .ok false h
  | some true => (c σ h).bind fun f h => optB (cmpop h op' e f) h
def eCh (op op' : Cop) (a b c : TM) : TM := fun σ h => (bCh op op' a b c σ h).bind fun k h => .ok (.bl k) h
def bAnd (a b : BM) : BM := fun σ h => (a σ h).bind fun k h => if k then b σ h else .ok false h
def bOr (a b : BM) : BM := fun σ h => (a σ h).bind fun k h => if k then .ok true h else b σ h
def bNot (a : BM) : BM := fun σ h => (a σ h).bind fun k h => .ok (!k) h
def bYes : BM := fun _ h => .ok true h
/-- comprehensions -/
def lcL (step : D → Hh → R (Option D)) : List D → List D → Hh → R (List D)
  | [], acc, h => .ok acc h
  | x :: xs, acc, h => (step x h).bind fun o h => match o with
    | none => lcL step xs acc h
    | some d => if acc.length < line then lcL step xs (acc ++ [d]) h else .bad
def noX {α : Type} : R α → R α
  | .xn _ _ => .bad
  | r => r
@[simp] theorem noX_ok {α : Type} (a : α) (h : Hh) : noX (.ok a h) = .ok a h := (rfl)
@[simp] theorem noX_xn {α : Type} (x : Exn) (h : Hh) : noX (.xn x h : R α) = .bad := (rfl)
@[simp] theorem noX_bad {α : Type} : noX (.bad : R α) = .bad := (rfl)
/-- what is walked, as items -/
def itM (it : It) (src : AM) : AM := fun σ h => (src σ h).bind fun ds h => match walk it ds with
  | none => .bad
  | some xs => .ok xs h
def lcStep (elt : TM) (g : G) (cond : BM) (own : List Nat) (σ : Sg) (x : D) (h : Hh) : R (Option D) := match bindG (wipe σ own) g x with
  | none => .bad
  | some σ => (cond σ h).bind fun t h => if t then (elt σ h).bind fun d h => .ok (some d) h else .ok none h
def eLc (elt : TM) (g : G) (it : It) (src : AM) (cond : BM) (own : List Nat) : TM := fun σ h => (itM it src σ h).bind fun xs h => (noX (lcL (lcStep elt g cond own σ) xs [] h)).bind fun ys h => .ok (.lst ys) h
def lcL2 (step : D → List D → Hh → R (List D)) : List D → List D → Hh → R (List D)
  | [], acc, h => .ok acc h
  | x :: xs, acc, h => (step x acc h).bind fun acc h => lcL2 step xs acc h
def lcStep2 (elt : TM) (g : G) (cond : BM) (g1 : G) (it1 : It) (src1 : AM) (cond1 : BM) (own own1 : List Nat) (σ : Sg) (x : D) (acc : List D) (h : Hh) : R (List D) := match bindG (wipe σ own) g x with
  | none => .bad
  | some σ => (cond σ h).bind fun t h => if t then (itM it1 src1 σ h).bind fun ys h => noX (lcL (lcStep elt g1 cond1 own1 σ) ys acc h) else .ok acc h
def eLc2 (elt : TM) (g : G) (it : It) (src : AM) (cond : BM) (g1 : G) (it1 : It) (src1 : AM) (cond1 : BM) (own own1 : List Nat) : TM := fun σ h => (itM it src σ h).bind fun xs h => (noX (lcL2 (lcStep2 elt g cond g1 it1 src1 cond1 own own1 σ) xs [] h)).bind fun ys h => .ok (.lst ys) h
/-- statements -/
def SR.of {α : Type} (σ : Sg) (r : R α) (k : α → Hh → SR) : SR := match r with
  | .ok a h => k a h
  | .xn x h => .xn x σ h
  | .bad => .bad
@[simp] theorem SR.of_ok {α : Type} (σ : Sg) (a : α) (h : Hh) (k : α → Hh → SR) : SR.of σ (.ok a h) k = k a h := (rfl)
@[simp] theorem SR.of_xn {α : Type} (σ : Sg) (x : Exn) (h : Hh) (k : α → Hh → SR) : SR.of σ (.xn x h) k = .xn x σ h := (rfl)
@[simp] theorem SR.of_bad {α : Type} (σ : Sg) (k : α → Hh → SR) : SR.of σ .bad k = .bad := (rfl)
/-- going on behind a statement -/
def SR.then_ (r : SR) (k : Sg → Hh → SR) : SR := match r with
  | .nx σ h => k σ h
  | r => r
@[simp] theorem SR.then_nx (σ : Sg) (h : Hh) (k : Sg → Hh → SR) : SR.then_ (.nx σ h) k = k σ h := (rfl)
@[simp] theorem SR.then_rt (d : D) (h : Hh) (k : Sg → Hh → SR) : SR.then_ (.rt d h) k = .rt d h := (rfl)
@[simp] theorem SR.then_bk (σ : Sg) (h : Hh) (k : Sg → Hh → SR) : SR.then_ (.bk σ h) k = .bk σ h := (rfl)
@[simp] theorem SR.then_ct (σ : Sg) (h : Hh) (k : Sg → Hh → SR) : SR.then_ (.ct σ h) k = .ct σ h := (rfl)
@[simp] theorem SR.then_xn (x : Exn) (σ : Sg) (h : Hh) (k : Sg → Hh → SR) : SR.then_ (.xn x σ h) k = .xn x σ h := (rfl)
@[simp] theorem SR.then_bad (k : Sg → Hh → SR) : SR.then_ .bad k = .bad := (rfl)
def sNil : SM := fun σ h => .nx σ h
def sCons (a b : SM) : SM := fun σ h => (a σ h).then_ b
def sSet (i : Nat) (e : TM) : SM := fun σ h => .of σ (e σ h) fun d h => .nx (σ.set i (some d)) h
def sAsg (g : G) (e : TM) : SM := fun σ h => .of σ (e σ h) fun d h => match bindG σ g d with
  | some σ => .nx σ h
  | none => .bad
/-- op= of numbers and texts -/
def augD : Bop → D → D → Option D
  | .add, .int i, .int j => some (.int (i + j))
  | .add, .str x, .str y => if x.length + y.length ≤ line then some (.str (x ++ y)) else none
  | .sub, .int i, .int j => some (.int (i - j))
  | _, _, _ => none
def sAug (i : Nat) (op : Bop) (e : TM) : SM := fun σ h => match sget σ i with
  | none => .bad
  | some d => .of σ (e σ h) fun e h => match augD op d e with
    | some r => .nx (σ.set i (some r)) h
    | none => .bad
/-- a[b] = c of one's own -/
def setIx (h : Hh) (a b c : D) : Option Hh := match a with
  | .ref n => match h[n]?, b with
    | some (.lst xs), .int i => (ixn xs.length i).map fun j => h.set n (.lst (xs.set j c))
    | some (.dct kvs), b => (key1 b).bind fun k => if kvs.length < line then some (h.set n (.dct (put k c kvs))) else none
    | _, _ => none
  | _ => none
def sSetI (a b c : TM) : SM := fun σ h => .of σ (c σ h) fun v h => .of σ (a σ h) fun o h => .of σ (b σ h) fun i h => match setIx h o i v with
  | some h => .nx σ h
  | none => .bad
def putF (k : Nat) (d : D) : List (Nat × D) → List (Nat × D)
  | [] => [(k, d)]
  | (j, e) :: r => if j = k then (j, d) :: r else (j, e) :: putF k d r
/-- a field of one's own object -/
def setFld (h : Hh) (cls k : Nat) (o v : D) : Option Hh := match o with
  | .ref n => match h[n]? with
    | some (.ins c fs) => if c = cls ∧ fs.length < 100 then some (h.set n (.ins c (putF k v fs))) else none
    | _ => none
  | _ => none
def sSetF (cls : Nat) (a : TM) (k : Nat) (c : TM) : SM := fun σ h => .of σ (c σ h) fun v h => .of σ (a σ h) fun o h => match setFld h cls k o v with
  | some h => .nx σ h
  | none => .bad
def sEx (e : TM) : SM := fun σ h => .of σ (e σ h) fun _ h => .nx σ h
def sRet (e : TM) : SM := fun σ h => .of σ (e σ h) fun d h => .rt d h
def sRetN : SM := fun _ h => .rt .non h
def sIf (t : BM) (a b : SM) : SM := fun σ h => .of σ (t σ h) fun k h => if k then a σ h else b σ h
def forL (body : D → Sg → Hh → SR) : List D → Sg → Hh → SR
  | [], σ, h => .nx σ h
  | x :: xs, σ, h => match body x σ h with
    | .nx σ h => forL body xs σ h
    | .ct σ h => forL body xs σ h
    | .bk σ h => .nx σ h
    | r => r
def forB (g : G) (b : SM) (x : D) (σ : Sg) (h : Hh) : SR := match bindG σ g x with
  | none => .bad
  | some σ => b σ h
def sFor (g : G) (it : It) (src : AM) (b : SM) : SM := fun σ h => .of σ (itM it src σ h) fun xs h => forL (forB g b) xs σ h
def whL (t : BM) (b : SM) : Nat → Sg → Hh → SR
  | 0, _, _ => .bad
  | n + 1, σ, h => .of σ (t σ h) fun k h => if k then (match b σ h with
    | .nx σ h => whL t b n σ h
    | .ct σ h => whL t b n σ h
    | .bk σ h => .nx σ h
    | r => r) else .nx σ h
def sWh (fuel : Nat) (t : BM) (b : SM) : SM := whL t b fuel
def sBrk : SM := fun σ h => .bk σ h
def sCnt : SM := fun σ h => .ct σ h
def sRaise (c : Nat) : SM := fun σ h => .xn ⟨c, none⟩ σ h
/-! ### calls -/
mutual
def D.closed : D → Bool
  | .tup xs => closedAll xs
  | .lst xs => closedAll xs
  | .dct kvs => closedK kvs
  | .obj _ fs => closedF fs
  | .ref _ => false
  | _ => true
def closedAll : List D → Bool
  | [] => true
  | x :: xs => x.closed && closedAll xs
def closedK : List (K1 × D) → Bool
  | [] => true
  | x :: xs => x.2.closed && closedK xs
def closedF : List (Nat × D) → Bool
  | [] => true
  | x :: xs => x.2.closed && closedF xs
end
def O.closed : O → Bool
  | .lst xs => closedAll xs
  | .ro xs => closedAll xs
  | .dct kvs => closedK kvs
  | .ins _ fs => closedF fs
/-- the arguments as the callee sees them, and which things it is lent (k of them ahead) -/
def lend (k : Nat) : List D → Option (List D × List Nat)
  | [] => some ([], [])
  | .ref n :: r => (lend (k + 1) r).map fun q => (.ref k :: q.1, n :: q.2)
  | d :: r => if d.closed then (lend k r).map fun q => (d :: q.1, q.2) else none
def lentO (h : Hh) : List Nat → Option Hh
  | [] => some []
  | n :: r => match h[n]? with
    | some o => if o.closed then (lentO h r).map (o :: ·) else none
    | none => none
mutual
/-- with its references replaced -/
def D.map_ (g : Nat → Option D) : D → Option D
  | .tup xs => (mapAll g xs).map .tup
  | .lst xs => (mapAll g xs).map .lst
  | .dct kvs => (mapK g kvs).map .dct
  | .obj c fs => (mapF g fs).map (.obj c)
  | .ref n => g n
  | d => some d
def mapAll (g : Nat → Option D) : List D → Option (List D)
  | [] => some []
  | x :: xs => (x.map_ g).bind fun y => (mapAll g xs).map (y :: ·)
def mapK (g : Nat → Option D) : List (K1 × D) → Option (List (K1 × D))
  | [] => some []
  | x :: xs => (x.2.map_ g).bind fun y => (mapK g xs).map ((x.1, y) :: ·)
def mapF (g : Nat → Option D) : List (Nat × D) → Option (List (Nat × D))
  | [] => some []
  | x :: xs => (x.2.map_ g).bind fun y => (mapF g xs).map ((x.1, y) :: ·)
end
/-- a thing of the callee's own as it stands (f deep); k: lent ones, which stand nowhere within -/
def frz (h : Hh) (k : Nat) : Nat → Nat → Option D
  | 0, _ => none
  | f + 1, n => if n < k then none else match h[n]? with
    | some (.lst xs) => (mapAll (frz h k f) xs).map .lst
    | some (.dct kvs) => (mapK (frz h k f) kvs).map .dct
    | some (.ins c fs) => (mapF (frz h k f) fs).map (.obj c)
    | _ => none
def frzO (h : Hh) (k : Nat) : O → Option O
  | .lst xs => (mapAll (frz h k 4) xs).map .lst
  | .ro xs => (mapAll (frz h k 4) xs).map .ro
  | .dct kvs => (mapK (frz h k 4) kvs).map .dct
  | .ins c fs => (mapF (frz h k 4) fs).map (.ins c)
/-- what is told, told to the caller: a lent thing is the caller's own again -/
def tell (h : Hh) (ns : List Nat) (d : D) : Option D := match d with
  | .ref n => match ns[n]? with
    | some m => some (.ref m)
    | none => frz h ns.length 4 n
  | d => d.map_ (frz h ns.length 4)
/-- lent things are given back: i the first one's place -/
def giveBack (hc : Hh) (k : Nat) : List Nat → Nat → Hh → Option Hh
  | [], _, h => some h
  | n :: ns, i, h => match hc[i]? with
    | some o => (frzO hc k o).bind fun o => giveBack hc k ns (i + 1) (h.set n o)
    | none => none
def tellX (h : Hh) (ns : List Nat) (x : Exn) : Option Exn := match x.fld with
  | none => some ⟨x.cls, none⟩
  | some d => (tell h ns d).map fun d => ⟨x.cls, some d⟩
def okB (d : Option D) (h : Option Hh) : R D := match d, h with
  | some d, some h => .ok d h
  | _, _ => .bad
@[simp] theorem okB_some (d : D) (h : Hh) : okB (some d) (some h) = .ok d h := (rfl)
def xnB (x : Option Exn) (h : Option Hh) : R D := match x, h with
  | some x, some h => .xn x h
  | _, _ => .bad
@[simp] theorem xnB_some (x : Exn) (h : Hh) : xnB (some x) (some h) = .xn x h := (rfl)
def back (ns : List Nat) (h : Hh) : SR → R D
  | .nx _ hc => okB (some .non) (giveBack hc ns.length ns 0 h)
  | .rt d hc => okB (tell hc ns d) (giveBack hc ns.length ns 0 h)
  | .xn x _ hc => xnB (tellX hc ns x) (giveBack hc ns.length ns 0 h)
  | _ => .bad
/-- __init__ has run: the new thing is told -/
def mkBack (ns : List Nat) (h : Hh) : SR → R D
  | .nx _ hc => back ns h (.rt (.ref ns.length) hc)
  | .rt .non hc => back ns h (.rt (.ref ns.length) hc)
  | .xn x σ hc => back ns h (.xn x σ hc)
  | _ => .bad
def startD (N : Nat) (ds : List D) : Sg := ds.map some ++ List.replicate (N - ds.length) none
/-- what is lent by the caller: the arguments as the callee sees them, where the things stood, the things -/
def lent (ds : List D) (h : Hh) : Option (List D × List Nat × Hh) := match lend 0 ds with
  | none => none
  | some (ds', ns) => if ns.Nodup then match lentO h ns with
    | none => none
    | some hc => some (ds', ns, hc) else none
/-- a def that has a heap of its own: things of the caller are lent -/
def own (np N : Nat) (b : SM) (ds : List D) (h : Hh) : R D := if ds.length = np then (match lent ds h with
  | none => .bad
  | some (ds', ns, hc) => back ns h (b (startD N ds') hc)) else .bad
/-- a class whose __init__ is such a def -/
def make (c np N : Nat) (b : SM) (ds : List D) (h : Hh) : R D := if ds.length + 1 = np then (match lent ds h with
  | none => .bad
  | some (ds', ns, hc) => mkBack ns h (b (startD N (.ref ns.length :: ds')) (hc ++ [.ins c []]))) else .bad
def SR.out : SR → R D
  | .nx _ h => .ok .non h
  | .rt d h => .ok d h
  | .xn x _ h => .xn x h
  | _ => .bad
/-- a def that works in the caller's heap -/
def full (np N : Nat) (b : SM) (ds : List D) (h : Hh) : R D := if ds.length = np then (b (startD N ds) h).out else .bad
end Fw
end
section
set_option Elab.async false
set_option linter.all false
set_option maxRecDepth 100000
set_option autoImplicit false
set_option maxHeartbeats 1000000
/-! Fw2: how plain data stands in the model's heap. -/
namespace Fw
open PySem PySem.Spec PyProof.Rows L2
/-- where the text's things stand -/
structure Wd where
  K : PySem.W.Frag
  fa : Nat → Addr
  ca : Nat → Addr
  an : Nat → Str
  inj : ∀ j k, an j = an k → j = k
def toS (t : Tx) : Str := ⟨t.toArray⟩
theorem toS_inj {a b : Tx} (h : toS a = toS b) : a = b := by
  have := congrArg (fun s : Str => s.cps.toList) h
  simpa [toS] using this
def keyS : K1 → Key
  | .inl i => .inl i
  | .inr s => .inr (toS s)
theorem keyS_inj {a b : K1} (h : keyS a = keyS b) : a = b := by
  cases a <;> cases b <;> simp [keyS] at h ⊢
  · exact h
  · exact toS_inj h
/-- a constant tuple of the written part -/
def KTup (K : PySem.W.Frag) (a : Addr) (vs : List V) : Prop :=
  ∃ (o : Obj) (its : Array Value) (n : Nat), K.lookup a = some o ∧ o.cls = .type "tuple" ∧ o.data = .seq its n ∧ its.size ≤ sizeLine ∧ Vals vs its.toList
/-- a constant list of the written part -/
def KLst (K : PySem.W.Frag) (a : Addr) (vs : List V) : Prop :=
  ∃ (o : Obj) (its : Array Value) (n : Nat), K.lookup a = some o ∧ o.cls = .type "list" ∧ o.dict = none ∧ o.data = .seq its n ∧ its.size ≤ sizeLine ∧ Vals vs its.toList
/-- a list of numbers that is only read -/
def RoI (K : PySem.W.Frag) (Z ρ : List Addr) (H : Hp) (a : Addr) (is : List Int) : Prop := (a ∉ Z ∧ a ∉ ρ ∧ Rd H a (.lst (is.map V.int))) ∨ KLst K a (is.map V.int)
mutual
/-- v stands for d: Z kept apart, ρ where the abstract heap's things stand -/
inductive RD (W : Wd) (Z ρ : List Addr) (H : Hp) : D → V → Prop
  | non : RD W Z ρ H .non .non
  | bl (b : Bool) : RD W Z ρ H (.bl b) (.bl b)
  | int (i : Int) : RD W Z ρ H (.int i) (.int i)
  | str (s : Tx) : RD W Z ρ H (.str s) (.str (toS s))
  | tup {a : Addr} {ds : List D} {vs : List V} : a ∉ Z → a ∉ ρ → H a = some (.tup vs) → RDs W Z ρ H ds vs → RD W Z ρ H (.tup ds) (.ref a)
  | tupK {a : Addr} {ds : List D} {vs : List V} : KTup W.K a vs → RDs W Z ρ H ds vs → RD W Z ρ H (.tup ds) (.ref a)
  | lst {a : Addr} {ds : List D} {vs : List V} : a ∉ Z → a ∉ ρ → H a = some (.lst vs) → RDs W Z ρ H ds vs → RD W Z ρ H (.lst ds) (.ref a)
  | dct {a : Addr} {kds : List (K1 × D)} {kvs : List (Key × V)} : a ∉ Z → a ∉ ρ → Rd H a (.dK kvs) → RKs W Z ρ H kds kvs → RD W Z ρ H (.dct kds) (.ref a)
  | obj {a dx : Addr} {c : Nat} {fs : List (Nat × D)} {gs : List (Str × V)} : a ∉ Z → a ∉ ρ → H a = some (.ins (W.ca c) dx gs) → RFs W Z ρ H fs gs → RD W Z ρ H (.obj c fs) (.ref a)
  | ref {a : Addr} {n : Nat} : ρ[n]? = some a → RD W Z ρ H (.ref n) (.ref a)
  | fn (f : Nat) : RD W Z ρ H (.fn f) (.ref (W.fa f))
  | roi {a : Addr} {is : List Int} : RoI W.K Z ρ H a is → RD W Z ρ H (.roi is) (.ref a)
inductive RDs (W : Wd) (Z ρ : List Addr) (H : Hp) : List D → List V → Prop
  | nil : RDs W Z ρ H [] []
  | cons {d : D} {ds : List D} {v : V} {vs : List V} : RD W Z ρ H d v → RDs W Z ρ H ds vs → RDs W Z ρ H (d :: ds) (v :: vs)
inductive RKs (W : Wd) (Z ρ : List Addr) (H : Hp) : List (K1 × D) → List (Key × V) → Prop
  | nil : RKs W Z ρ H [] []
  | cons {k : K1} {d : D} {ds : List (K1 × D)} {v : V} {vs : List (Key × V)} : RD W Z ρ H d v → RKs W Z ρ H ds vs → RKs W Z ρ H ((k, d) :: ds) ((keyS k, v) :: vs)
inductive RFs (W : Wd) (Z ρ : List Addr) (H : Hp) : List (Nat × D) → List (Str × V) → Prop
  | nil : RFs W Z ρ H [] []
  | cons {k : Nat} {d : D} {ds : List (Nat × D)} {v : V} {vs : List (Str × V)} : RD W Z ρ H d v → RFs W Z ρ H ds vs → RFs W Z ρ H ((k, d) :: ds) ((W.an k, v) :: vs)
end
/-- what a step keeps -/
structure Ext (ρ : List Addr) (H : Hp) (ρ' : List Addr) (H' : Hp) : Prop where
  pre : ρ <+: ρ'
  keep : ∀ a o, a ∉ ρ → H a = some o → a ∉ ρ' ∧ H' a = some o
theorem Ext.refl {ρ : List Addr} {H : Hp} : Ext ρ H ρ H := ⟨List.prefix_rfl, fun _ _ h e => ⟨h, e⟩⟩
theorem Ext.trans {ρ ρ1 ρ2 : List Addr} {H H1 H2 : Hp} (x : Ext ρ H ρ1 H1) (y : Ext ρ1 H1 ρ2 H2) : Ext ρ H ρ2 H2 :=
  ⟨x.pre.trans y.pre, fun a o h e => let ⟨h1, e1⟩ := x.keep a o h e; y.keep a o h1 e1⟩
theorem Ext.rd {ρ ρ' : List Addr} {H H' : Hp} (x : Ext ρ H ρ' H') {a : Addr} {u : HO} (h : a ∉ ρ) (r : Rd H a u) : a ∉ ρ' ∧ Rd H' a u := by
  rcases r with r | ⟨o, r⟩
  · exact ⟨(x.keep a _ h r).1, .inl (x.keep a _ h r).2⟩
  · exact ⟨(x.keep a _ h r).1, .inr ⟨o, (x.keep a _ h r).2⟩⟩
theorem pre_get {ρ ρ' : List Addr} (h : ρ <+: ρ') {n : Nat} {a : Addr} (e : ρ[n]? = some a) : ρ'[n]? = some a := by
  obtain ⟨t, rfl⟩ := h
  rw [List.getElem?_append_left (List.getElem?_eq_some_iff.mp e).1]
  exact e
section
variable {W : Wd} {Z ρ ρ' : List Addr} {H H' : Hp}
mutual
theorem RD.mono (x : Ext ρ H ρ' H') : ∀ {d : D} {v : V}, RD W Z ρ H d v → RD W Z ρ' H' d v
  | _, _, .non => .non
  | _, _, .bl b => .bl b
  | _, _, .int i => .int i
  | _, _, .str s => .str s
  | _, _, .tup z r q t => .tup z (x.keep _ _ r q).1 (x.keep _ _ r q).2 (RDs.mono x t)
  | _, _, .tupK k t => .tupK k (RDs.mono x t)
  | _, _, .lst z r q t => .lst z (x.keep _ _ r q).1 (x.keep _ _ r q).2 (RDs.mono x t)
  | _, _, .dct z r q t => .dct z (x.rd r q).1 (x.rd r q).2 (RKs.mono x t)
  | _, _, .obj z r q t => .obj z (x.keep _ _ r q).1 (x.keep _ _ r q).2 (RFs.mono x t)
  | _, _, .ref e => .ref (pre_get x.pre e)
  | _, _, .fn f => .fn f
  | _, _, .roi q => .roi (q.elim (fun ⟨z, r, q⟩ => .inl ⟨z, (x.rd r q).1, (x.rd r q).2⟩) .inr)
theorem RDs.mono (x : Ext ρ H ρ' H') : ∀ {ds : List D} {vs : List V}, RDs W Z ρ H ds vs → RDs W Z ρ' H' ds vs
  | _, _, .nil => .nil
  | _, _, .cons r t => .cons (RD.mono x r) (RDs.mono x t)
theorem RKs.mono (x : Ext ρ H ρ' H') : ∀ {ds : List (K1 × D)} {vs : List (Key × V)}, RKs W Z ρ H ds vs → RKs W Z ρ' H' ds vs
  | _, _, .nil => .nil
  | _, _, .cons r t => .cons (RD.mono x r) (RKs.mono x t)
theorem RFs.mono (x : Ext ρ H ρ' H') : ∀ {ds : List (Nat × D)} {vs : List (Str × V)}, RFs W Z ρ H ds vs → RFs W Z ρ' H' ds vs
  | _, _, .nil => .nil
  | _, _, .cons r t => .cons (RD.mono x r) (RFs.mono x t)
end
theorem RDs.length {ds : List D} {vs : List V} (r : RDs W Z ρ H ds vs) : ds.length = vs.length := by
  induction vs generalizing ds with
  | nil => cases r; rfl
  | cons v vs ih =>
    cases r with
    | cons _ t => simp [ih t]
theorem RDs.get {n : Nat} {d : D} : ∀ {ds : List D} {vs : List V}, RDs W Z ρ H ds vs → ds[n]? = some d → ∃ v, vs[n]? = some v ∧ RD W Z ρ H d v := by
  induction n with
  | zero =>
    intro ds vs r e
    cases r with
    | nil => simp at e
    | cons r t => simp at e; subst e; exact ⟨_, rfl, r⟩
  | succ n ih =>
    intro ds vs r e
    cases r with
    | nil => simp at e
    | cons r t => simpa using ih t (by simpa using e)
theorem RDs.append : ∀ {ds es : List D} {vs us : List V}, RDs W Z ρ H ds vs → RDs W Z ρ H es us → RDs W Z ρ H (ds ++ es) (vs ++ us) := by
  intro ds
  induction ds with
  | nil => intro es vs us r t; cases r; exact t
  | cons d ds ih => intro es vs us r t; cases r with | cons r1 r2 => exact .cons r1 (ih r2 t)
theorem RDs.drop : ∀ {n : Nat} {ds : List D} {vs : List V}, RDs W Z ρ H ds vs → RDs W Z ρ H (ds.drop n) (vs.drop n) := by
  intro n
  induction n with
  | zero => intro ds vs r; exact r
  | succ n ih => intro ds vs r; cases r with | nil => exact .nil | cons _ t => exact ih t
theorem RDs.take : ∀ {n : Nat} {ds : List D} {vs : List V}, RDs W Z ρ H ds vs → RDs W Z ρ H (ds.take n) (vs.take n) := by
  intro n
  induction n with
  | zero => intro ds vs r; exact .nil
  | succ n ih => intro ds vs r; cases r with | nil => exact .nil | cons r t => exact .cons r (ih t)
theorem RDs.reverse : ∀ {ds : List D} {vs : List V}, RDs W Z ρ H ds vs → RDs W Z ρ H ds.reverse vs.reverse := by
  intro ds
  induction ds with
  | nil => intro vs r; cases r; exact .nil
  | cons d ds ih => intro vs r; cases r with | cons r t => simpa using (ih t).append (.cons r .nil)
theorem RDs.set {d : D} {v : V} (r : RD W Z ρ H d v) : ∀ {n : Nat} {ds : List D} {vs : List V}, RDs W Z ρ H ds vs → RDs W Z ρ H (ds.set n d) (vs.set n v) := by
  intro n
  induction n with
  | zero => intro ds vs t; cases t with | nil => exact .nil | cons _ t => exact .cons r t
  | succ n ih => intro ds vs t; cases t with | nil => exact .nil | cons q t => exact .cons q (ih t)
end
/-- a thing of the abstract heap stands at a -/
inductive OR (W : Wd) (Z ρ : List Addr) (H : Hp) (a : Addr) : O → Prop
  | lst {ds : List D} {vs : List V} : H a = some (.lst vs) → RDs W Z ρ H ds vs → OR W Z ρ H a (.lst ds)
  | ro {ds : List D} {vs : List V} : Rd H a (.lst vs) → RDs W Z ρ H ds vs → OR W Z ρ H a (.ro ds)
  | dct {kds : List (K1 × D)} {kvs : List (Key × V)} : H a = some (.dK kvs) → RKs W Z ρ H kds kvs → OR W Z ρ H a (.dct kds)
  | ins {c : Nat} {dx : Addr} {fs : List (Nat × D)} {gs : List (Str × V)} : H a = some (.ins (W.ca c) dx gs) → RFs W Z ρ H fs gs → OR W Z ρ H a (.ins c fs)
structure Sim (W : Wd) (Z ρ : List Addr) (h : Hh) (H : Hp) : Prop where
  len : ρ.length = h.length
  nd : ρ.Nodup
  dis : ∀ z ∈ Z, z ∉ ρ ∧ ∃ o, H z = some o
  obj : ∀ (n : Nat) (o : O) (a : Addr), h[n]? = some o → ρ[n]? = some a → OR W Z ρ H a o
section
variable {W : Wd} {Z ρ ρ' : List Addr} {h h' : Hh} {H H' : Hp}
theorem Sim.at_ (S : Sim W Z ρ h H) {n : Nat} {o : O} (e : h[n]? = some o) : ∃ a, ρ[n]? = some a ∧ OR W Z ρ H a o := by
  have hn : n < ρ.length := by rw [S.len]; exact (List.getElem?_eq_some_iff.mp e).1
  exact ⟨ρ[n], by simp [hn], S.obj n o _ e (by simp [hn])⟩
theorem OR.there {a : Addr} {o : O} (r : OR W Z ρ H a o) : ∃ u, H a = some u := by
  cases r with
  | lst e _ => exact ⟨_, e⟩
  | ro e _ =>
    rcases e with e | ⟨_, e⟩
    · exact ⟨_, e⟩
    · exact ⟨_, e⟩
  | dct e _ => exact ⟨_, e⟩
  | ins e _ => exact ⟨_, e⟩
theorem Sim.new (S : Sim W Z ρ h H) {p : Addr} (n : H p = none) : p ∉ Z ∧ p ∉ ρ := by
  refine ⟨fun hz => ?_, fun hp => ?_⟩
  · obtain ⟨_, o, e⟩ := S.dis p hz
    rw [n] at e; cases e
  · obtain ⟨i, hi⟩ := List.mem_iff_getElem?.mp hp
    have hl : i < h.length := by rw [← S.len]; exact (List.getElem?_eq_some_iff.mp hi).1
    obtain ⟨u, e⟩ := (S.obj i h[i] p (by simp [hl]) hi).there
    rw [n] at e; cases e
/-- a new object, not in the abstract heap -/
theorem Ext.laid {p : Addr} {o : HO} (n : H p = none) : Ext ρ H ρ (upd H p o) :=
  ⟨List.prefix_rfl, fun a u h e => ⟨h, by rw [upd_ne (ne_of_none e n)]; exact e⟩⟩
theorem OR.laid {p a : Addr} {o : O} {u : HO} (n : H p = none) (r : OR W Z ρ H a o) : OR W Z ρ (upd H p u) a o := by
  have x : Ext ρ H ρ (upd H p u) := Ext.laid n
  cases r with
  | lst e t => exact .lst (by rw [upd_ne (ne_of_none e n)]; exact e) (t.mono x)
  | ro e t =>
    refine .ro ?_ (t.mono x)
    rcases e with e | ⟨ob, e⟩
    · exact .inl (by rw [upd_ne (ne_of_none e n)]; exact e)
    · exact .inr ⟨ob, by rw [upd_ne (ne_of_none e n)]; exact e⟩
  | dct e t => exact .dct (by rw [upd_ne (ne_of_none e n)]; exact e) (t.mono x)
  | ins e t => exact .ins (by rw [upd_ne (ne_of_none e n)]; exact e) (t.mono x)
theorem Sim.laid {p : Addr} {o : HO} (S : Sim W Z ρ h H) (n : H p = none) : Sim W Z ρ h (upd H p o) :=
  ⟨S.len, S.nd, fun z hz => let ⟨h1, u, e⟩ := S.dis z hz; ⟨h1, u, by rw [upd_ne (ne_of_none e n)]; exact e⟩, fun m u a e1 e2 => (S.obj m u a e1 e2).laid n⟩
end
/-! ### what is wanted behind -/
/-- an exception as it stands: its class, its own dict with its field -/
def RX (W : Wd) (Z ρ : List Addr) (H : Hp) (x : Exn) (cls : Value) (dd : Option Addr) : Prop :=
  cls = .ref (W.ca x.cls) ∧ match x.fld with
    | none => dd = none
    | some d => ∃ a f v, dd = some a ∧ H a = some (.xd [(f, v)]) ∧ a ∉ ρ ∧ RD W Z ρ H d v
def Post {α : Type} (W : Wd) (Z ρ : List Addr) (H : Hp) (r : R α) (Q : α → List Addr → Hh → Hp → Prop) (E : XK) : Prop := match r with
  | .ok a h' => ∀ ρ' H', Ext ρ H ρ' H' → Sim W Z ρ' h' H' → Q a ρ' h' H'
  | .xn x h' => ∀ ρ' H' cls dd, Ext ρ H ρ' H' → Sim W Z ρ' h' H' → RX W Z ρ' H' x cls dd → E cls dd H'
  | .bad => False
section
variable {α β : Type} {W : Wd} {Z ρ ρ1 : List Addr} {H H1 : Hp} {r : R α} {Q Q' : α → List Addr → Hh → Hp → Prop} {E : XK}
theorem Post.mono (x : Ext ρ H ρ1 H1) (p : Post W Z ρ H r Q E) : Post W Z ρ1 H1 r Q E := by
  cases r with
  | ok a h => exact fun ρ' H' y S => p ρ' H' (x.trans y) S
  | xn e h => exact fun ρ' H' cls dd y S => p ρ' H' cls dd (x.trans y) S
  | bad => exact p
theorem Post.imp (p : Post W Z ρ H r Q E) (f : ∀ a ρ' h' H', Ext ρ H ρ' H' → Sim W Z ρ' h' H' → Q a ρ' h' H' → Q' a ρ' h' H') : Post W Z ρ H r Q' E := by
  cases r with
  | ok a h => exact fun ρ' H' y S => f _ _ _ _ y S (p ρ' H' y S)
  | xn e h => exact p
  | bad => exact p
theorem Post.bind {k : α → Hh → R β} {Q : β → List Addr → Hh → Hp → Prop} (p : Post W Z ρ H (r.bind k) Q E) : Post W Z ρ H r (fun a ρ1 h1 H1 => Post W Z ρ1 H1 (k a h1) Q E) E := by
  cases r with
  | ok a h => exact fun ρ' H' y S => p.mono y
  | xn e h => exact p
  | bad => exact p
end
/-- the slots -/
structure RSg (W : Wd) (Z ρ : List Addr) (H : Hp) (σd : Sg) (σ : L2.St) : Prop where
  len : σd.length = σ.length
  at_ : ∀ (i : Nat) (d : D), σd[i]? = some (some d) → ∃ v, σ[i]? = some (some v) ∧ RD W Z ρ H d v
theorem RSg.mono {W : Wd} {Z ρ ρ1 : List Addr} {H H1 : Hp} {σd : Sg} {σ : L2.St} (x : Ext ρ H ρ1 H1) (r : RSg W Z ρ H σd σ) : RSg W Z ρ1 H1 σd σ :=
  ⟨r.len, fun i d e => let ⟨v, e1, r1⟩ := r.at_ i d e; ⟨v, e1, r1.mono x⟩⟩
/-- an answer that changes nothing of the abstract heap -/
def Ans (W : Wd) (Z ρ : List Addr) (h : Hh) (H : Hp) (r : D) (Q : VK) : Prop := ∀ ρ' H' v, Ext ρ H ρ' H' → Sim W Z ρ' h H' → RD W Z ρ' H' r v → Q v H'
theorem Ans.now {W : Wd} {Z ρ : List Addr} {h : Hh} {H : Hp} {r : D} {Q : VK} (a : Ans W Z ρ h H r Q) (S : Sim W Z ρ h H) {v : V} (rv : RD W Z ρ H r v) : Q v H := a ρ H v Ext.refl S rv
/-- .. a new tuple -/
theorem Ans.tup {W : Wd} {Z ρ : List Addr} {h : Hh} {H : Hp} {ds : List D} {vs : List V} {Q : VK} (a : Ans W Z ρ h H (.tup ds) Q) (S : Sim W Z ρ h H) (r : RDs W Z ρ H ds vs) (p : Addr) (n : H p = none) : Q (.ref p) (upd H p (.tup vs)) :=
  a ρ _ _ (Ext.laid n) (S.laid n) (.tup (S.new n).1 (S.new n).2 upd_same (r.mono (Ext.laid n)))
/-- .. a new list -/
theorem Ans.lst {W : Wd} {Z ρ : List Addr} {h : Hh} {H : Hp} {ds : List D} {vs : List V} {Q : VK} (a : Ans W Z ρ h H (.lst ds) Q) (S : Sim W Z ρ h H) (r : RDs W Z ρ H ds vs) (p : Addr) (n : H p = none) : Q (.ref p) (upd H p (.lst vs)) :=
  a ρ _ _ (Ext.laid n) (S.laid n) (.lst (S.new n).1 (S.new n).2 upd_same (r.mono (Ext.laid n)))
theorem Ans.dct {W : Wd} {Z ρ : List Addr} {h : Hh} {H : Hp} {ds : List (K1 × D)} {vs : List (Key × V)} {Q : VK} (a : Ans W Z ρ h H (.dct ds) Q) (S : Sim W Z ρ h H) (r : RKs W Z ρ H ds vs) (p : Addr) (n : H p = none) : Q (.ref p) (upd H p (.dK vs)) :=
  a ρ _ _ (Ext.laid n) (S.laid n) (.dct (S.new n).1 (S.new n).2 (Rd.of upd_same) (r.mono (Ext.laid n)))
/-! ### reading of values -/
section
variable {W : Wd} {Z ρ : List Addr} {h : Hh} {H : Hp} {d : D} {v : V}
theorem asLst_ok (S : Sim W Z ρ h H) (r : RD W Z ρ H d v) {xs : List D} (e : asLst h d = some xs) : ∃ a vs, v = .ref a ∧ H a = some (.lst vs) ∧ RDs W Z ρ H xs vs := by
  cases r <;> simp only [asLst] at e
  case lst a ds vs z ra q t => cases e; exact ⟨_, _, rfl, q, t⟩
  case ref a n en =>
    cases eo : h[n]? with
    | none => rw [eo] at e; cases e
    | some o =>
      rw [eo] at e
      have q := S.obj n o a eo en
      cases o <;> dsimp only at e <;> cases e
      cases q with | lst q t => exact ⟨_, _, rfl, q, t⟩
  all_goals cases e
theorem asDct_ok (S : Sim W Z ρ h H) (r : RD W Z ρ H d v) {xs : List (K1 × D)} (e : asDct h d = some xs) : ∃ a vs, v = .ref a ∧ Rd H a (.dK vs) ∧ RKs W Z ρ H xs vs := by
  cases r <;> simp only [asDct] at e
  case dct a ds vs z ra q t => cases e; exact ⟨_, _, rfl, q, t⟩
  case ref a n en =>
    cases eo : h[n]? with
    | none => rw [eo] at e; cases e
    | some o =>
      rw [eo] at e
      have q := S.obj n o a eo en
      cases o <;> simp at e
      case dct ys => subst e; cases q with | dct q t => exact ⟨_, _, rfl, .inl q, t⟩
  all_goals cases e
theorem tup_ok {xs : List D} (r : RD W Z ρ H (.tup xs) v) : ∃ a vs, v = .ref a ∧ SqT W.K H a vs ∧ RDs W Z ρ H xs vs := by
  cases r with
  | tup z ra q t => exact ⟨_, _, rfl, SqT.of q, t⟩
  | tupK k t => exact ⟨_, _, rfl, .inr k, t⟩
theorem rds_ints : ∀ is : List Int, RDs W Z ρ H (is.map .int) (is.map V.int)
  | [] => .nil
  | i :: is => .cons (.int i) (rds_ints is)
theorem RoI.sq {a : Addr} {is : List Int} (q : RoI W.K Z ρ H a is) : SqL W.K H a (is.map V.int) := q.elim (fun ⟨_, _, q⟩ => .inl q) .inr
theorem asSeq_ok (S : Sim W Z ρ h H) (r : RD W Z ρ H d v) {xs : List D} (e : asSeq h d = some xs) : ∃ a vs, v = .ref a ∧ (SqL W.K H a vs ∨ SqT W.K H a vs) ∧ RDs W Z ρ H xs vs := by
  cases r <;> simp only [asSeq] at e
  case tup a ds vs z ra q t => cases e; exact ⟨_, _, rfl, .inr (SqT.of q), t⟩
  case tupK a ds vs q t => cases e; exact ⟨_, _, rfl, .inr (.inr q), t⟩
  case lst a ds vs z ra q t => cases e; exact ⟨_, _, rfl, .inl (SqL.of q), t⟩
  case roi a is q => cases e; exact ⟨_, _, rfl, .inl q.sq, rds_ints is⟩
  case ref a n en =>
    cases eo : h[n]? with
    | none => rw [eo] at e; cases e
    | some o =>
      rw [eo] at e
      have q := S.obj n o a eo en
      cases o <;> dsimp only at e <;> cases e
      · cases q with | lst q t => exact ⟨_, _, rfl, .inl (SqL.of q), t⟩
      · cases q with | ro q t => exact ⟨_, _, rfl, .inl (.inl q), t⟩
  all_goals cases e
theorem asInts_ok : ∀ {ds : List D} {vs : List V} {is : List Int}, RDs W Z ρ H ds vs → asInts ds = some is → vs = is.map V.int := by
  intro ds
  induction ds with
  | nil => intro vs is r e; cases r; simp [asInts] at e; subst e; rfl
  | cons d ds ih =>
    intro vs is r e
    cases r with
    | cons r t =>
      cases r <;> simp [asInts] at e
      case int i =>
        obtain ⟨js, e1, rfl⟩ := e
        simp [ih t e1]
theorem asTexts_ok : ∀ {ds : List D} {vs : List V} {ts : List Tx}, RDs W Z ρ H ds vs → asTexts ds = some ts → vs = ts.map fun t => V.str (toS t) := by
  intro ds
  induction ds with
  | nil => intro vs is r e; cases r; simp [asTexts] at e; subst e; rfl
  | cons d ds ih =>
    intro vs is r e
    cases r with
    | cons r t =>
      cases r <;> simp [asTexts] at e
      case str i =>
        obtain ⟨js, e1, rfl⟩ := e
        simp [ih t e1]
theorem asBools_ok : ∀ {ds : List D} {vs : List V} {bs : List Bool}, RDs W Z ρ H ds vs → asBools ds = some bs → vs = bs.map V.bl := by
  intro ds
  induction ds with
  | nil => intro vs is r e; cases r; simp [asBools] at e; subst e; rfl
  | cons d ds ih =>
    intro vs is r e
    cases r with
    | cons r t =>
      cases r <;> simp [asBools] at e
      case bl i =>
        obtain ⟨js, e1, rfl⟩ := e
        simp [ih t e1]
end
/-! ### truth -/
section
variable {W : Wd} {Z ρ : List Addr} {h : Hh} {H : Hp} {d : D} {v : V}
theorem RKs.len {ds : List (K1 × D)} {vs : List (Key × V)} (r : RKs W Z ρ H ds vs) : ds.length = vs.length := by
  induction vs generalizing ds with
  | nil => cases r; rfl
  | cons v vs ih => cases r with | cons _ t => simp [ih t]
theorem isEmpty_eq {α β : Type} {xs : List α} {ys : List β} (e : xs.length = ys.length) : xs.isEmpty = ys.isEmpty := by
  cases xs <;> cases ys <;> simp_all
theorem tru_ok (S : Sim W Z ρ h H) (r : RD W Z ρ H d v) {t : Bool} (e : tru h d = some t) : L2.TruV W.K v H t := by
  cases r <;> simp only [tru] at e
  case non => cases e; rfl
  case bl b => cases e; rfl
  case int i => cases e; rfl
  case str s =>
    split at e
    · cases e
      rename_i hl
      refine ⟨by simpa [toS, Str.length, sizeLine_eq, line] using hl, ?_⟩
      cases s <;> simp [toS, Str.length]
      omega
    · cases e
  case tup a ds vs z ra q t =>
    cases e
    exact .inr (.inl ⟨vs, SqT.of q, by rw [isEmpty_eq t.length]⟩)
  case tupK a ds vs q t =>
    cases e
    exact .inr (.inl ⟨vs, .inr q, by rw [isEmpty_eq t.length]⟩)
  case lst a ds vs z ra q t =>
    cases e
    exact .inl ⟨vs, SqL.of q, by rw [isEmpty_eq t.length]⟩
  case ref a n en =>
    cases eo : h[n]? with
    | none => rw [eo] at e; cases e
    | some o =>
      rw [eo] at e
      have q := S.obj n o a eo en
      cases o <;> dsimp only at e <;> cases e
      case some.lst.refl ys => cases q with | lst q t => exact .inl ⟨_, SqL.of q, by rw [isEmpty_eq t.length]⟩
      case some.ro.refl ys => cases q with | ro q t => exact .inl ⟨_, .inl q, by rw [isEmpty_eq t.length]⟩
  all_goals cases e
end
end Fw
end
section
set_option Elab.async false
set_option linter.all false
set_option maxRecDepth 100000
set_option autoImplicit false
set_option maxHeartbeats 1000000
/-! Fw3: operators, by values. -/
namespace Fw
open PySem PySem.Spec PyProof.Rows L2
theorem toS_len (t : Tx) : (toS t).length = t.length := by simp [toS, Str.length]
theorem toS_cat (a b : Tx) : toS a ++ toS b = toS (a ++ b) := by
  show Str.append _ _ = _
  simp [toS, Str.append]
theorem toS_list (t : Tx) : (toS t).cps.toList = t := by simp [toS]
theorem toS_of (s : Str) : toS s.cps.toList = s := by cases s; simp [toS]
theorem line_eq : line = sizeLine := by rw [sizeLine_eq]; rfl
def copOf : Cop → CmpOp
  | .eq => .Eq | .ne => .NotEq | .lt => .Lt | .le => .LtE | .gt => .Gt | .ge => .GtE | .is_ => .Is | .isnt => .IsNot | .in_ => .In | .notin => .NotIn
def bopOf : Bop → Operator
  | .add => .Add | .sub => .Sub | .mul => .Mult | .fdiv => .FloorDiv | .mod => .Mod | .pow => .Pow
/-- what is asked of two values: the answer of the plain function f -/
def r2 (W : Wd) (f : Hh → D → D → Option D) : R2 := fun x y H Q => ∃ Z ρ h d e r, Sim W Z ρ h H ∧ RD W Z ρ H d x ∧ RD W Z ρ H e y ∧ f h d e = some r ∧ Fw.Ans W Z ρ h H r Q
section
variable {X : Cx} {W : Wd}
theorem mul_text {x : Tx} {j : Int} (h0 : 0 ≤ j) (h1 : j ≤ 100000) (h2 : x.length * j.toNat ≤ line) : MulOk (toS x) j ∧ Txt.mul (toS x) j = toS (List.replicate j.toNat x).flatten := by
  have hn : ((j.toNat : Nat) : Int) = j := Int.toNat_of_nonneg h0
  refine ⟨⟨?_, fun h3 _ => ?_, fun _ _ => ?_⟩, ?_⟩
  · simp only [Bool.or_eq_false_iff, decide_eq_false_iff_not]
    omega
  · rw [toS_len]
    intro hgt
    have hj : 0 < j := by omega
    refine absurd hgt (Int.not_lt.mpr ?_)
    rw [Int.le_ediv_iff_mul_le hj]
    have h4 : ((x.length * j.toNat : Nat) : Int) ≤ (line : Int) := by exact_mod_cast h2
    rw [Int.natCast_mul, hn] at h4
    have : (line : Int) ≤ 2 ^ 63 - 1 := by decide
    omega
  · rw [toS_len]
    simp only [Builtin.Str.tooLong, decide_eq_false_iff_not, ← line_eq]
    omega
  · unfold Txt.mul
    by_cases h3 : j < 1
    · rw [if_pos h3]
      have : j.toNat = 0 := by omega
      rw [this]
      rfl
    · rw [if_neg h3]
      have fold : ∀ (n : Nat) (a : Array Nat), ((List.replicate n (toS x).cps).foldl (· ++ ·) a).toList = a.toList ++ (List.replicate n x).flatten := by
        intro n
        induction n with
        | zero => intro a; simp
        | succ n ih => intro a; rw [List.replicate_succ, List.foldl_cons, ih]; simp [List.replicate_succ, toS]
      split
      · rename_i hc
        simp only [Bool.or_eq_true, beq_iff_eq] at hc
        rcases hc with hc | hc
        · subst hc; simp
        · have : x = [] := by rw [toS_len] at hc; exact List.length_eq_zero_iff.mp hc
          subst this
          simp
      · show (⟨_⟩ : Str) = ⟨_⟩
        congr 1
        apply Array.toList_inj.mp
        rw [fold]
        simp
theorem op_bin (hK : X.K = W.K) (op : Bop) : OpR X (binaryOp (bopOf op)) (r2 W fun h => binop h op) := by
  intro pins s σ H x y v u Q I rx ry hq
  obtain ⟨Z, ρ, h, d, e, r, S, rd, re, hf, hA⟩ := hq
  cases op
  case add =>
    show wpAny _ _ (binaryOp .Add v u) _ _ s
    by_cases hi : ∃ i j, d = .int i ∧ e = .int j
    · obtain ⟨i, j, rfl, rfl⟩ := hi
      cases rd; cases re
      simp only [binop] at hf
      cases hf
      exact op_add pins s σ H _ _ v u Q I rx ry ⟨i, j, rfl, rfl, hA.now S (.int _)⟩
    by_cases hs : ∃ i j, d = .str i ∧ e = .str j
    · obtain ⟨i, j, rfl, rfl⟩ := hs
      cases rd; cases re
      simp only [binop] at hf
      split at hf
      · cases hf
        rename_i hl
        exact op_add_str pins s σ H _ _ v u Q I rx ry ⟨_, _, rfl, rfl, by rw [toS_len, toS_len, ← line_eq]; exact hl, by rw [toS_cat]; exact hA.now S (.str _)⟩
      · cases hf
    by_cases ht : ∃ i j, d = .tup i ∧ e = .tup j
    · obtain ⟨ds, es, rfl, rfl⟩ := ht
      simp only [binop] at hf
      split at hf
      · cases hf
        rename_i hl
        obtain ⟨a, vs, rfl, qa, ra⟩ := tup_ok rd
        obtain ⟨b, us, rfl, qb, rb⟩ := tup_ok re
        refine op_catA pins s σ H _ _ v u Q I rx ry ⟨a, b, vs, us, rfl, rfl, hK ▸ qa, hK ▸ qb, by rw [← ra.length, ← rb.length, ← line_eq]; exact hl, fun e0 => ?_, fun _ e0 => ?_, fun _ _ p n => ?_⟩
        · subst e0
          cases ra
          exact hA.now S re
        · subst e0
          cases rb
          rw [List.append_nil] at hA
          exact hA.now S rd
        · exact hA.tup S (ra.append rb) p n
      · cases hf
    · have hf' : (match asLst h d, asLst h e with
        | some xs, some ys => if xs.length + ys.length ≤ line then some (D.lst (xs ++ ys)) else none
        | _, _ => none) = some r := by
        rw [← hf]
        cases d <;> cases e <;> first
          | rfl
          | exact absurd ⟨_, _, rfl, rfl⟩ hi
          | exact absurd ⟨_, _, rfl, rfl⟩ hs
          | exact absurd ⟨_, _, rfl, rfl⟩ ht
      cases e1 : asLst h d with
      | none => rw [e1] at hf'; cases hf'
      | some xs =>
        cases e2 : asLst h e with
        | none => rw [e1, e2] at hf'; cases hf'
        | some ys =>
          rw [e1, e2] at hf'
          dsimp only at hf'
          split at hf'
          · cases hf'
            rename_i hl
            obtain ⟨a, vs, rfl, qa, ra⟩ := asLst_ok S rd e1
            obtain ⟨b, us, rfl, qb, rb⟩ := asLst_ok S re e2
            exact op_cat pins s σ H _ _ v u Q I rx ry ⟨a, b, vs, us, rfl, rfl, qa, qb, by rw [← ra.length, ← rb.length, ← line_eq]; exact hl, fun p n => hA.lst S (ra.append rb) p n⟩
          · cases hf'
  case sub =>
    cases d <;> cases e <;> simp only [binop] at hf <;> first | (cases hf; done) | skip
    cases rd; cases re
    cases hf
    exact op_sub pins s σ H _ _ v u Q I rx ry ⟨_, _, rfl, rfl, hA.now S (.int _)⟩
  case mul =>
    cases d <;> cases e <;> simp only [binop] at hf <;> first | (cases hf; done) | skip
    · cases rd; cases re
      split at hf
      · cases hf
        rename_i hl
        exact op_mul pins s σ H _ _ v u Q I rx ry ⟨_, _, rfl, rfl, hl, hA.now S (.int _)⟩
      · cases hf
    · cases rd; cases re
      split at hf
      · cases hf
        rename_i x j hl
        obtain ⟨tk, rfl⟩ := rx
        obtain ⟨tk', rfl⟩ := ry
        obtain ⟨m1, m2⟩ := mul_text hl.1 hl.2.1 hl.2.2
        refine SB.mul m1 fun t' k => ?_
        exact ⟨.str (Txt.mul (toS x) j), H, I.tok _, ⟨_, rfl⟩, by rw [m2]; exact hA.now S (.str _)⟩
      · cases hf
    · cases re
      split at hf
      · cases hf
        rename_i xs j hl
        obtain ⟨a, vs, rfl, qa, ra⟩ := tup_ok rd
        refine op_repT pins s σ H _ _ v u Q I rx ry ⟨a, j, vs, rfl, rfl, hK ▸ qa, fun z => hl.1 ?_, hl.2.1, hl.2.2.1, by rw [← ra.length]; exact hl.2.2.2, fun p n => hA.tup S ?_ p n⟩
        · subst z; cases ra; rfl
        · generalize j.toNat = m
          induction m with
          | zero => exact .nil
          | succ m ih => simpa [List.replicate_succ] using ra.append ih
      · cases hf
  case fdiv =>
    cases d <;> cases e <;> simp only [binop] at hf <;> first | (cases hf; done) | skip
    cases rd; cases re
    split at hf
    · cases hf
      rename_i hl
      exact op_fdiv pins s σ H _ _ v u Q I rx ry ⟨_, _, rfl, rfl, hl, hA.now S (.int _)⟩
    · cases hf
  case mod =>
    cases d <;> cases e <;> simp only [binop] at hf <;> first | (cases hf; done) | skip
    cases rd; cases re
    split at hf
    · cases hf
      rename_i hl
      exact op_mod pins s σ H _ _ v u Q I rx ry ⟨_, _, rfl, rfl, hl, hA.now S (.int _)⟩
    · cases hf
  case pow =>
    cases d <;> cases e <;> simp only [binop] at hf <;> first | (cases hf; done) | skip
    cases rd; cases re
    split at hf
    · cases hf
      rename_i hl
      exact op_pow pins s σ H _ _ v u Q I rx ry ⟨_, _, rfl, rfl, hl, hA.now S (.int _)⟩
    · cases hf
end
/-! ### data -/
theorem strOk_of {s : Tx} (h : s.all (fun c => decide (c < 1114112)) = true) : PyData.strOk (toS s) = true := by
  simp only [PyData.strOk, toS, ← Array.all_toList]
  exact h
mutual
theorem flat_py : ∀ (n : Nat) (d : D), d.flat n = true → d.py.canLay0 = true ∧ d.py.depth ≤ n + 1
  | n, .non, _ => by simp [D.py, PyData.canLay0, PyData.depth]
  | n, .bl _, _ => by simp [D.py, PyData.canLay0, PyData.depth]
  | n, .int _, _ => by simp [D.py, PyData.canLay0, PyData.depth]
  | n, .str s, h => by
    have h' : s.all (fun c => decide (c < 1114112)) = true := by simpa [D.flat] using h
    have h2 := strOk_of h'
    simp only [D.py, PyData.canLay0, PyData.depth]
    exact ⟨h2, Nat.zero_le _⟩
  | 0, .tup xs, h => by
    have : xs = [] := by simpa [D.flat] using h
    subst this
    simp [D.py, pyAll, PyData.canLay0, PyData.canLayAll0, PyData.depth, PyData.depthAll]
  | n + 1, .tup xs, h => by
    have h' := flatAll_py n xs (by simpa [D.flat] using h)
    simp only [D.py, PyData.canLay0, PyData.depth]
    exact ⟨h'.1, by omega⟩
  | 0, .lst xs, h => by
    have : xs = [] := by simpa [D.flat] using h
    subst this
    simp [D.py, pyAll, PyData.canLay0, PyData.canLayAll0, PyData.depth, PyData.depthAll]
  | n + 1, .lst xs, h => by
    have h' := flatAll_py n xs (by simpa [D.flat] using h)
    simp only [D.py, PyData.canLay0, PyData.depth]
    exact ⟨h'.1, by omega⟩
  | _, .dct _, h => by simp [D.flat] at h
  | _, .obj _ _, h => by simp [D.flat] at h
  | _, .ref _, h => by simp [D.flat] at h
  | _, .fn _, h => by simp [D.flat] at h
  | _, .roi _, h => by simp [D.flat] at h
theorem flatAll_py : ∀ (n : Nat) (xs : List D), flatAll n xs = true → PyData.canLayAll0 (pyAll xs) = true ∧ PyData.depthAll (pyAll xs) ≤ n + 1
  | n, [], _ => by simp [pyAll, PyData.canLayAll0, PyData.depthAll]
  | n, x :: xs, h => by
    have h' : x.flat n = true ∧ flatAll n xs = true := by simpa [flatAll] using h
    have h1 := flat_py n x h'.1
    have h2 := flatAll_py n xs h'.2
    simp only [pyAll, PyData.canLayAll0, PyData.depthAll]
    exact ⟨by simp [h1.1, h2.1], by omega⟩
end
theorem flat_shaped {d : D} (h : d.flat 60 = true) : SeqAt.shaped d.py = true := by
  have := flat_py 60 d h
  simp only [SeqAt.shaped, Bool.and_eq_true, decide_eq_true_eq]
  exact ⟨this.1, by omega⟩
mutual
theorem flat_eqv : ∀ (n m : Nat) (d e : D), d.flat n = true → e.flat m = true → PyData.eqv d.py e.py = d.eqv e
  | n, m, d, e, h1, h2 => by
    cases d <;> cases e <;> first
      | (simp [D.flat] at h1; done)
      | (simp [D.flat] at h2; done)
      | (simp [D.py, PyData.eqv, D.eqv]; done)
      | skip
    · simp only [D.py, PyData.eqv, D.eqv]
      rename_i a b
      by_cases e : a = b
      · subst e; simp
      · have : ¬ (⟨a.toArray⟩ : Str) = ⟨b.toArray⟩ := fun q => e (toS_inj q)
        rw [beq_eq_false_iff_ne.mpr this, beq_eq_false_iff_ne.mpr e]
    · rename_i xs ys
      simp only [D.py, PyData.eqv, D.eqv]
      cases n <;> cases m
      · have a1 : xs = [] := by simpa [D.flat] using h1
        have a2 : ys = [] := by simpa [D.flat] using h2
        subst a1 a2; simp [pyAll, PyData.eqvAll, eqvAll]
      · have a1 : xs = [] := by simpa [D.flat] using h1
        subst a1; cases ys <;> simp [pyAll, PyData.eqvAll, eqvAll]
      · have a2 : ys = [] := by simpa [D.flat] using h2
        subst a2; cases xs <;> simp [pyAll, PyData.eqvAll, eqvAll]
      · exact flatAll_eqv _ _ xs ys (by simpa [D.flat] using h1) (by simpa [D.flat] using h2)
    · rename_i xs ys
      simp only [D.py, PyData.eqv, D.eqv]
      cases n <;> cases m
      · have a1 : xs = [] := by simpa [D.flat] using h1
        have a2 : ys = [] := by simpa [D.flat] using h2
        subst a1 a2; simp [pyAll, PyData.eqvAll, eqvAll]
      · have a1 : xs = [] := by simpa [D.flat] using h1
        subst a1; cases ys <;> simp [pyAll, PyData.eqvAll, eqvAll]
      · have a2 : ys = [] := by simpa [D.flat] using h2
        subst a2; cases xs <;> simp [pyAll, PyData.eqvAll, eqvAll]
      · exact flatAll_eqv _ _ xs ys (by simpa [D.flat] using h1) (by simpa [D.flat] using h2)
theorem flatAll_eqv : ∀ (n m : Nat) (xs ys : List D), flatAll n xs = true → flatAll m ys = true → PyData.eqvAll (pyAll xs) (pyAll ys) = eqvAll xs ys
  | n, m, [], [], _, _ => by simp [pyAll, PyData.eqvAll, eqvAll]
  | n, m, [], y :: ys, _, _ => by simp [pyAll, PyData.eqvAll, eqvAll]
  | n, m, x :: xs, [], _, _ => by simp [pyAll, PyData.eqvAll, eqvAll]
  | n, m, x :: xs, y :: ys, h1, h2 => by
    have h1' : x.flat n = true ∧ flatAll n xs = true := by simpa [flatAll] using h1
    have h2' : y.flat m = true ∧ flatAll m ys = true := by simpa [flatAll] using h2
    simp only [pyAll, PyData.eqvAll, eqvAll]
    rw [flat_eqv n m x y h1'.1 h2'.1, flatAll_eqv n m xs ys h1'.2 h2'.2]
end
section
variable {W : Wd} {Z ρ : List Addr} {h : Hh} {H : Hp}
mutual
theorem flat_dp : ∀ {d : D} {v : V} (n : Nat), d.flat n = true → RD W Z ρ H d v → Dp W.K H v d.py
  | _, _, _, _, .non => by simpa [D.py] using Dp.non
  | _, _, _, _, .bl b => by simpa [D.py] using Dp.bl b
  | _, _, _, _, .int i => by simpa [D.py] using Dp.int i
  | _, _, _, _, .str s => by simp only [D.py]; exact Dp.str (toS s)
  | _, _, 0, h, .tup _ _ q t => by simp only [D.py]; exact .tup (SqT.of q) (flat_dps 0 (by cases t with | nil => simp [flatAll] | cons _ _ => simp [D.flat] at h) t)
  | _, _, n + 1, h, .tup _ _ q t => by simp only [D.py]; exact .tup (SqT.of q) (flat_dps n (by simpa [D.flat] using h) t)
  | _, _, 0, h, .tupK q t => by simp only [D.py]; exact .tup (.inr q) (flat_dps 0 (by cases t with | nil => simp [flatAll] | cons _ _ => simp [D.flat] at h) t)
  | _, _, n + 1, h, .tupK q t => by simp only [D.py]; exact .tup (.inr q) (flat_dps n (by simpa [D.flat] using h) t)
  | _, _, 0, h, .lst _ _ q t => by simp only [D.py]; exact .lst (SqL.of q) (flat_dps 0 (by cases t with | nil => simp [flatAll] | cons _ _ => simp [D.flat] at h) t)
  | _, _, n + 1, h, .lst _ _ q t => by simp only [D.py]; exact .lst (SqL.of q) (flat_dps n (by simpa [D.flat] using h) t)
  | _, _, n, h, .dct _ _ _ _ => by cases n <;> simp [D.flat] at h
  | _, _, n, h, .obj _ _ _ _ => by cases n <;> simp [D.flat] at h
  | _, _, n, h, .ref _ => by cases n <;> simp [D.flat] at h
  | _, _, n, h, .fn _ => by cases n <;> simp [D.flat] at h
  | _, _, n, h, .roi _ => by cases n <;> simp [D.flat] at h
theorem flat_dps : ∀ {ds : List D} {vs : List V} (n : Nat), flatAll n ds = true → RDs W Z ρ H ds vs → DpAll W.K H vs (pyAll ds)
  | _, _, _, _, .nil => by simpa [pyAll] using DpAll.nil
  | _, _, n, h, .cons r t => by
    simp only [flatAll, Bool.and_eq_true] at h
    simp only [pyAll]
    exact .cons (flat_dp n h.1 r) (flat_dps n h.2 t)
end
/-- a value as data, its reference written out -/
theorem seen_dp (S : Sim W Z ρ h H) {d d' : D} {v : V} (r : RD W Z ρ H d v) (e : seen h 0 d = some d') (f : d'.flat 60 = true) : Dp W.K H v d'.py := by
  have r0 := r
  cases r
  case ref a n en =>
    simp only [seen] at e
    cases eo : h[n]? with
    | none => rw [eo] at e; cases e
    | some o =>
      rw [eo] at e
      have q := S.obj n o a eo en
      cases o <;> dsimp only at e <;> cases e
      · cases q with | lst q t => simp only [D.py]; exact .lst (SqL.of q) (flat_dps 59 (by simpa [D.flat] using f) t)
      · cases q with | ro q t => simp only [D.py]; exact .lst (.inl q) (flat_dps 59 (by simpa [D.flat] using f) t)
      · simp [D.flat] at f
  all_goals
    simp only [seen, Option.some.injEq] at e
    subst e
    exact flat_dp 60 f r0
end
/-! ### comparisons -/
section
variable {W : Wd} {Z ρ : List Addr} {h : Hh} {H : Hp} {a b : D} {v u : V}
theorem scal_ok (ra : RD W Z ρ H a v) (rb : RD W Z ρ H b u) (e : scalPair a b = true) : scal v u = true ∧ decide (v = u) = a.eqv b := by
  cases ra <;> cases rb <;> first
    | (simp [scalPair, scalar] at e; done)
    | (simp [scal, D.eqv]; done)
    | skip
  · exact ⟨rfl, by simp only [D.eqv]; exact dec_bl⟩
  · exact ⟨rfl, by simp only [D.eqv]; exact dec_int⟩
  · refine ⟨rfl, ?_⟩
    rename_i x y
    simp only [D.eqv]
    rw [dec_str]
    by_cases q : x = y
    · subst q; simp
    · have : ¬ toS x = toS y := fun z => q (toS_inj z)
      rw [beq_eq_false_iff_ne.mpr this, beq_eq_false_iff_ne.mpr q]
theorem flatV_ok (ra : RD W Z ρ H a v) (e : scalar a = true) : flatV v = true := by
  cases ra <;> simp [scalar] at e <;> rfl
theorem eqV_ok (ra : RD W Z ρ H a v) (rb : RD W Z ρ H b u) (e : scalar a = true) (f : scalar b = true) : eqV v u = a.eqv b := by
  cases ra <;> cases rb <;> first
    | (simp [scalar] at e; done)
    | (simp [scalar] at f; done)
    | (simp [eqV, D.eqv]; done)
    | skip
  rename_i x y
  simp only [D.eqv, eqV]
  by_cases q : x = y
  · subst q; simp
  · have : ¬ toS x = toS y := fun z => q (toS_inj z)
    rw [beq_eq_false_iff_ne.mpr this, beq_eq_false_iff_ne.mpr q]
theorem inV_ok (ra : RD W Z ρ H a v) (e : scalar a = true) : ∀ {xs : List D} {vs : List V}, RDs W Z ρ H xs vs → xs.all scalar = true → vs.all flatV = true ∧ inV v vs = xs.any fun y => y.eqv a := by
  intro xs
  induction xs with
  | nil => intro vs r _; cases r; exact ⟨rfl, rfl⟩
  | cons x xs ih =>
    intro vs r f
    cases r with
    | cons r t =>
      rw [List.all_cons, Bool.and_eq_true] at f
      obtain ⟨i1, i2⟩ := ih t f.2
      refine ⟨by rw [List.all_cons, flatV_ok r f.1, i1]; rfl, ?_⟩
      simp only [inV, List.any_cons] at i2 ⊢
      rw [eqV_ok r ra f.1 e, i2]
end
section
variable {X : Cx} {W : Wd}
/-- what is asked of two values: the truth f tells -/
def r2b (W : Wd) (f : Hh → D → D → Option Bool) : R2 := fun x y H Q => ∃ Z ρ h d e r, Sim W Z ρ h H ∧ RD W Z ρ H d x ∧ RD W Z ρ H e y ∧ f h d e = some r ∧ Fw.Ans W Z ρ h H (.bl r) Q
theorem key1_ok {Z ρ : List Addr} {H : Hp} {d : D} {v : V} {k : K1} (r : RD W Z ρ H d v) (e : key1 d = some k) : v = kV (keyS k) := by
  cases r <;> simp [key1] at e <;> subst e <;> rfl
theorem RKs.any {Z ρ : List Addr} {H : Hp} (k : K1) : ∀ {kds : List (K1 × D)} {kvs : List (Key × V)}, RKs W Z ρ H kds kvs → (kds.any fun q => decide (q.1 = k)) = (valV kvs (keyS k)).isSome := by
  intro kds
  induction kds with
  | nil => intro kvs r; cases r; rfl
  | cons q kds ih =>
    intro kvs r
    cases r with
    | @cons k' d _ v vs r t =>
      rw [List.any_cons, ih t]
      by_cases e : k' = k
      · subst e
        rw [valV_pos (by rfl)]
        simp
      · rw [valV_neg (fun z => e (keyS_inj z))]
        simp [e]
theorem RKs.look {Z ρ : List Addr} {H : Hp} {k : K1} {d : D} : ∀ {kds : List (K1 × D)} {kvs : List (Key × V)}, RKs W Z ρ H kds kvs → Fw.look k kds = some d → ∃ v, valV kvs (keyS k) = some v ∧ RD W Z ρ H d v := by
  intro kds
  induction kds with
  | nil => intro kvs r e; simp [Fw.look] at e
  | cons q kds ih =>
    intro kvs r e
    cases r with
    | @cons k' d' _ v vs r t =>
      simp only [Fw.look] at e
      by_cases q : k' = k
      · subst q
        rw [if_pos rfl] at e
        cases e
        exact ⟨v, valV_pos (by rfl), r⟩
      · rw [if_neg q] at e
        rw [valV_neg (fun z => q (keyS_inj z))]
        exact ih t e
theorem mem_in (hK : X.K = W.K) (hu : X.A.units + 64 < cLine) (pins : List (Addr × Obj)) (s : Shared) (σ : L2.St) (H : Hp) (x y : V) (v u : Value) (Q : VK) (I : Inv X pins σ H s) (rx : RelV x v) (ry : RelV y u)
    {Z ρ : List Addr} {h : Hh} {d e : D} {r : Bool} (S : Sim W Z ρ h H) (rd : RD W Z ρ H d x) (re : RD W Z ρ H e y) (hm : isMem h d e = some r) (hb : ∀ b, b = r → Q (.bl b) H) :
    wpAny (model X.prog X.w) X.A (compareOp .In v u) (EP X pins σ Q) X.xe s := by
  have hu1 : X.A.units + 1 < cLine := by omega
  unfold isMem at hm
  cases e1 : asDct h e with
  | some kvs =>
    rw [e1] at hm
    cases e2 : key1 d with
    | none => rw [e2] at hm; cases hm
    | some k =>
      rw [e2] at hm
      cases hm
      obtain ⟨a, vs, rfl, q, t⟩ := asDct_ok S re e1
      obtain rfl : u = Value.ref a := ry
      have hk := key1_ok rd e2
      exact d_in hu1 I (o := valV vs (keyS k)) (.inl ⟨vs, keyS k, q, hk, rfl⟩) rx fun s' I' => ⟨.bl _, H, I', rfl, hb _ (t.any k).symm⟩
  | none =>
    rw [e1] at hm
    cases e2 : asSeq h e with
    | none => rw [e2] at hm; cases hm
    | some xs =>
      rw [e2] at hm
      dsimp only at hm
      split at hm
      · rename_i hc
        cases hm
        rw [Bool.and_eq_true] at hc
        obtain ⟨a, vs, rfl, q, t⟩ := asSeq_ok S re e2
        obtain ⟨i1, i2⟩ := inV_ok rd hc.1 t hc.2
        exact op_in_seq pins s σ H _ _ v u Q I rx ry ⟨a, vs, rfl, hK ▸ q, flatV_ok rd hc.1, i1, hb _ (by simpa using i2)⟩
      · cases hm
theorem mem_notin (hK : X.K = W.K) (hu : X.A.units + 64 < cLine) (pins : List (Addr × Obj)) (s : Shared) (σ : L2.St) (H : Hp) (x y : V) (v u : Value) (Q : VK) (I : Inv X pins σ H s) (rx : RelV x v) (ry : RelV y u)
    {Z ρ : List Addr} {h : Hh} {d e : D} {r : Bool} (S : Sim W Z ρ h H) (rd : RD W Z ρ H d x) (re : RD W Z ρ H e y) (hm : isMem h d e = some r) (hb : ∀ b, b = !r → Q (.bl b) H) :
    wpAny (model X.prog X.w) X.A (compareOp .NotIn v u) (EP X pins σ Q) X.xe s := by
  have hu1 : X.A.units + 1 < cLine := by omega
  unfold isMem at hm
  cases e1 : asDct h e with
  | some kvs =>
    rw [e1] at hm
    cases e2 : key1 d with
    | none => rw [e2] at hm; cases hm
    | some k =>
      rw [e2] at hm
      cases hm
      obtain ⟨a, vs, rfl, q, t⟩ := asDct_ok S re e1
      obtain rfl : u = Value.ref a := ry
      have hk := key1_ok rd e2
      exact d_notIn hu1 I (o := valV vs (keyS k)) (.inl ⟨vs, keyS k, q, hk, rfl⟩) rx fun s' I' => ⟨.bl _, H, I', rfl, hb _ (congrArg (fun b => !b) (t.any k).symm)⟩
  | none =>
    rw [e1] at hm
    cases e2 : asSeq h e with
    | none => rw [e2] at hm; cases hm
    | some xs =>
      rw [e2] at hm
      dsimp only at hm
      split at hm
      · rename_i hc
        cases hm
        rw [Bool.and_eq_true] at hc
        obtain ⟨a, vs, rfl, q, t⟩ := asSeq_ok S re e2
        obtain ⟨i1, i2⟩ := inV_ok rd hc.1 t hc.2
        exact op_notIn_seq pins s σ H _ _ v u Q I rx ry ⟨a, vs, rfl, hK ▸ q, flatV_ok rd hc.1, i1, hb _ (by simp [i2])⟩
      · cases hm
theorem op_cmp (hK : X.K = W.K) (hu : X.A.units + 64 < cLine) (op : Cop) : OpR X (compareOp (copOf op)) (r2b W fun h => cmpop h op) := by
  intro pins s σ H x y v u Q I rx ry hq
  obtain ⟨Z, ρ, h, d, e, r, S, rd, re, hf, hA⟩ := hq
  have hb : ∀ {b : Bool}, b = r → Q (.bl b) H := fun {b} q => by subst q; exact hA.now S (.bl _)
  cases op
  case eq =>
    simp only [cmpop, eqD] at hf
    split at hf
    · rename_i hs
      cases hf
      obtain ⟨h1, h2⟩ := scal_ok rd re hs
      exact op_eq pins s σ H _ _ v u Q I rx ry ⟨h1, hb h2⟩
    · split at hf
      · rename_i a b ea eb
        split at hf
        · rename_i hfl
          cases hf
          rw [Bool.and_eq_true] at hfl
          exact op_eqD hu pins s σ H _ _ v u Q I rx ry ⟨a.py, b.py, hK ▸ seen_dp S rd ea hfl.1, hK ▸ seen_dp S re eb hfl.2, flat_shaped hfl.1, flat_shaped hfl.2, hb (flat_eqv 60 60 a b hfl.1 hfl.2)⟩
        · cases hf
      · cases hf
  case ne =>
    simp only [cmpop, eqD] at hf
    split at hf
    · rename_i hs
      cases hf
      obtain ⟨h1, h2⟩ := scal_ok rd re hs
      exact op_ne pins s σ H _ _ v u Q I rx ry ⟨h1, hb (by rw [h2])⟩
    · split at hf
      · rename_i a b ea eb
        split at hf
        · rename_i hfl
          cases hf
          rw [Bool.and_eq_true] at hfl
          exact op_neD hu pins s σ H _ _ v u Q I rx ry ⟨a.py, b.py, hK ▸ seen_dp S rd ea hfl.1, hK ▸ seen_dp S re eb hfl.2, flat_shaped hfl.1, flat_shaped hfl.2, hb (by rw [flat_eqv 60 60 a b hfl.1 hfl.2])⟩
        · cases hf
      · cases hf
  case lt =>
    cases d <;> cases e <;> simp only [cmpop] at hf <;> first | (cases hf; done) | skip
    · cases rd; cases re; cases hf
      exact op_lt pins s σ H _ _ v u Q I rx ry ⟨_, _, rfl, rfl, hb rfl⟩
    · cases rd; cases re; cases hf
      exact op_lt_str pins s σ H _ _ v u Q I rx ry ⟨_, _, rfl, rfl, hb (by rw [toS_list, toS_list])⟩
  case le =>
    cases d <;> cases e <;> simp only [cmpop] at hf <;> first | (cases hf; done) | skip
    · cases rd; cases re; cases hf
      exact op_le pins s σ H _ _ v u Q I rx ry ⟨_, _, rfl, rfl, hb rfl⟩
    · cases rd; cases re; cases hf
      exact op_le_str pins s σ H _ _ v u Q I rx ry ⟨_, _, rfl, rfl, hb (by rw [toS_list, toS_list])⟩
  case gt =>
    cases d <;> cases e <;> simp only [cmpop] at hf <;> first | (cases hf; done) | skip
    cases rd; cases re; cases hf
    exact op_gt pins s σ H _ _ v u Q I rx ry ⟨_, _, rfl, rfl, hb rfl⟩
  case ge =>
    cases d <;> cases e <;> simp only [cmpop] at hf <;> first | (cases hf; done) | skip
    cases rd; cases re; cases hf
    exact op_ge pins s σ H _ _ v u Q I rx ry ⟨_, _, rfl, rfl, hb rfl⟩
  case is_ =>
    by_cases he : e = .non
    · subst he
      cases re
      have hr : d.isNon = r := by cases d <;> simpa [cmpop] using hf
      refine op_isN pins s σ H _ _ v u Q I rx ry ⟨rfl, hb ?_⟩
      rw [← hr]
      cases rd <;> rfl
    · cases d <;> cases e <;> simp only [cmpop] at hf <;> first | (cases hf; done) | (exact absurd rfl he) | skip
      cases rd; cases re; cases hf
      exact op_isBl pins s σ H _ _ v u Q I rx ry ⟨_, _, rfl, rfl, hb (by rename_i a b; cases a <;> cases b <;> rfl)⟩
  case isnt =>
    by_cases he : e = .non
    · subst he
      cases re
      have hr : (!d.isNon) = r := by cases d <;> simpa [cmpop] using hf
      refine op_notN pins s σ H _ _ v u Q I rx ry ⟨rfl, hb ?_⟩
      rw [← hr]
      cases rd <;> rfl
    · cases d <;> cases e <;> simp only [cmpop] at hf <;> first | (cases hf; done) | (exact absurd rfl he) | skip
      cases rd; cases re; cases hf
      exact op_notBl pins s σ H _ _ v u Q I rx ry ⟨_, _, rfl, rfl, hb (by rename_i a b; cases a <;> cases b <;> rfl)⟩
  case in_ =>
    by_cases hs : ∃ c y, d = .str [c] ∧ e = .str y
    · obtain ⟨c, z, rfl, rfl⟩ := hs
      cases rd; cases re
      simp only [cmpop, Option.some.injEq] at hf
      exact op_in_sign pins s σ H _ _ v u Q I rx ry ⟨c, toS z, rfl, rfl, hb (by rw [toS_list]; exact hf)⟩
    · have hm : isMem h d e = some r := by
        rw [← hf]
        cases d <;> try (cases e <;> rfl)
        rename_i a
        match a, hs with
        | [], _ => cases e <;> rfl
        | [c], hs => cases e <;> first | rfl | (exact absurd ⟨c, _, rfl, rfl⟩ hs)
        | _ :: _ :: _, _ => cases e <;> rfl
      exact mem_in hK hu pins s σ H _ _ v u Q I rx ry S rd re hm (fun b q => hb q)
  case notin =>
    by_cases hs : ∃ c y, d = .str [c] ∧ e = .str y
    · obtain ⟨c, z, rfl, rfl⟩ := hs
      cases rd; cases re
      simp only [cmpop, Option.some.injEq] at hf
      exact op_notIn_sign pins s σ H _ _ v u Q I rx ry ⟨c, toS z, rfl, rfl, hb (by rw [toS_list]; exact hf)⟩
    · have hm : (isMem h d e).map (!·) = some r := by
        rw [← hf]
        cases d <;> try (cases e <;> rfl)
        rename_i a
        match a, hs with
        | [], _ => cases e <;> rfl
        | [c], hs => cases e <;> first | rfl | (exact absurd ⟨c, _, rfl, rfl⟩ hs)
        | _ :: _ :: _, _ => cases e <;> rfl
      cases hm' : isMem h d e with
      | none => rw [hm'] at hm; cases hm
      | some r' =>
        rw [hm'] at hm
        cases hm
        exact mem_notin hK hu pins s σ H _ _ v u Q I rx ry S rd re hm' (fun b q => hb (by rw [q]))
/-! ### subscripts -/
theorem ixn_eq (n : Nat) (i : Int) : ixn n i = L2.ixN n i := rfl
theorem ix_all (hK : X.K = W.K) (hu : X.A.units + 64 < cLine) : IxR X (r2 W index) := by
  intro value sl pins s σ H x y v u Q I rx ry hq hs
  obtain ⟨Z, ρ, h, d, e, r, S, rd, re, hf, hA⟩ := hq
  have dict : ∀ {k : K1} {kvs : List (K1 × D)}, asDct h d = some kvs → key1 e = some k → look k kvs = some r → wpAny (model X.prog X.w) X.A (subscriptTail value sl v u) (EP X pins σ Q) X.xe s := by
    intro k kvs e1 e2 e3
    obtain ⟨a, vs, rfl, q, t⟩ := asDct_ok S rd e1
    obtain rfl : v = Value.ref a := rx
    obtain ⟨z, hz, rz⟩ := t.look e3
    have g : DGet H a y (some z) := .inl ⟨vs, keyS k, q, key1_ok re e2, hz.symm⟩
    exact tail_any (dict_typeIs I g) PySem.F.slot_dict_getitem.lookup (d_getItem (by omega) I g ry fun w' s3 I3 rw' => ⟨z, H, I3, rw', hA.now S rz⟩) hs
  cases e <;> simp only [index] at hf <;> first | (cases hf; done) | skip
  · rename_i i
    by_cases hd : ∃ t, d = .str t
    · obtain ⟨t, rfl⟩ := hd
      simp only at hf
      split at hf
      · rename_i hl
        cases e1 : (ixn t.length i).bind fun j => t[j]? with
        | none => rw [e1] at hf; cases hf
        | some c =>
          rw [e1] at hf
          cases hf
          cases rd
          cases re
          refine ix_str value sl pins s σ H _ _ v u Q I rx ry ⟨toS t, i, c, rfl, rfl, by rw [toS_len, ← line_eq]; exact hl, ?_, hA.now S (.str [c])⟩ hs
          rw [toS_list]
          exact e1
      · cases hf
    · have hf' : (match asSeq h d with
        | some xs => (ixn xs.length i).bind fun j => xs[j]?
        | none => (asDct h d).bind fun kvs => look (.inl i) kvs) = some r := by
        rw [← hf]
        cases d <;> first | rfl | (exact absurd ⟨_, rfl⟩ hd)
      cases e1 : asSeq h d with
      | some xs =>
        rw [e1] at hf'
        dsimp only at hf'
        obtain ⟨a, vs, rfl, q, t⟩ := asSeq_ok S rd e1
        cases re
        cases e2 : ixn xs.length i with
        | none => rw [e2] at hf'; cases hf'
        | some j =>
          rw [e2] at hf'
          obtain ⟨z, hz, rz⟩ := t.get hf'
          have hat : atI vs i = some z := by
            show (L2.ixN vs.length i).bind _ = _
            rw [← t.length, ← ixn_eq, e2]
            exact hz
          rcases q with q | q
          · exact ix_list value sl pins s σ H _ _ v u Q I rx ry ⟨a, vs, i, z, rfl, rfl, hK ▸ q, hat, hA.now S rz⟩ hs
          · exact ix_tup value sl pins s σ H _ _ v u Q I rx ry ⟨a, vs, i, z, rfl, rfl, hK ▸ q, hat, hA.now S rz⟩ hs
      | none =>
        rw [e1] at hf'
        cases e2 : asDct h d with
        | none => rw [e2] at hf'; cases hf'
        | some kvs => rw [e2] at hf'; exact dict e2 rfl hf'
  · rename_i t
    cases e2 : asDct h d with
    | none => rw [e2] at hf; cases hf
    | some kvs => rw [e2] at hf; exact dict e2 rfl hf
/-- slices -/
def rSl (W : Wd) : V → Option Int → Option Int → Hp → VK → Prop := fun x lo hi H Q => ∃ Z ρ h d r, Sim W Z ρ h H ∧ RD W Z ρ H d x ∧ slice h d lo hi = some r ∧ Fw.Ans W Z ρ h H r Q
theorem six_eq (n d : Nat) (o : Option Int) : six n d o = HT.sIx n d o := by cases o <;> rfl
theorem sl_all (hK : X.K = W.K) : SlR X (rSl W) := by
  intro pins s σ H x v vl vu lo hi sl Q I rx hs pl pu hq
  obtain ⟨Z, ρ, h, d, r, S, rd, hf, hA⟩ := hq
  have lst : ∀ {xs : List D}, asLst h d = some xs → r = .lst (cut xs lo hi) → ∃ T id, typeLookup (.type T) "__getitem__" = pure (some (.builtin id)) ∧ s.TypeIs v T ∧ wpAny (model X.prog X.w) X.A (getItem v (.ref sl)) (EP X pins σ Q) X.xe s := by
    intro xs e1 e2
    subst e2
    obtain ⟨a, vs, rfl, q, t⟩ := asLst_ok S rd e1
    refine sl_list pins s σ H _ v vl vu lo hi sl Q I rx hs pl pu ⟨a, vs, rfl, SqL.of q, fun p n => hA.lst S ?_ p n⟩
    unfold cut cutV
    rw [six_eq, six_eq, t.length]
    exact t.drop.take
  cases d <;> simp only [slice] at hf
  case str t =>
    split at hf
    · rename_i hl
      cases hf
      cases rd
      refine C8.sl_txt pins s σ H _ v vl vu lo hi sl Q I rx hs pl pu ⟨toS t, rfl, by rw [toS_len, ← line_eq]; exact hl, ?_⟩
      have e : Txt.slice (toS t) lo hi = toS (cut t lo hi) := by
        rw [← C8.cutS_slice]
        unfold cutS cut toS
        rw [six_eq, six_eq]
        simp [Str.length]
      rw [e]
      exact hA.now S (.str _)
    · cases hf
  case tup xs =>
    cases hf
    obtain ⟨a, vs, rfl, q, t⟩ := tup_ok rd
    refine sl_tupA pins s σ H _ v vl vu lo hi sl Q I rx hs pl pu ⟨a, vs, rfl, hK ▸ q, fun hw => ?_, fun _ p n => ?_⟩
    · have e : cut xs lo hi = xs := by
        unfold cut
        rw [six_eq, six_eq, t.length, hw.1, hw.2]
        simp [← t.length]
      rw [e] at hA
      exact hA.now S rd
    · refine hA.tup S ?_ p n
      unfold cut cutV
      rw [six_eq, six_eq, t.length]
      exact t.drop.take
  case lst xs => exact lst rfl (by cases hf; rfl)
  case ref n =>
    cases e1 : asLst h (.ref n) with
    | none => rw [e1] at hf; cases hf
    | some xs => rw [e1] at hf; exact lst e1 (by cases hf; rfl)
  all_goals simp [asLst] at hf
end
end Fw
end
section
set_option Elab.async false
set_option linter.all false
set_option maxRecDepth 100000
set_option autoImplicit false
set_option maxHeartbeats 1000000
/-! Fw4: expressions. -/
namespace Fw
open PySem PySem.Spec PyProof.Rows L2
/-! ### what is asked -/
def tE (W : Wd) (wx : WX) (f : TM) : TE := fun σ H Q => ∃ Z ρ σd h, Sim W Z ρ h H ∧ RSg W Z ρ H σd σ ∧ Post W Z ρ H (f σd h) (fun d ρ' _ H' => ∀ v, RD W Z ρ' H' d v → Q v H') (fun cls dd H' => wx cls dd σ H')
def tA (W : Wd) (wx : WX) (f : AM) : TA := fun σ H Q => ∃ Z ρ σd h, Sim W Z ρ h H ∧ RSg W Z ρ H σd σ ∧ Post W Z ρ H (f σd h) (fun ds ρ' _ H' => ∀ vs, RDs W Z ρ' H' ds vs → Q vs H') (fun cls dd H' => wx cls dd σ H')
def tB (W : Wd) (wx : WX) (f : BM) : TT := fun σ H Q => ∃ Z ρ σd h, Sim W Z ρ h H ∧ RSg W Z ρ H σd σ ∧ Post W Z ρ H (f σd h) (fun k _ _ H' => Q k H') (fun cls dd H' => wx cls dd σ H')
def tOp1 (W : Wd) (wx : WX) (f : OM) : TO := fun σ H Q => ∃ Z ρ σd h, Sim W Z ρ h H ∧ RSg W Z ρ H σd σ ∧ Post W Z ρ H (f σd h) (fun k _ _ H' => Q k H') (fun cls dd H' => wx cls dd σ H')
/-- the context as the rules want it -/
structure Jc (X : Cx) (W : Wd) (wx : WX) : Prop where
  hK : X.K = W.K
  hu : X.A.units + 64 < cLine
  tk : Takes X wx
abbrev EJ (X : Cx) (W : Wd) (wx : WX) (e : Expr) (f : TM) : Prop := PE X e (tE W wx f)
abbrev AJ (X : Cx) (W : Wd) (wx : WX) (es : List Expr) (f : AM) : Prop := PA X es (tA W wx f)
abbrev BJ (X : Cx) (W : Wd) (wx : WX) (e : Expr) (f : BM) : Prop := PT X e (tB W wx f)
abbrev WJ (X : Cx) (W : Wd) (wx : WX) (e : Expr) (f : BM) : Prop := PW X e (tB W wx f)
abbrev OJ (X : Cx) (W : Wd) (wx : WX) (e : Option Expr) (f : OM) : Prop := PO X e (tOp1 W wx f)
section
variable {W : Wd} {Z ρ : List Addr} {h : Hh} {H : Hp} {E : XK}
theorem post_opt {o : Option D} {Q : VK} (p : Post W Z ρ H (opt o h) (fun d ρ' _ H' => ∀ v, RD W Z ρ' H' d v → Q v H') E) : ∃ r, o = some r ∧ Fw.Ans W Z ρ h H r Q := by
  cases o with
  | none => exact p.elim
  | some r => exact ⟨r, rfl, fun ρ' H' v x S rv => p ρ' H' x S v rv⟩
theorem post_optB {o : Option Bool} {Q : Bool → Hp → Prop} (S : Sim W Z ρ h H) (p : Post W Z ρ H (optB o h) (fun k _ _ H' => Q k H') E) : ∃ r, o = some r ∧ Q r H := by
  cases o with
  | none => exact p.elim
  | some r => exact ⟨r, rfl, p ρ H Ext.refl S⟩
theorem post_now {α : Type} {a : α} {Q : α → List Addr → Hh → Hp → Prop} (S : Sim W Z ρ h H) (p : Post W Z ρ H (.ok a h) Q E) : Q a ρ h H := p ρ H Ext.refl S
end
variable {X : Cx} {W : Wd} {wx : WX} {a b c e : Expr} {fa fb fc f : TM} {ga gb : BM} {pos : Pos} {es rest : List Expr} {fs : AM}
/-! ### names, constants -/
theorem ej_c {v : V} {d : D} (h : PE X e (tC v)) (hd : ∀ Z ρ H, RD W Z ρ H d v) : EJ X W wx e (eC d) :=
  ⟨fun pins s σ H Q I ⟨Z, ρ, σd, h0, S, rs, p⟩ => h.run pins s σ H Q I (post_now S p v (hd Z ρ H))⟩
theorem ej_int {i : Int} {j pos} : EJ X W wx (.Constant (.int i) j pos) (eC (.int i)) := ej_c pe_int fun _ _ _ => .int i
theorem ej_bl {i : Bool} {j pos} : EJ X W wx (.Constant (.bool i) j pos) (eC (.bl i)) := ej_c pe_bl fun _ _ _ => .bl i
theorem ej_non {j pos} : EJ X W wx (.Constant .none j pos) (eC .non) := ej_c pe_non fun _ _ _ => .non
theorem ej_str {x : Str} {t : Tx} {j pos} (h : x = toS t := by rfl) : EJ X W wx (.Constant (.str x) j pos) (eC (.str t)) := by subst h; exact ej_c pe_str fun _ _ _ => .str t
theorem ej_v {i : Nat} {x : Str} (hN : X.N[i]? = some x) (hv : Vis X.env.scope x) (hd : (x == ("__debug__" : Str)) = false := by decide) (hcd : (x == ("__classdict__" : Str)) = false := by decide) : EJ X W wx (.Name x pos) (eV i) :=
  ⟨fun pins s σ H Q I ⟨Z, ρ, σd, h0, S, rs, p⟩ => by
    obtain ⟨d, hd', hA⟩ := post_opt p
    have : σd[i]? = some (some d) := by
      unfold sget at hd'
      split at hd'
      · rename_i d' q; cases hd'; exact q
      · cases hd'
    obtain ⟨v, hv', rv⟩ := rs.at_ i d this
    exact (pe_var hN hv hd hcd).run pins s σ H Q I ⟨v, hv', hA.now S rv⟩⟩
/-! ### lists of values -/
theorem aj_nil : AJ X W wx [] aNil := ⟨fun pos pins s σ H Q I ⟨Z, ρ, σd, h0, S, rs, p⟩ => pa_nil.run pos pins s σ H Q I (post_now S p [] .nil)⟩
theorem aj_cons (ha : EJ X W wx e f) (hr : AJ X W wx es fs) (hs : starEach (e :: es) X.env = (false, eval e X.env) :: starEach es X.env := by rfl) : AJ X W wx (e :: es) (aCons f fs) :=
  ⟨fun pos pins s σ H Q I ⟨Z, ρ, σd, h0, S, rs, p⟩ => (pa_cons ha hr hs).run pos pins s σ H Q I
    ⟨Z, ρ, σd, h0, S, rs, (Post.bind p).imp fun d ρ1 h1 H1 x1 S1 p1 v rv =>
      ⟨Z, ρ1, σd, h1, S1, rs.mono x1, (Post.bind p1).imp fun ds ρ2 h2 H2 x2 S2 p2 vs rvs => post_now S2 p2 (v :: vs) (.cons (rv.mono x2) rvs)⟩⟩⟩
theorem ej_tup {k} (ha : AJ X W wx es fs) : EJ X W wx (.Tuple es k pos) (eTup fs) :=
  ⟨fun pins s σ H Q I ⟨Z, ρ, σd, h0, S, rs, p⟩ => (pe_tup ha).run pins s σ H Q I
    ⟨Z, ρ, σd, h0, S, rs, (Post.bind p).imp fun ds ρ1 h1 H1 x1 S1 p1 vs rvs => by
      split at p1
      · rename_i hl
        refine ⟨by rw [← rvs.length, ← line_eq]; exact hl, fun q n => ?_⟩
        exact Fw.Ans.tup (fun ρ' H' v x S rv => p1 ρ' H' x S v rv) S1 rvs q n
      · exact p1.elim⟩⟩
theorem ej_lst (ha : AJ X W wx es fs) : EJ X W wx (.List es pos) (eLst fs) :=
  ⟨fun pins s σ H Q I ⟨Z, ρ, σd, h0, S, rs, p⟩ => (pe_lst ha).run pins s σ H Q I
    ⟨Z, ρ, σd, h0, S, rs, (Post.bind p).imp fun ds ρ1 h1 H1 x1 S1 p1 vs rvs => by
      split at p1
      · rename_i hl
        refine ⟨by rw [← rvs.length, ← line_eq]; exact hl, fun q n => ?_⟩
        exact Fw.Ans.lst (fun ρ' H' v x S rv => p1 ρ' H' x S v rv) S1 rvs q n
      · exact p1.elim⟩⟩
/-! ### a new thing of one's own -/
theorem getElem?_snoc {α : Type} {xs : List α} {x : α} {n : Nat} {y : α} (h : (xs ++ [x])[n]? = some y) : (n < xs.length ∧ xs[n]? = some y) ∨ (n = xs.length ∧ y = x) := by
  by_cases hn : n < xs.length
  · rw [List.getElem?_append_left hn] at h
    exact .inl ⟨hn, h⟩
  · rw [List.getElem?_append_right (by omega)] at h
    have : n - xs.length = 0 := by
      have := (List.getElem?_eq_some_iff.mp h).1
      simp at this
      omega
    rw [this] at h
    simp at h
    exact .inr ⟨by omega, h.symm⟩
section
variable {Z ρ : List Addr} {h : Hh} {H : Hp}
theorem Ext.own {p : Addr} {o : HO} (n : H p = none) : Ext ρ H (ρ ++ [p]) (upd H p o) :=
  ⟨List.prefix_append _ _, fun a u hr e => by
    refine ⟨fun hm => ?_, ?_⟩
    · rcases List.mem_append.mp hm with hm | hm
      · exact hr hm
      · have : a = p := by simpa using hm
        subst this; rw [n] at e; cases e
    · rw [upd_ne (ne_of_none e n)]; exact e⟩
theorem OR.mono' {p a : Addr} {o : O} {u : HO} (n : H p = none) (r : OR W Z ρ H a o) : OR W Z (ρ ++ [p]) (upd H p u) a o := by
  have x : Ext ρ H (ρ ++ [p]) (upd H p u) := Ext.own n
  cases r with
  | lst e t => exact .lst (by rw [upd_ne (ne_of_none e n)]; exact e) (t.mono x)
  | ro e t =>
    refine .ro ?_ (t.mono x)
    rcases e with e | ⟨ob, e⟩
    · exact .inl (by rw [upd_ne (ne_of_none e n)]; exact e)
    · exact .inr ⟨ob, by rw [upd_ne (ne_of_none e n)]; exact e⟩
  | dct e t => exact .dct (by rw [upd_ne (ne_of_none e n)]; exact e) (t.mono x)
  | ins e t => exact .ins (by rw [upd_ne (ne_of_none e n)]; exact e) (t.mono x)
/-- a new object becomes one's own -/
theorem Sim.own {p : Addr} {o : HO} {ob : O} (S : Sim W Z ρ h H) (n : H p = none) (r : OR W Z (ρ ++ [p]) (upd H p o) p ob) : Sim W Z (ρ ++ [p]) (h ++ [ob]) (upd H p o) where
  len := by simp [S.len]
  nd := List.nodup_append.mpr ⟨S.nd, by simp, fun a ha b hb => by
    have hb : b = p := by simpa using hb
    subst hb; exact fun e => (S.new n).2 (e ▸ ha)⟩
  dis := fun z hz => by
    obtain ⟨h1, u, e⟩ := S.dis z hz
    refine ⟨fun hm => ?_, u, by rw [upd_ne (ne_of_none e n)]; exact e⟩
    rcases List.mem_append.mp hm with hm | hm
    · exact h1 hm
    · have : z = p := by simpa using hm
      subst this; exact (S.new n).1 hz
  obj := fun m u a e1 e2 => by
    rcases getElem?_snoc e1 with ⟨hm, e1⟩ | ⟨hm, rfl⟩
    · rw [List.getElem?_append_left (by rw [S.len]; exact hm)] at e2
      exact (S.obj m u a e1 e2).mono' n
    · subst hm
      rw [List.getElem?_append_right (by rw [S.len]; exact Nat.le_refl _), S.len] at e2
      simp at e2
      subst e2
      exact r
end
theorem ej_newL (ha : AJ X W wx es fs) : EJ X W wx (.List es pos) (eNewL fs) :=
  ⟨fun pins s σ H Q I ⟨Z, ρ, σd, h0, S, rs, p⟩ => (pe_lst ha).run pins s σ H Q I
    ⟨Z, ρ, σd, h0, S, rs, (Post.bind p).imp fun ds ρ1 h1 H1 x1 S1 p1 vs rvs => by
      split at p1
      · rename_i hl
        refine ⟨by rw [← rvs.length, ← line_eq]; exact hl, fun q n => ?_⟩
        have S2 := S1.own (o := .lst vs) (ob := .lst ds) n (.lst upd_same (rvs.mono (Ext.own n)))
        exact p1 (ρ1 ++ [q]) _ (Ext.own n) S2 (.ref q) (.ref (by rw [← S1.len]; simp))
      · exact p1.elim⟩⟩
/-! ### operators -/
theorem ej_bin (J : Jc X W wx) {op : Bop} {o : Operator} (ho : o = bopOf op := by rfl) (ha : EJ X W wx a fa) (hb : EJ X W wx b fb) : EJ X W wx (.BinOp a o b pos) (eBin op fa fb) := by
  subst ho
  exact ⟨fun pins s σ H Q I ⟨Z, ρ, σd, h0, S, rs, p⟩ => (pe_op (op_bin J.hK op) ha hb).run pins s σ H Q I
    ⟨Z, ρ, σd, h0, S, rs, (Post.bind p).imp fun d ρ1 h1 H1 x1 S1 p1 v rv =>
      ⟨Z, ρ1, σd, h1, S1, rs.mono x1, (Post.bind p1).imp fun e ρ2 h2 H2 x2 S2 p2 u ru => by
        obtain ⟨r, e1, hA⟩ := post_opt p2
        exact ⟨Z, ρ2, h2, d, e, r, S2, rv.mono x2, ru, e1, hA⟩⟩⟩⟩
section
variable {Z ρ : List Addr} {h : Hh} {H : Hp} {E : XK}
theorem post_cmp {o : Option Bool} {Q : VK} (p : Post W Z ρ H (opt (o.map .bl) h) (fun d ρ' _ H' => ∀ v, RD W Z ρ' H' d v → Q v H') E) : ∃ r, o = some r ∧ Fw.Ans W Z ρ h H (.bl r) Q := by
  obtain ⟨r, e, hA⟩ := post_opt p
  cases o with
  | none => cases e
  | some k => cases e; exact ⟨k, rfl, hA⟩
end
theorem copOf_mark (b : Expr) {op : Cop} (h : op ≠ .in_) (h2 : op ≠ .notin) : behindInMarks (copOf op) b = false := by
  cases op <;> first | exact nomark _ | exact absurd rfl h | exact absurd rfl h2
theorem ej_cmp (J : Jc X W wx) {op : Cop} {o : CmpOp} (ho : o = copOf op := by rfl) (ha : EJ X W wx a fa) (hb : EJ X W wx b fb) (hm : behindInMarks o b = false := by with_unfolding_all rfl) : EJ X W wx (.Compare a [o] [b] pos) (eCmp op fa fb) := by
  subst ho
  exact ⟨fun pins s σ H Q I ⟨Z, ρ, σd, h0, S, rs, p⟩ => (pe_cmpR (op_cmp J.hK J.hu op) ha hb hm).run pins s σ H Q I
    ⟨Z, ρ, σd, h0, S, rs, (Post.bind p).imp fun d ρ1 h1 H1 x1 S1 p1 v rv =>
      ⟨Z, ρ1, σd, h1, S1, rs.mono x1, (Post.bind p1).imp fun e ρ2 h2 H2 x2 S2 p2 u ru => by
        obtain ⟨r, e1, hA⟩ := post_cmp p2
        exact ⟨Z, ρ2, h2, d, e, r, S2, rv.mono x2, ru, e1, hA⟩⟩⟩⟩
theorem bj_cmp (J : Jc X W wx) {op : Cop} {o : CmpOp} (ho : o = copOf op := by rfl) (ha : EJ X W wx a fa) (hb : EJ X W wx b fb) (hm : behindInMarks o b = false := by with_unfolding_all rfl) : BJ X W wx (.Compare a [o] [b] pos) (bCmp op fa fb) := by
  subst ho
  exact ⟨fun pins s σ H Q I ⟨Z, ρ, σd, h0, S, rs, p⟩ => (pt_cmpR (op_cmp J.hK J.hu op) ha hb hm).run pins s σ H Q I
    ⟨Z, ρ, σd, h0, S, rs, (Post.bind p).imp fun d ρ1 h1 H1 x1 S1 p1 v rv =>
      ⟨Z, ρ1, σd, h1, S1, rs.mono x1, (Post.bind p1).imp fun e ρ2 h2 H2 x2 S2 p2 u ru => by
        obtain ⟨r, e1, q⟩ := post_optB S2 p2
        refine ⟨Z, ρ2, h2, d, e, r, S2, rv.mono x2, ru, e1, fun ρ' H' v x S' rv' => ?_⟩
        cases rv'
        exact ⟨r, rfl, by
          have := p2
          rw [e1] at this
          exact this ρ' H' x S'⟩⟩⟩⟩
theorem chain_core {op op' : Cop} {Z ρ : List Addr} {h : Hh} {H : Hp} {d e : D} {v u : V} {σd : Sg} {σ : L2.St} {Q : Bool → List Addr → Hh → Hp → Prop} {Q' : VK} (S : Sim W Z ρ h H) (rs : RSg W Z ρ H σd σ) (rv : RD W Z ρ H d v) (ru : RD W Z ρ H e u)
    (p : Post W Z ρ H (match cmpop h op d e with
      | none => .bad
      | some false => R.ok false h
      | some true => (fc σd h).bind fun f h => optB (cmpop h op' e f) h) Q fun cls dd H' => wx cls dd σ H')
    (q : ∀ k ρ' h' H', Sim W Z ρ' h' H' → Q k ρ' h' H' → Q' (.bl k) H') :
    r2b W (fun h => cmpop h op) v u H fun z H3 => ∃ k, z = .bl k ∧ (if k = true then tE W wx fc σ H3 fun w' H4 => r2b W (fun h => cmpop h op') u w' H4 Q' else Q' (.bl false) H3) := by
  cases hc : cmpop h op d e with
  | none => rw [hc] at p; exact p.elim
  | some k =>
    rw [hc] at p
    refine ⟨Z, ρ, h, d, e, k, S, rv, ru, hc, fun ρ' H' w x S' rw' => ?_⟩
    cases rw'
    refine ⟨k, rfl, ?_⟩
    cases k with
    | false => exact q _ _ _ _ S' (p ρ' H' x S')
    | true =>
      have p' := p.mono x
      rw [if_pos rfl]
      refine ⟨Z, ρ', σd, h, S', rs.mono x, (Post.bind p').imp fun g ρ2 h2 H2 x2 S2 p2 w rw2 => ?_⟩
      cases hc2 : cmpop h2 op' e g with
      | none => rw [hc2] at p2; exact p2.elim
      | some k2 =>
        rw [hc2] at p2
        exact ⟨Z, ρ2, h2, e, g, k2, S2, (ru.mono x).mono x2, rw2, hc2, fun ρ3 H3 w3 x3 S3 r3 => by cases r3; exact q _ _ _ _ S3 (p2 ρ3 H3 x3 S3)⟩
theorem bj_ch (J : Jc X W wx) {op op' : Cop} {o o' : CmpOp} (ho : o = copOf op := by rfl) (ho' : o' = copOf op' := by rfl) (ha : EJ X W wx a fa) (hb : EJ X W wx b fb) (hc : EJ X W wx c fc)
    (hm : lastMarks [o, o'] [b, c] = false := by with_unfolding_all rfl) : BJ X W wx (.Compare a [o, o'] [b, c] pos) (bCh op op' fa fb fc) := by
  subst ho ho'
  exact ⟨fun pins s σ H Q I ⟨Z, ρ, σd, h0, S, rs, p⟩ => (pt_chain (op_cmp J.hK J.hu op) (op_cmp J.hK J.hu op') ha hb hc hm).run pins s σ H Q I
    ⟨Z, ρ, σd, h0, S, rs, (Post.bind p).imp fun d ρ1 h1 H1 x1 S1 p1 v rv =>
      ⟨Z, ρ1, σd, h1, S1, rs.mono x1, (Post.bind p1).imp fun e ρ2 h2 H2 x2 S2 p2 u ru =>
        chain_core S2 ((rs.mono x1).mono x2) (rv.mono x2) ru p2 fun k _ _ H' _ q => ⟨k, rfl, q⟩⟩⟩⟩
theorem ej_ch (J : Jc X W wx) {op op' : Cop} {o o' : CmpOp} (ho : o = copOf op := by rfl) (ho' : o' = copOf op' := by rfl) (ha : EJ X W wx a fa) (hb : EJ X W wx b fb) (hc : EJ X W wx c fc)
    (hm : lastMarks [o, o'] [b, c] = false := by with_unfolding_all rfl) : EJ X W wx (.Compare a [o, o'] [b, c] pos) (eCh op op' fa fb fc) := by
  subst ho ho'
  exact ⟨fun pins s σ H Q I ⟨Z, ρ, σd, h0, S, rs, p⟩ => (pe_chain (op_cmp J.hK J.hu op) (op_cmp J.hK J.hu op') ha hb hc hm).run pins s σ H Q I
    ⟨Z, ρ, σd, h0, S, rs, (Post.bind (Post.bind p)).imp fun d ρ1 h1 H1 x1 S1 p1 v rv =>
      ⟨Z, ρ1, σd, h1, S1, rs.mono x1, (Post.bind p1).imp fun e ρ2 h2 H2 x2 S2 p2 u ru =>
        chain_core S2 ((rs.mono x1).mono x2) (rv.mono x2) ru p2 fun k _ _ H' S' q => post_now S' q _ (.bl k)⟩⟩⟩
/-! ### truth -/
theorem ej_and (J : Jc X W wx) (ha : EJ X W wx a fa) (hb : EJ X W wx (.BoolOp .And (b :: rest) pos) fb) : EJ X W wx (.BoolOp .And (a :: b :: rest) pos) (eAnd fa fb) :=
  ⟨fun pins s σ H Q I ⟨Z, ρ, σd, h0, S, rs, p⟩ => (pe_andT ha hb).run pins s σ H Q I
    ⟨Z, ρ, σd, h0, S, rs, (Post.bind p).imp fun d ρ1 h1 H1 x1 S1 p1 v rv => by
      cases ht : tru h1 d with
      | none => rw [ht] at p1; exact p1.elim
      | some k =>
        rw [ht] at p1
        refine ⟨k, J.hK ▸ tru_ok S1 rv ht, ?_⟩
        cases k with
        | true => exact ⟨Z, ρ1, σd, h1, S1, rs.mono x1, p1⟩
        | false => exact post_now S1 p1 v rv⟩⟩
theorem ej_or (J : Jc X W wx) (ha : EJ X W wx a fa) (hb : EJ X W wx (.BoolOp .Or (b :: rest) pos) fb) : EJ X W wx (.BoolOp .Or (a :: b :: rest) pos) (eOr fa fb) :=
  ⟨fun pins s σ H Q I ⟨Z, ρ, σd, h0, S, rs, p⟩ => (pe_orT ha hb).run pins s σ H Q I
    ⟨Z, ρ, σd, h0, S, rs, (Post.bind p).imp fun d ρ1 h1 H1 x1 S1 p1 v rv => by
      cases ht : tru h1 d with
      | none => rw [ht] at p1; exact p1.elim
      | some k =>
        rw [ht] at p1
        refine ⟨k, J.hK ▸ tru_ok S1 rv ht, ?_⟩
        cases k with
        | false => exact ⟨Z, ρ1, σd, h1, S1, rs.mono x1, p1⟩
        | true => exact post_now S1 p1 v rv⟩⟩
theorem ej_one {op} (ha : EJ X W wx a fa) : EJ X W wx (.BoolOp op [a] pos) fa := pe_one ha
theorem ej_not (J : Jc X W wx) (ha : EJ X W wx a fa) : EJ X W wx (.UnaryOp .Not a pos) (eNot fa) :=
  ⟨fun pins s σ H Q I ⟨Z, ρ, σd, h0, S, rs, p⟩ => (pe_notT ha).run pins s σ H Q I
    ⟨Z, ρ, σd, h0, S, rs, (Post.bind p).imp fun d ρ1 h1 H1 x1 S1 p1 v rv => by
      cases ht : tru h1 d with
      | none => rw [ht] at p1; exact p1.elim
      | some k =>
        rw [ht] at p1
        exact ⟨k, J.hK ▸ tru_ok S1 rv ht, post_now S1 p1 _ (.bl _)⟩⟩⟩
theorem bj_t (J : Jc X W wx) (ha : EJ X W wx a fa) (he : ∀ whole, isTrue a X.env whole = (do let v ← whole; standAt a.pos; holding [v] (truthy v)) := by intro _; rfl) : BJ X W wx a (bT fa) :=
  ⟨fun pins s σ H Q I ⟨Z, ρ, σd, h0, S, rs, p⟩ => (pt_truth ha he).run pins s σ H Q I
    ⟨Z, ρ, σd, h0, S, rs, (Post.bind p).imp fun d ρ1 h1 H1 x1 S1 p1 v rv => by
      obtain ⟨k, ht, q⟩ := post_optB S1 p1
      exact ⟨k, J.hK ▸ tru_ok S1 rv ht, q⟩⟩⟩
theorem wj_and1 (ha : BJ X W wx a ga) : WJ X W wx (.BoolOp .And [a] pos) ga := pw_and1 ha
theorem wj_or1 (ha : BJ X W wx a ga) : WJ X W wx (.BoolOp .Or [a] pos) ga := pw_or1 ha
theorem wj_and (ha : BJ X W wx a ga) (hb : WJ X W wx (.BoolOp .And (b :: rest) pos) gb) : WJ X W wx (.BoolOp .And (a :: b :: rest) pos) (bAnd ga gb) :=
  ⟨fun whole pins s σ H Q I ⟨Z, ρ, σd, h0, S, rs, p⟩ => (pw_and ha hb).run whole pins s σ H Q I
    ⟨Z, ρ, σd, h0, S, rs, (Post.bind p).imp fun k ρ1 h1 H1 x1 S1 p1 => by
      cases k with
      | true => exact ⟨Z, ρ1, σd, h1, S1, rs.mono x1, p1⟩
      | false => exact post_now S1 p1⟩⟩
theorem wj_or (ha : BJ X W wx a ga) (hb : WJ X W wx (.BoolOp .Or (b :: rest) pos) gb) : WJ X W wx (.BoolOp .Or (a :: b :: rest) pos) (bOr ga gb) :=
  ⟨fun whole pins s σ H Q I ⟨Z, ρ, σd, h0, S, rs, p⟩ => (pw_or ha hb).run whole pins s σ H Q I
    ⟨Z, ρ, σd, h0, S, rs, (Post.bind p).imp fun k ρ1 h1 H1 x1 S1 p1 => by
      cases k with
      | false => exact ⟨Z, ρ1, σd, h1, S1, rs.mono x1, p1⟩
      | true => exact post_now S1 p1⟩⟩
theorem bj_w (h : WJ X W wx a ga) : BJ X W wx a ga := PW.pt h
theorem bj_not (ha : BJ X W wx a ga) : BJ X W wx (.UnaryOp .Not a pos) (bNot ga) :=
  ⟨fun pins s σ H Q I ⟨Z, ρ, σd, h0, S, rs, p⟩ => (pt_not ha).run pins s σ H Q I
    ⟨Z, ρ, σd, h0, S, rs, (Post.bind p).imp fun k ρ1 h1 H1 x1 S1 p1 => post_now S1 p1⟩⟩
theorem ej_ite (hc : BJ X W wx c ga) (ha : EJ X W wx a fa) (hb : EJ X W wx b fb) : EJ X W wx (.IfExp c a b pos) (eIte ga fa fb) :=
  ⟨fun pins s σ H Q I ⟨Z, ρ, σd, h0, S, rs, p⟩ => (pe_ifExp hc ha hb).run pins s σ H Q I
    ⟨Z, ρ, σd, h0, S, rs, (Post.bind p).imp fun k ρ1 h1 H1 x1 S1 p1 => by
      cases k with
      | false => exact ⟨Z, ρ1, σd, h1, S1, rs.mono x1, p1⟩
      | true => exact ⟨Z, ρ1, σd, h1, S1, rs.mono x1, p1⟩⟩⟩
theorem ej_neg (ha : EJ X W wx a fa) : EJ X W wx (.UnaryOp .USub a pos) (eNeg fa) :=
  ⟨fun pins s σ H Q I ⟨Z, ρ, σd, h0, S, rs, p⟩ => (pe_un un_neg ha).run pins s σ H Q I
    ⟨Z, ρ, σd, h0, S, rs, (Post.bind p).imp fun d ρ1 h1 H1 x1 S1 p1 v rv => by
      cases d <;> first | (exact p1.elim) | skip
      cases rv
      exact ⟨_, rfl, post_now S1 p1 _ (.int _)⟩⟩⟩
/-! ### subscripts, slices -/
theorem ej_ix (J : Jc X W wx) (ha : EJ X W wx a fa) (hb : EJ X W wx b fb) (hs : PlainIx b := by intro _ _; rfl) : EJ X W wx (.Subscript a b pos) (eIx fa fb) :=
  ⟨fun pins s σ H Q I ⟨Z, ρ, σd, h0, S, rs, p⟩ => (pe_ix (ix_all J.hK J.hu) ha hb hs).run pins s σ H Q I
    ⟨Z, ρ, σd, h0, S, rs, (Post.bind p).imp fun d ρ1 h1 H1 x1 S1 p1 v rv =>
      ⟨Z, ρ1, σd, h1, S1, rs.mono x1, (Post.bind p1).imp fun e ρ2 h2 H2 x2 S2 p2 u ru => by
        obtain ⟨r, e1, hA⟩ := post_opt p2
        exact ⟨Z, ρ2, h2, d, e, r, S2, rv.mono x2, ru, e1, hA⟩⟩⟩⟩
theorem oj_n : OJ X W wx none oN := ⟨fun pins s σ H Q I ⟨Z, ρ, σd, h0, S, rs, p⟩ => po_none.run pins s σ H Q I (post_now S p)⟩
theorem oj_s (ha : EJ X W wx a fa) : OJ X W wx (some a) (oS fa) :=
  ⟨fun pins s σ H Q I ⟨Z, ρ, σd, h0, S, rs, p⟩ => (po_some ha).run pins s σ H Q I
    ⟨Z, ρ, σd, h0, S, rs, (Post.bind p).imp fun d ρ1 h1 H1 x1 S1 p1 v rv => by
      cases d <;> first | (exact p1.elim) | skip
      cases rv
      exact ⟨_, rfl, post_now S1 p1⟩⟩⟩
theorem ej_sl (J : Jc X W wx) {lo hi : Option Expr} {l u : OM} {p2 : Pos} (ha : EJ X W wx a fa) (hl : OJ X W wx lo l) (hh : OJ X W wx hi u) : EJ X W wx (.Subscript a (.Slice lo hi none p2) pos) (eSl fa l u) :=
  ⟨fun pins s σ H Q I ⟨Z, ρ, σd, h0, S, rs, p⟩ => (pe_slice (sl_all J.hK) ha hl hh).run pins s σ H Q I
    ⟨Z, ρ, σd, h0, S, rs, (Post.bind p).imp fun d ρ1 h1 H1 x1 S1 p1 v rv =>
      ⟨Z, ρ1, σd, h1, S1, rs.mono x1, (Post.bind p1).imp fun l ρ2 h2 H2 x2 S2 p2 =>
        ⟨Z, ρ2, σd, h2, S2, (rs.mono x1).mono x2, (Post.bind p2).imp fun u ρ3 h3 H3 x3 S3 p3 => by
          obtain ⟨r, e1, hA⟩ := post_opt p3
          exact ⟨Z, ρ3, h3, d, r, S3, (rv.mono x2).mono x3, e1, hA⟩⟩⟩⟩⟩
end Fw
end
section
set_option Elab.async false
set_option linter.all false
set_option maxRecDepth 100000
set_option autoImplicit false
set_option maxHeartbeats 1000000
/-! Fw5: targets, statements, loops. -/
namespace Fw
open PySem PySem.Spec PyProof.Rows L2
/-! ### slots -/
section
variable {W : Wd} {Z ρ : List Addr} {H : Hp} {σd : Sg} {σ : L2.St}
theorem RSg.set (r : RSg W Z ρ H σd σ) {i : Nat} {d : D} {v : V} (rv : RD W Z ρ H d v) : RSg W Z ρ H (σd.set i (some d)) (σ.set i (some v)) where
  len := by simp [r.len]
  at_ := fun j e h => by
    by_cases hij : i = j
    · subst hij
      by_cases hl : i < σd.length
      · rw [List.getElem?_set_self hl] at h
        cases h
        exact ⟨v, by rw [List.getElem?_set_self (by rw [← r.len]; exact hl)], rv⟩
      · rw [List.getElem?_eq_none (by simpa using hl)] at h; cases h
    · rw [List.getElem?_set_ne hij] at h
      rw [List.getElem?_set_ne hij]
      exact r.at_ j e h
theorem RSg.wipe (r : RSg W Z ρ H σd σ) : ∀ vs : List Nat, RSg W Z ρ H (Fw.wipe σd vs) (L2.wipe σ vs)
  | [] => r
  | v :: vs => by
    have ih := r.wipe vs
    refine ⟨by simp [Fw.wipe, L2.wipe, ih.len], fun j e h => ?_⟩
    simp only [Fw.wipe] at h
    by_cases hij : v = j
    · subst hij
      by_cases hl : v < (Fw.wipe σd vs).length
      · rw [List.getElem?_set_self hl] at h; cases h
      · rw [List.getElem?_eq_none (by simpa using hl)] at h; cases h
    · rw [List.getElem?_set_ne hij] at h
      simp only [L2.wipe]
      rw [List.getElem?_set_ne hij]
      exact ih.at_ j e h
end
theorem wipe_set {σ : L2.St} {i : Nat} {x : Option V} : ∀ {vs : List Nat}, i ∈ vs → L2.wipe (σ.set i x) vs = L2.wipe σ vs
  | [], h => absurd h (by simp)
  | v :: vs, h => by
    simp only [L2.wipe]
    by_cases hv : i ∈ vs
    · rw [wipe_set hv]
    · have : i = v := by simpa [hv] using h
      subst this
      have out : ∀ (vs : List Nat) (σ : L2.St), i ∉ vs → L2.wipe (σ.set i x) vs = (L2.wipe σ vs).set i x := by
        intro vs
        induction vs with
        | nil => intro σ _; rfl
        | cons w ws ih =>
          intro σ hw
          simp only [L2.wipe]
          rw [ih σ (fun q => hw (List.mem_cons_of_mem _ q))]
          exact List.set_comm _ _ (fun q => hw (by subst q; exact List.mem_cons_self))
      rw [out vs σ hv, List.set_set]
/-! ### targets -/
mutual
def gOf (K : PySem.W.Frag) : G → TG
  | .nm i => gName i
  | .tp gs => fun v σ H Q => gTup K gs.length (gsOf K gs) v σ H Q ∨ gLst K gs.length (gsOf K gs) v σ H Q
def gsOf (K : PySem.W.Frag) : List G → TGs
  | [] => gNil
  | g :: gs => gCons (gOf K g) (gsOf K gs)
end
theorem bindGs_len : ∀ {gs : List G} {xs : List D} {σ σ' : Sg}, bindGs σ gs xs = some σ' → xs.length = gs.length
  | [], [], _, _, _ => rfl
  | [], _ :: _, _, _, h => by simp [bindGs] at h
  | _ :: _, [], _, _, h => by simp [bindGs] at h
  | g :: gs, x :: xs, σ, σ', h => by
    simp only [bindGs] at h
    split at h
    · simp [bindGs_len h]
    · cases h
section
variable {W : Wd} {K : PySem.W.Frag} {Z ρ : List Addr} {H : Hp}
mutual
theorem bindG_ok (hK : K = W.K) : ∀ (g : G) {d : D} {v : V} {σd σd' : Sg} {σ : L2.St} {Q : L2.St → Hp → Prop}, RSg W Z ρ H σd σ → RD W Z ρ H d v → bindG σd g d = some σd' →
    (∀ σ', RSg W Z ρ H σd' σ' → (∀ own : List Nat, (∀ i ∈ g.ix, i ∈ own) → L2.wipe σ' own = L2.wipe σ own) → Q σ' H) → gOf K g v σ H Q
  | .nm i, d, v, σd, σd', σ, Q, rs, rv, e, q => by
    simp only [bindG] at e
    cases e
    exact q _ (rs.set rv) fun own ho => wipe_set (ho i (by simp [G.ix]))
  | .tp gs, d, v, σd, σd', σ, Q, rs, rv, e, q => by
    cases rv <;> simp only [bindG] at e <;> first | (cases e; done) | skip
    case tup a ds vs z ra h t =>
      refine .inl ⟨a, vs, rfl, SqT.of h, by rw [← t.length]; exact bindGs_len e, bindGs_ok hK gs rs t e fun σ' r w => q σ' r fun own ho => w own (by simpa [G.ix] using ho)⟩
    case tupK a ds vs h t =>
      refine .inl ⟨a, vs, rfl, hK ▸ .inr h, by rw [← t.length]; exact bindGs_len e, bindGs_ok hK gs rs t e fun σ' r w => q σ' r fun own ho => w own (by simpa [G.ix] using ho)⟩
    case lst a ds vs z ra h t =>
      refine .inr ⟨a, vs, rfl, SqL.of h, by rw [← t.length]; exact bindGs_len e, bindGs_ok hK gs rs t e fun σ' r w => q σ' r fun own ho => w own (by simpa [G.ix] using ho)⟩
theorem bindGs_ok (hK : K = W.K) : ∀ (gs : List G) {ds : List D} {vs : List V} {σd σd' : Sg} {σ : L2.St} {Q : L2.St → Hp → Prop}, RSg W Z ρ H σd σ → RDs W Z ρ H ds vs → bindGs σd gs ds = some σd' →
    (∀ σ', RSg W Z ρ H σd' σ' → (∀ own : List Nat, (∀ i ∈ ixs gs, i ∈ own) → L2.wipe σ' own = L2.wipe σ own) → Q σ' H) → gsOf K gs vs σ H Q
  | [], ds, vs, σd, σd', σ, Q, rs, rv, e, q => by
    cases rv with
    | nil => simp only [bindGs] at e; cases e; exact ⟨rfl, q _ rs fun _ _ => rfl⟩
    | cons _ _ => simp [bindGs] at e
  | g :: gs, ds, vs, σd, σd', σ, Q, rs, rv, e, q => by
    cases rv with
    | nil => simp [bindGs] at e
    | cons r t =>
      simp only [bindGs] at e
      split at e
      · rename_i σ1 e1
        refine ⟨_, _, rfl, bindG_ok hK g rs r e1 fun σ' r1 w1 => bindGs_ok hK gs r1 t e fun σ2 r2 w2 => q σ2 r2 fun own ho => ?_⟩
        rw [w2 own (fun i hi => ho i (by simp [ixs, hi])), w1 own (fun i hi => ho i (by simp [ixs, hi]))]
      · cases e
end
end
abbrev GJ (X : Cx) (tg : Expr) (g : G) : Prop := PG X tg (gOf X.K g)
abbrev GsJ (X : Cx) (tg : List Expr) (gs : List G) : Prop := PGs X tg (gsOf X.K gs)
section
variable {X : Cx} {pos : Pos}
theorem gj_nm {i : Nat} {x : Str} (hN : X.N.Nodup) (hi : X.N[i]? = some x) (hx : Loc X.env.scope x) (hf : X.fn x = true ∨ X.env.scope.names.lookup x = some .local := by first | exact .inl rfl | exact .inr rfl | assumption) : GJ X (.Name x pos) (.nm i) := pg_name hN hi hx hf
theorem gsj_nil : GsJ X [] [] := pgs_nil
theorem gsj_cons {e : Expr} {es : List Expr} {g : G} {gs : List G} (h1 : GJ X e g) (h2 : GsJ X es gs)
    (hs : (assignEach (e :: es) X.env).map (·.2) = assign e X.env :: (assignEach es X.env).map (·.2) := by rfl) : GsJ X (e :: es) (g :: gs) := pgs_cons h1 h2 hs
theorem gj_tp {es : List Expr} {k : Nat} {gs : List G} (hc : X.calm = true) (h : GsJ X es gs)
    (hn : (assignEach es X.env).length = gs.length := by rfl) (hst : (assignEach es X.env).findIdx? (·.1) = none := by rfl) : GJ X (.Tuple es k pos) (.tp gs) := by
  refine ⟨fun pins s σ H v u Q I r q => ?_⟩
  rcases q with q | q
  · exact (pg_tup hc h hn hst).run pins s σ H v u Q I r q
  · exact (pg_lst hc h hn hst).run pins s σ H v u Q I r q
end
/-! ### statements -/
def PostS (W : Wd) (Z ρ : List Addr) (H : Hp) (r : SR) (D : Ends) (wx : WX) : Prop := match r with
  | .nx σd h => ∀ ρ' H' σ', Ext ρ H ρ' H' → Sim W Z ρ' h H' → RSg W Z ρ' H' σd σ' → D.nx σ' H'
  | .bk σd h => ∀ ρ' H' σ', Ext ρ H ρ' H' → Sim W Z ρ' h H' → RSg W Z ρ' H' σd σ' → D.bk σ' H'
  | .ct σd h => ∀ ρ' H' σ', Ext ρ H ρ' H' → Sim W Z ρ' h H' → RSg W Z ρ' H' σd σ' → D.ct σ' H'
  | .rt d h => ∀ ρ' H' v, Ext ρ H ρ' H' → Sim W Z ρ' h H' → RD W Z ρ' H' d v → D.rt v H'
  | .xn x σd h => ∀ ρ' H' σ' cls dd, Ext ρ H ρ' H' → Sim W Z ρ' h H' → RSg W Z ρ' H' σd σ' → RX W Z ρ' H' x cls dd → wx cls dd σ' H'
  | .bad => False
def tS (W : Wd) (wx : WX) (f : SM) : TS := fun D σ H => ∃ Z ρ σd h, Sim W Z ρ h H ∧ RSg W Z ρ H σd σ ∧ PostS W Z ρ H (f σd h) D wx
abbrev SJ (X : Cx) (W : Wd) (wx : WX) (st : Stmt) (f : SM) : Prop := PS X st (tS W wx f)
abbrev SsJ (X : Cx) (W : Wd) (wx : WX) (st : List Stmt) (f : SM) : Prop := PSs X st (tS W wx f)
section
variable {W : Wd} {Z ρ ρ1 : List Addr} {H H1 : Hp} {r : SR} {D D' : Ends} {wx wx' : WX}
theorem PostS.mono (x : Ext ρ H ρ1 H1) (p : PostS W Z ρ H r D wx) : PostS W Z ρ1 H1 r D wx := by
  cases r with
  | nx σ h => exact fun ρ' H' σ' y => p ρ' H' σ' (x.trans y)
  | bk σ h => exact fun ρ' H' σ' y => p ρ' H' σ' (x.trans y)
  | ct σ h => exact fun ρ' H' σ' y => p ρ' H' σ' (x.trans y)
  | rt d h => exact fun ρ' H' v y => p ρ' H' v (x.trans y)
  | xn e σ h => exact fun ρ' H' σ' cls dd y => p ρ' H' σ' cls dd (x.trans y)
  | bad => exact p
theorem PostS.of {α : Type} {σd : Sg} {σ : L2.St} {a : R α} {k : α → Hh → SR} (rs : RSg W Z ρ H σd σ) (p : PostS W Z ρ H (SR.of σd a k) D wx) :
    Post W Z ρ H a (fun v ρ1 h1 H1 => PostS W Z ρ1 H1 (k v h1) D wx) (fun cls dd H' => wx cls dd σ H') := by
  cases a with
  | ok v h => exact fun ρ' H' x _ => p.mono x
  | xn e h => exact fun ρ' H' cls dd x S rx => p ρ' H' σ cls dd x S (rs.mono x) rx
  | bad => exact p
theorem PostS.nx {σd : Sg} {σ : L2.St} {h : Hh} (S : Sim W Z ρ h H) (rs : RSg W Z ρ H σd σ) (p : PostS W Z ρ H (.nx σd h) D wx) : D.nx σ H := p ρ H σ Ext.refl S rs
theorem PostS.then_ {k : Sg → Hh → SR} (p : PostS W Z ρ H (r.then_ k) D wx) : PostS W Z ρ H r { D with nx := fun σ' H' => ∃ ρ' σd' h', Sim W Z ρ' h' H' ∧ RSg W Z ρ' H' σd' σ' ∧ PostS W Z ρ' H' (k σd' h') D wx } wx := by
  cases r with
  | nx σ h => exact fun ρ' H' σ' x S rs => ⟨ρ', σ, h, S, rs, PostS.mono x p⟩
  | bk σ h => exact p
  | ct σ h => exact p
  | rt d h => exact p
  | xn e σ h => exact p
  | bad => exact p
end
/-- the context of statements -/
structure Js (X : Cx) (W : Wd) (wx : WX) : Prop extends Jc X W wx where
  hN : X.N.Nodup
  hc : X.calm = true
  hp : PassesOwn (model X.prog X.w) X.A X.env X.xe
section
variable {X : Cx} {W : Wd} {wx : WX} {e c : Expr} {f : TM} {g : BM} {fs : AM} {pos : Pos} {st : Stmt} {rest : List Stmt} {a b : SM}
theorem ss_nil : SsJ X W wx [] sNil := ⟨fun pins s σ H D I ⟨Z, ρ, σd, h0, S, rs, p⟩ => pss_nil.run pins s σ H D I (p.nx S rs)⟩
theorem ss_cons (h1 : SJ X W wx st a) (h2 : SsJ X W wx rest b) : SsJ X W wx (st :: rest) (sCons a b) :=
  ⟨fun pins s σ H D I ⟨Z, ρ, σd, h0, S, rs, p⟩ => (pss_cons h1 h2).run pins s σ H D I
    ⟨Z, ρ, σd, h0, S, rs, by
      have q := PostS.then_ p
      cases hr : a σd h0 with
      | nx σ h => rw [hr] at q; exact fun ρ' H' σ' x S rs => let ⟨ρ2, σ2, h2, S2, r2, p2⟩ := q ρ' H' σ' x S rs; ⟨Z, ρ2, σ2, h2, S2, r2, p2⟩
      | bk σ h => rw [hr] at q; exact q
      | ct σ h => rw [hr] at q; exact q
      | rt d h => rw [hr] at q; exact q
      | xn e σ h => rw [hr] at q; exact q
      | bad => rw [hr] at q; exact q⟩⟩
theorem sj_pass : SJ X W wx (.Pass pos) sNil := ⟨fun pins s σ H D I ⟨Z, ρ, σd, h0, S, rs, p⟩ => ps_pass.run pins s σ H D I (p.nx S rs)⟩
theorem sj_doc {x j pos'} : SJ X W wx (.Expr (.Constant (.str x) j pos) pos') sNil := ⟨fun pins s σ H D I ⟨Z, ρ, σd, h0, S, rs, p⟩ => ps_doc.run pins s σ H D I (p.nx S rs)⟩
theorem sj_brk : SJ X W wx (.Break pos) sBrk := ⟨fun pins s σ H D I ⟨Z, ρ, σd, h0, S, rs, p⟩ => ps_break.run pins s σ H D I (p ρ H σ Ext.refl S rs)⟩
theorem sj_cnt : SJ X W wx (.Continue pos) sCnt := ⟨fun pins s σ H D I ⟨Z, ρ, σd, h0, S, rs, p⟩ => ps_continue.run pins s σ H D I (p ρ H σ Ext.refl S rs)⟩
theorem sj_ex (he : EJ X W wx e f) (hs : swapsWith e none pos.line X.env = pure false := by rfl) : SJ X W wx (.Expr e pos) (sEx f) :=
  ⟨fun pins s σ H D I ⟨Z, ρ, σd, h0, S, rs, p⟩ => (ps_expr he hs).run pins s σ H D I
    ⟨Z, ρ, σd, h0, S, rs, (PostS.of rs p).imp fun d ρ1 h1 H1 x1 S1 p1 v rv => p1.nx S1 (rs.mono x1)⟩⟩
theorem sj_ret (he : EJ X W wx e f) : SJ X W wx (.Return (some e) pos) (sRet f) :=
  ⟨fun pins s σ H D I ⟨Z, ρ, σd, h0, S, rs, p⟩ => (ps_ret he).run pins s σ H D I
    ⟨Z, ρ, σd, h0, S, rs, (PostS.of rs p).imp fun d ρ1 h1 H1 x1 S1 p1 v rv => p1 ρ1 H1 v Ext.refl S1 rv⟩⟩
theorem sj_retN : SJ X W wx (.Return none pos) sRetN := ⟨fun pins s σ H D I ⟨Z, ρ, σd, h0, S, rs, p⟩ => ps_retN.run pins s σ H D I (p ρ H .non Ext.refl S .non)⟩
theorem sj_if {p q : List Stmt} (hc : BJ X W wx c g) (ha : SsJ X W wx p a) (hb : SsJ X W wx q b) : SJ X W wx (.If c p q pos) (sIf g a b) :=
  ⟨fun pins s σ H D I ⟨Z, ρ, σd, h0, S, rs, p⟩ => (ps_if hc ha hb).run pins s σ H D I
    ⟨Z, ρ, σd, h0, S, rs, (PostS.of rs p).imp fun k ρ1 h1 H1 x1 S1 p1 => by
      cases k with
      | true => exact ⟨Z, ρ1, σd, h1, S1, rs.mono x1, p1⟩
      | false => exact ⟨Z, ρ1, σd, h1, S1, rs.mono x1, p1⟩⟩⟩
theorem sj_set {i : Nat} {x : Str} {pos' : Pos} (J : Js X W wx) (hi : X.N[i]? = some x) (hx : Loc X.env.scope x) (he : EJ X W wx e f) (hs : swapsWith e (some (.Name x pos')) pos.line X.env = pure false := by rfl) (hf : X.fn x = true ∨ X.env.scope.names.lookup x = some .local := by first | exact .inl rfl | exact .inr rfl | assumption) :
    SJ X W wx (.Assign [.Name x pos'] e pos) (sSet i f) :=
  ⟨fun pins s σ H D I ⟨Z, ρ, σd, h0, S, rs, p⟩ => (ps_set J.hN hi hx he hs hf).run pins s σ H D I
    ⟨Z, ρ, σd, h0, S, rs, (PostS.of rs p).imp fun d ρ1 h1 H1 x1 S1 p1 v rv => p1.nx S1 ((rs.mono x1).set rv)⟩⟩
theorem sj_asg {tg : Expr} {gt : G} (J : Js X W wx) (he : EJ X W wx e f) (hg : GJ X tg gt) (hs : swapsWithSole [tg] e pos.line X.env = pure false := by rfl) (hw : swappedStores [tg] e X.env = pure none := by rfl)
    (h1 : (assignEach [tg] X.env).map (·.2) = [assign tg X.env] := by rfl) : SJ X W wx (.Assign [tg] e pos) (sAsg gt f) :=
  ⟨fun pins s σ H D I ⟨Z, ρ, σd, h0, S, rs, p⟩ => (ps_asg he hg hs hw h1).run pins s σ H D I
    ⟨Z, ρ, σd, h0, S, rs, (PostS.of rs p).imp fun d ρ1 h1 H1 x1 S1 p1 v rv => by
      cases hb : bindG σd gt d with
      | none => rw [hb] at p1; exact p1.elim
      | some σ2 =>
        rw [hb] at p1
        exact bindG_ok J.hK gt (rs.mono x1) rv hb fun σ' r' _ => p1.nx S1 r'⟩⟩
/-! ### while -/
theorem wh_post {Z ρ : List Addr} {H : Hp} {r : SR} {D : Ends} {k : Sg → Hh → SR} (p : PostS W Z ρ H (match r with
      | .nx σ h => k σ h
      | .ct σ h => k σ h
      | .bk σ h => .nx σ h
      | r => r) D wx) {N : L2.St → Hp → Prop} (hN : ∀ ρ' H' σ' σd' h', Sim W Z ρ' h' H' → RSg W Z ρ' H' σd' σ' → Ext ρ H ρ' H' → PostS W Z ρ' H' (k σd' h') D wx → N σ' H') :
    PostS W Z ρ H r { D with nx := N, ct := N, bk := D.nx } wx := by
  cases r with
  | nx σ h => exact fun ρ' H' σ' x S rs => hN ρ' H' σ' σ h S rs x (PostS.mono x p)
  | ct σ h => exact fun ρ' H' σ' x S rs => hN ρ' H' σ' σ h S rs x (PostS.mono x p)
  | bk σ h => exact p
  | rt d h => exact p
  | xn e σ h => exact p
  | bad => exact p
theorem sj_wh {p : List Stmt} {n : Nat} (J : Js X W wx) (hc : BJ X W wx c g) (hb : SsJ X W wx p b) : SJ X W wx (.While c p [] pos) (sWh n g b) :=
  ⟨fun pins s σ H D I ⟨Z, ρ, σd, h0, S, rs, p⟩ => (ps_while J.hp hc hb).run pins s σ H D I
    ⟨fun m σ H => ∃ ρ σd h, Sim W Z ρ h H ∧ RSg W Z ρ H σd σ ∧ PostS W Z ρ H (whL g b m σd h) D wx, ⟨n, ρ, σd, h0, S, rs, p⟩, fun m σ H ⟨ρ, σd, h, S, rs, p⟩ => by
      cases m with
      | zero => exact p.elim
      | succ m =>
        refine ⟨Z, ρ, σd, h, S, rs, (PostS.of rs p).imp fun k ρ1 h1 H1 x1 S1 p1 => ?_⟩
        cases k with
        | false => exact p1.nx S1 (rs.mono x1)
        | true =>
          rw [if_pos rfl]
          refine ⟨fun σ' H' => ∃ ρ σd h, Sim W Z ρ h H' ∧ RSg W Z ρ H' σd σ' ∧ PostS W Z ρ H' (whL g b m σd h) D wx, fun σ' H' q => ⟨m, Nat.lt_succ_self m, q⟩, Z, ρ1, σd, h1, S1, rs.mono x1, ?_⟩
          exact wh_post p1 fun ρ' H' σ' σd' h' S' rs' _ q => ⟨ρ', σd', h', S', rs', q⟩⟩⟩
end
/-! ### what is walked -/
/-- .. but what is kept apart -/
structure ExtZ (Z ρ : List Addr) (H : Hp) (ρ' : List Addr) (H' : Hp) : Prop where
  pre : ρ <+: ρ'
  keep : ∀ a o, a ∉ Z → a ∉ ρ → H a = some o → a ∉ ρ' ∧ H' a = some o
theorem Ext.z {Z ρ ρ' : List Addr} {H H' : Hp} (x : Ext ρ H ρ' H') : ExtZ Z ρ H ρ' H' := ⟨x.pre, fun a o _ => x.keep a o⟩
theorem ExtZ.rd {Z ρ ρ' : List Addr} {H H' : Hp} (x : ExtZ Z ρ H ρ' H') {a : Addr} {u : HO} (z : a ∉ Z) (h : a ∉ ρ) (r : Rd H a u) : a ∉ ρ' ∧ Rd H' a u := by
  rcases r with r | ⟨o, r⟩
  · exact ⟨(x.keep a _ z h r).1, .inl (x.keep a _ z h r).2⟩
  · exact ⟨(x.keep a _ z h r).1, .inr ⟨o, (x.keep a _ z h r).2⟩⟩
section
variable {W : Wd} {Z ρ ρ' : List Addr} {H H' : Hp}
mutual
theorem RD.monoZ (x : ExtZ Z ρ H ρ' H') : ∀ {d : D} {v : V}, RD W Z ρ H d v → RD W Z ρ' H' d v
  | _, _, .non => .non
  | _, _, .bl b => .bl b
  | _, _, .int i => .int i
  | _, _, .str s => .str s
  | _, _, .tup z r q t => .tup z (x.keep _ _ z r q).1 (x.keep _ _ z r q).2 (RDs.monoZ x t)
  | _, _, .tupK k t => .tupK k (RDs.monoZ x t)
  | _, _, .lst z r q t => .lst z (x.keep _ _ z r q).1 (x.keep _ _ z r q).2 (RDs.monoZ x t)
  | _, _, .dct z r q t => .dct z (x.rd z r q).1 (x.rd z r q).2 (RKs.monoZ x t)
  | _, _, .obj z r q t => .obj z (x.keep _ _ z r q).1 (x.keep _ _ z r q).2 (RFs.monoZ x t)
  | _, _, .ref e => .ref (pre_get x.pre e)
  | _, _, .fn f => .fn f
  | _, _, .roi q => .roi (q.elim (fun ⟨z, r, q⟩ => .inl ⟨z, (x.rd z r q).1, (x.rd z r q).2⟩) .inr)
theorem RDs.monoZ (x : ExtZ Z ρ H ρ' H') : ∀ {ds : List D} {vs : List V}, RDs W Z ρ H ds vs → RDs W Z ρ' H' ds vs
  | _, _, .nil => .nil
  | _, _, .cons r t => .cons (RD.monoZ x r) (RDs.monoZ x t)
theorem RKs.monoZ (x : ExtZ Z ρ H ρ' H') : ∀ {ds : List (K1 × D)} {vs : List (Key × V)}, RKs W Z ρ H ds vs → RKs W Z ρ' H' ds vs
  | _, _, .nil => .nil
  | _, _, .cons r t => .cons (RD.monoZ x r) (RKs.monoZ x t)
theorem RFs.monoZ (x : ExtZ Z ρ H ρ' H') : ∀ {ds : List (Nat × D)} {vs : List (Str × V)}, RFs W Z ρ H ds vs → RFs W Z ρ' H' ds vs
  | _, _, .nil => .nil
  | _, _, .cons r t => .cons (RD.monoZ x r) (RFs.monoZ x t)
end
end
def Walks (W : Wd) (Z ρ : List Addr) (H : Hp) (J : L2.It) (xs : List D) : Prop := ∀ Z' ρ' h' H', (∀ z ∈ Z', z ∈ Z ∨ H z = none) → ExtZ Z' ρ H ρ' H' → Sim W Z' ρ' h' H' →
  (∀ (i : Nat) (x : D), xs[i]? = some x → J.go i H' ∧ ∀ v H2, J.yld i H' v H2 → Ext ρ' H' ρ' H2 ∧ Sim W Z' ρ' h' H2 ∧ RD W Z' ρ' H2 x v) ∧ J.stop xs.length H'
def tI (W : Wd) (wx : WX) (it : It) (src : AM) : TI := fun σ H R => ∃ Z ρ σd h, Sim W Z ρ h H ∧ RSg W Z ρ H σd σ ∧ Post W Z ρ H (itM it src σd h) (fun xs ρ' _ H' => ∀ J, Walks W Z ρ' H' J xs → R J H') (fun cls dd H' => wx cls dd σ H')
abbrev IJ (X : Cx) (W : Wd) (wx : WX) (tg e : Expr) (it : It) (src : AM) : Prop := PI X tg e (tI W wx it src)
theorem fl_post {W : Wd} {wx : WX} {Z ρ : List Addr} {H : Hp} {D : Ends} {body : Fw.D → Sg → Hh → SR} {x : Fw.D} {xs : List Fw.D} {σd : Sg} {h : Hh} (p : PostS W Z ρ H (forL body (x :: xs) σd h) D wx)
    {N : L2.St → Hp → Prop} (hN : ∀ ρ' H' σ' σd' h', Sim W Z ρ' h' H' → RSg W Z ρ' H' σd' σ' → Ext ρ H ρ' H' → PostS W Z ρ' H' (forL body xs σd' h') D wx → N σ' H') :
    PostS W Z ρ H (body x σd h) { D with nx := N, ct := N, bk := D.nx } wx := by
  simp only [forL] at p
  exact wh_post p hN
theorem sj_for {X : Cx} {W : Wd} {wx : WX} {tg iter : Expr} {body : List Stmt} {it : It} {src : AM} {g : G} {b : SM} {pos : Pos} (J : Js X W wx) (hi : IJ X W wx tg iter it src) (hg : GJ X tg g) (hb : SsJ X W wx body b)
    (hs : ∀ x, foldedSetIterable iter X.env x = pure x := by intro _; rfl) : SJ X W wx (.For tg iter body [] pos) (sFor g it src b) :=
  ⟨fun pins s σ H D I ⟨Z, ρ, σd, h0, S, rs, p⟩ => (ps_for J.hp J.hc hi hg hb hs).run pins s σ H D I
    ⟨Z, ρ, σd, h0, S, rs, (PostS.of rs p).imp fun xs ρ1 h1 H1 x1 S1 p1 Ji hw => by
      refine ⟨fun i m σ H => ∃ ρ σd h, i ≤ xs.length ∧ m = xs.length - i ∧ Ext ρ1 H1 ρ H ∧ Sim W Z ρ h H ∧ RSg W Z ρ H σd σ ∧ PostS W Z ρ H (forL (forB g b) (xs.drop i) σd h) D wx,
        ⟨xs.length, ρ1, σd, h1, Nat.zero_le _, rfl, Ext.refl, S1, rs.mono x1, p1⟩, fun i m σ H ⟨ρ2, σ2, h2, hi, hm, x2, S2, r2, p2⟩ => ?_⟩
      have w := hw Z ρ2 h2 H (fun z hz => .inl hz) x2.z S2
      by_cases he : i = xs.length
      · subst he
        rw [List.drop_length] at p2
        exact .inl ⟨w.2, p2.nx S2 r2⟩
      · have hlt : i < xs.length := by omega
        obtain ⟨go, yl⟩ := w.1 i xs[i] (by simp [hlt])
        rw [List.drop_eq_getElem_cons hlt] at p2
        refine .inr ⟨go, fun σ' H' => ∃ ρ σd h, i + 1 ≤ xs.length ∧ Ext ρ1 H1 ρ H' ∧ Sim W Z ρ h H' ∧ RSg W Z ρ H' σd σ' ∧ PostS W Z ρ H' (forL (forB g b) (xs.drop (i + 1)) σd h) D wx,
          fun σ' H' ⟨ρ3, σ3, h3, a1, a2, a3, a4, a5⟩ => ⟨xs.length - (i + 1), by omega, ρ3, σ3, h3, a1, rfl, a2, a3, a4, a5⟩, fun v H' hy => ?_⟩
        obtain ⟨x3, S3, rv⟩ := yl v H' hy
        have q := fl_post (N := fun σ' H' => ∃ ρ σd h, i + 1 ≤ xs.length ∧ Ext ρ1 H1 ρ H' ∧ Sim W Z ρ h H' ∧ RSg W Z ρ H' σd σ' ∧ PostS W Z ρ H' (forL (forB g b) (xs.drop (i + 1)) σd h) D wx) (p2.mono x3)
          fun ρ' H4 σ' σd' h' S' rs' x4 q => ⟨ρ', σd', h', by omega, (x2.trans x3).trans x4, S', rs', q⟩
        unfold forB at q
        cases hb' : bindG σ2 g xs[i] with
        | none => rw [hb'] at q; exact q.elim
        | some σ4 =>
          rw [hb'] at q
          exact bindG_ok J.hK g (r2.mono x3) rv hb' fun σ5 r5 _ => ⟨Z, ρ2, σ4, h2, S3, r5, q⟩⟩⟩
end Fw
end
section
set_option Elab.async false
set_option linter.all false
set_option maxRecDepth 100000
set_option autoImplicit false
set_option maxHeartbeats 1000000
/-! Fw6: what is walked; comprehensions. -/
namespace Fw
open PySem PySem.Spec PyProof.Rows L2
/-! ### kept apart from other addresses -/
section
variable {W : Wd} {Z Z' ρ : List Addr} {H : Hp}
theorem Rd.there {a : Addr} {u : HO} (r : Rd H a u) : ∃ o, H a = some o := by
  rcases r with r | ⟨o, r⟩
  · exact ⟨_, r⟩
  · exact ⟨_, r⟩
mutual
theorem RD.reZ (hz : ∀ z ∈ Z', z ∈ Z ∨ H z = none) : ∀ {d : D} {v : V}, RD W Z ρ H d v → RD W Z' ρ H d v
  | _, _, .non => .non
  | _, _, .bl b => .bl b
  | _, _, .int i => .int i
  | _, _, .str s => .str s
  | _, _, .tup z r q t => .tup (fun m => (hz _ m).elim z fun n => by rw [q] at n; cases n) r q (RDs.reZ hz t)
  | _, _, .tupK k t => .tupK k (RDs.reZ hz t)
  | _, _, .lst z r q t => .lst (fun m => (hz _ m).elim z fun n => by rw [q] at n; cases n) r q (RDs.reZ hz t)
  | _, _, .dct z r q t => .dct (fun m => (hz _ m).elim z fun n => by obtain ⟨o, e⟩ := Fw.Rd.there q; rw [e] at n; cases n) r q (RKs.reZ hz t)
  | _, _, .obj z r q t => .obj (fun m => (hz _ m).elim z fun n => by rw [q] at n; cases n) r q (RFs.reZ hz t)
  | _, _, .ref e => .ref e
  | _, _, .fn f => .fn f
  | _, _, .roi q => .roi (q.elim (fun ⟨z, r, q⟩ => .inl ⟨(fun m => (hz _ m).elim z fun n => by obtain ⟨o, e⟩ := Fw.Rd.there q; rw [e] at n; cases n), r, q⟩) .inr)
theorem RDs.reZ (hz : ∀ z ∈ Z', z ∈ Z ∨ H z = none) : ∀ {ds : List D} {vs : List V}, RDs W Z ρ H ds vs → RDs W Z' ρ H ds vs
  | _, _, .nil => .nil
  | _, _, .cons r t => .cons (RD.reZ hz r) (RDs.reZ hz t)
theorem RKs.reZ (hz : ∀ z ∈ Z', z ∈ Z ∨ H z = none) : ∀ {ds : List (K1 × D)} {vs : List (Key × V)}, RKs W Z ρ H ds vs → RKs W Z' ρ H ds vs
  | _, _, .nil => .nil
  | _, _, .cons r t => .cons (RD.reZ hz r) (RKs.reZ hz t)
theorem RFs.reZ (hz : ∀ z ∈ Z', z ∈ Z ∨ H z = none) : ∀ {ds : List (Nat × D)} {vs : List (Str × V)}, RFs W Z ρ H ds vs → RFs W Z' ρ H ds vs
  | _, _, .nil => .nil
  | _, _, .cons r t => .cons (RD.reZ hz r) (RFs.reZ hz t)
end
end
/-! ### iterators -/
section
variable {W : Wd} {K : PySem.W.Frag} {Z ρ : List Addr} {H : Hp} {a b : Addr} {xs ys : List D} {vs us : List V}
theorem walks_list (az : a ∉ Z) (ha : a ∉ ρ) (h : H a = some (.lst vs)) (t : RDs W Z ρ H xs vs) : Walks W Z ρ H (Itl K a) xs := by
  intro Z' ρ' h' H' hz x S
  have az' : a ∉ Z' := fun m => (hz a m).elim az fun n => by rw [h] at n; cases n
  obtain ⟨ha', hh'⟩ := x.keep a _ az' ha h
  have q : SqL K H' a vs := SqL.of hh'
  refine ⟨fun i d e => ?_, vs, q, by rw [t.length]; exact Nat.le_refl _⟩
  obtain ⟨v, ev, rv⟩ := t.get e
  refine ⟨⟨vs, v, q, ev⟩, fun w H2 ⟨e2, hw⟩ => ?_⟩
  subst e2
  have := hw vs q
  rw [ev] at this
  cases this
  exact ⟨Ext.refl, S, (rv.reZ hz).monoZ x⟩
theorem walks_tup (hr : (a ∉ Z ∧ a ∉ ρ ∧ H a = some (.tup vs)) ∨ KTup K a vs) (t : RDs W Z ρ H xs vs) : Walks W Z ρ H (Itt K a) xs := by
  intro Z' ρ' h' H' hz x S
  have q : SqT K H' a vs := by
    rcases hr with ⟨az, ha, h⟩ | k
    · exact SqT.of (x.keep a _ (fun m => (hz a m).elim az fun n => by rw [h] at n; cases n) ha h).2
    · exact .inr k
  refine ⟨fun i d e => ?_, vs, q, by rw [t.length]; exact Nat.le_refl _⟩
  obtain ⟨v, ev, rv⟩ := t.get e
  refine ⟨⟨vs, v, q, ev⟩, fun w H2 ⟨e2, hw⟩ => ?_⟩
  subst e2
  have := hw vs q
  rw [ev] at this
  cases this
  exact ⟨Ext.refl, S, (rv.reZ hz).monoZ x⟩
theorem walks_str (s : Tx) : Walks W Z ρ H (Its (toS s)) (s.map fun c => .str [c]) := by
  intro Z' ρ' h' H' hz x S
  refine ⟨fun i d e => ?_, by simp [Its, toS]⟩
  rw [List.getElem?_map] at e
  cases ec : s[i]? with
  | none => rw [ec] at e; cases e
  | some c =>
    rw [ec] at e
    cases e
    refine ⟨by simpa [Its, toS] using (List.getElem?_eq_some_iff.mp ec).1, fun w H2 ⟨e2, c', hc, hw⟩ => ?_⟩
    subst e2 hw
    have hc' : s[i]? = some c' := by simpa [toS] using hc
    rw [ec] at hc'
    cases hc'
    exact ⟨Ext.refl, S, .str [c]⟩
theorem walks_range (lo : Int) (n : Nat) : Walks W Z ρ H (Itr lo n) (rangeD lo n) := by
  intro Z' ρ' h' H' hz x S
  refine ⟨fun i d e => ?_, by simp [Itr, rangeD]⟩
  unfold rangeD at e
  rw [List.getElem?_map] at e
  cases ec : (List.range n)[i]? with
  | none => rw [ec] at e; cases e
  | some c =>
    rw [ec] at e
    cases e
    have hi : i < n := by simpa using (List.getElem?_eq_some_iff.mp ec).1
    have : c = i := by rw [List.getElem?_range hi] at ec; cases ec; rfl
    subst this
    refine ⟨hi, fun w H2 ⟨e2, hw⟩ => ?_⟩
    subst e2 hw
    exact ⟨Ext.refl, S, .int _⟩
/-- an item in a new pair -/
theorem pair_ok {Z' ρ' : List Addr} {h' : Hh} {H' : Hp} {T : Addr} {d e : D} {x y : V} (S : Sim W Z' ρ' h' H') (n : H' T = none) (r1 : RD W Z' ρ' H' d x) (r2 : RD W Z' ρ' H' e y) :
    Ext ρ' H' ρ' (upd H' T (.tup [x, y])) ∧ Sim W Z' ρ' h' (upd H' T (.tup [x, y])) ∧ RD W Z' ρ' (upd H' T (.tup [x, y])) (.tup [d, e]) (.ref T) :=
  ⟨Ext.laid n, S.laid n, .tup (S.new n).1 (S.new n).2 upd_same (.cons (r1.mono (Ext.laid n)) (.cons (r2.mono (Ext.laid n)) .nil))⟩
theorem walks_enum (az : a ∉ Z) (ha : a ∉ ρ) (h : H a = some (.lst vs)) (t : RDs W Z ρ H xs vs) : Walks W Z ρ H (Ite K a) (enumD xs) := by
  intro Z' ρ' h' H' hz x S
  have az' : a ∉ Z' := fun m => (hz a m).elim az fun n => by rw [h] at n; cases n
  obtain ⟨ha', hh'⟩ := x.keep a _ az' ha h
  have q : SqL K H' a vs := SqL.of hh'
  refine ⟨fun i d e => ?_, vs, q, by rw [← t.length]; simp [enumD]⟩
  unfold enumD at e
  rw [List.getElem?_map, List.getElem?_zipIdx] at e
  cases ed : xs[i]? with
  | none => rw [ed] at e; cases e
  | some d' =>
    rw [ed] at e
    simp only [Option.map_some, Option.some.injEq] at e
    subst e
    obtain ⟨v, ev, rv⟩ := t.get ed
    refine ⟨⟨vs, v, q, ev⟩, fun w H2 ⟨T, y, e1, n, e2, hw⟩ => ?_⟩
    subst e1 e2
    have := hw vs q
    rw [ev] at this
    cases this
    simp only [Nat.zero_add]
    exact pair_ok S n (.int _) ((rv.reZ hz).monoZ x)
theorem zipD_get : ∀ {xs ys : List D} {i : Nat} {d : D}, (zipD xs ys)[i]? = some d → ∃ x y, xs[i]? = some x ∧ ys[i]? = some y ∧ d = .tup [x, y]
  | [], _, i, d, h => by simp [zipD] at h
  | _ :: _, [], i, d, h => by simp [zipD] at h
  | x :: xs, y :: ys, 0, d, h => by simp [zipD] at h; subst h; exact ⟨x, y, rfl, rfl, rfl⟩
  | x :: xs, y :: ys, i + 1, d, h => by simpa using zipD_get (by simpa [zipD] using h)
theorem zipD_len : ∀ {xs ys : List D}, xs.length ≤ (zipD xs ys).length ∨ ys.length ≤ (zipD xs ys).length
  | [], _ => .inl (Nat.zero_le _)
  | _ :: _, [] => .inr (Nat.zero_le _)
  | x :: xs, y :: ys => by
    rcases zipD_len (xs := xs) (ys := ys) with h | h
    · exact .inl (by simpa [zipD] using h)
    · exact .inr (by simpa [zipD] using h)
theorem walks_zip (az : a ∉ Z) (ha : a ∉ ρ) (h : H a = some (.lst vs)) (t : RDs W Z ρ H xs vs) (bz : b ∉ Z) (hb : b ∉ ρ) (g : H b = some (.lst us)) (u : RDs W Z ρ H ys us) : Walks W Z ρ H (Itz K a b) (zipD xs ys) := by
  intro Z' ρ' h' H' hz x S
  have q : SqL K H' a vs := SqL.of (x.keep a _ (fun m => (hz a m).elim az fun n => by rw [h] at n; cases n) ha h).2
  have q2 : SqL K H' b us := SqL.of (x.keep b _ (fun m => (hz b m).elim bz fun n => by rw [g] at n; cases n) hb g).2
  refine ⟨fun i d e => ?_, vs, us, q, q2, by rw [← t.length, ← u.length]; exact zipD_len⟩
  obtain ⟨d1, d2, e1, e2, rfl⟩ := zipD_get e
  obtain ⟨v1, ev1, rv1⟩ := t.get e1
  obtain ⟨v2, ev2, rv2⟩ := u.get e2
  refine ⟨⟨vs, us, v1, v2, q, q2, ev1, ev2⟩, fun w H2 ⟨T, y1, y2, f1, n, f2, hw1, hw2⟩ => ?_⟩
  subst f1 f2
  have z1 := hw1 vs q
  have z2 := hw2 us q2
  rw [ev1] at z1
  rw [ev2] at z2
  cases z1; cases z2
  exact pair_ok S n ((rv1.reZ hz).monoZ x) ((rv2.reZ hz).monoZ x)
theorem walks_zipT (ha : (a ∉ Z ∧ a ∉ ρ ∧ H a = some (.tup vs)) ∨ KTup K a vs) (t : RDs W Z ρ H xs vs) (hb : (b ∉ Z ∧ b ∉ ρ ∧ H b = some (.tup us)) ∨ KTup K b us) (u : RDs W Z ρ H ys us) : Walks W Z ρ H (RZ.ItzT K a b) (zipD xs ys) := by
  intro Z' ρ' h' H' hz x S
  have q : SqT K H' a vs := by
    rcases ha with ⟨az, ha, h⟩ | k
    · exact SqT.of (x.keep a _ (fun m => (hz a m).elim az fun n => by rw [h] at n; cases n) ha h).2
    · exact .inr k
  have q2 : SqT K H' b us := by
    rcases hb with ⟨az, ha, h⟩ | k
    · exact SqT.of (x.keep b _ (fun m => (hz b m).elim az fun n => by rw [h] at n; cases n) ha h).2
    · exact .inr k
  refine ⟨fun i d e => ?_, vs, us, q, q2, by rw [← t.length, ← u.length]; exact zipD_len⟩
  obtain ⟨d1, d2, e1, e2, rfl⟩ := zipD_get e
  obtain ⟨v1, ev1, rv1⟩ := t.get e1
  obtain ⟨v2, ev2, rv2⟩ := u.get e2
  refine ⟨⟨vs, us, v1, v2, q, q2, ev1, ev2⟩, fun w H2 ⟨T, y1, y2, f1, n, f2, hw1, hw2⟩ => ?_⟩
  subst f1 f2
  have z1 := hw1 vs q
  have z2 := hw2 us q2
  rw [ev1] at z1
  rw [ev2] at z2
  cases z1; cases z2
  exact pair_ok S n ((rv1.reZ hz).monoZ x) ((rv2.reZ hz).monoZ x)
end
/-- a value is walked -/
def IterV (X : Cx) (tg : Expr) (pins : List (Addr × Obj)) (σ : L2.St) (R : L2.It → Hp → Prop) (v : V) (H : Hp) : Prop :=
  ∀ (s : Shared) (u : Value), Inv X pins σ H s → RelV v u → wpAny (model X.prog X.w) X.A (pyIter u) (PIE X pins σ tg R) X.xe s
section
variable {X : Cx} {tg : Expr} {pins : List (Addr × Obj)} {σ : L2.St} {R : L2.It → Hp → Prop} {H : Hp} {a : Addr} {xs : List V}
theorem iter_list (hq : SqL X.K H a xs) (q : R (Itl X.K a) H) : IterV X tg pins σ R (.ref a) H := by
  intro s1 u I1 r1
  cases r1
  obtain ⟨its, rv, p, hz⟩ := I1.list hq
  refine wpAny_pyIter_list p.isList ?_
  refine ⟨s1.heap.objs.size, [s1.heap.objs.size], _, _, H, rfl, I1.kept (t' := s1.toks) fun b o e => Heap.get?_push_of_some _ e, turn_list a _, ⟨_, Heap.get?_push_size _ rfl, rfl, rfl⟩, fun b hb => ?_, q⟩
  have e : b = s1.heap.objs.size := by simpa using hb
  subst e
  exact I1.fpOk (Nat.le_refl _) (I1.hok.fresh (Nat.le_refl _))
theorem iter_tup (hq : SqT X.K H a xs) (q : R (Itt X.K a) H) : IterV X tg pins σ R (.ref a) H := by
  intro s1 u I1 r1
  cases r1
  obtain ⟨its, rv, p, hz⟩ := I1.tuple hq
  refine wpAny_pyIter_tuple (show s1.heap.IsTuple a its.toArray from p) ?_
  refine ⟨s1.heap.objs.size, [s1.heap.objs.size], _, _, H, rfl, I1.kept (t' := s1.toks) fun b o e => Heap.get?_push_of_some _ e, turn_tuple a _, ⟨_, Heap.get?_push_size _ rfl, rfl, rfl⟩, fun b hb => ?_, q⟩
  have e : b = s1.heap.objs.size := by simpa using hb
  subst e
  exact I1.fpOk (Nat.le_refl _) (I1.hok.fresh (Nat.le_refl _))
theorem iter_str {x : Str} (q : R (Its x) H) : IterV X tg pins σ R (.str x) H := by
  intro s1 u I1 r1
  obtain ⟨t, rfl⟩ := r1
  cases ha : x.cps.all (· < 128)
  · exact wpAny_pyIter_wide ha (pi_one (tk := s1.toks) I1 _ (turn_str _ x t "str_iterator" (.inr rfl)) ⟨_, Heap.get?_push_size _ rfl, rfl, rfl⟩ q)
  · exact wpAny_pyIter_ascii ha (pi_one (tk := s1.toks) I1 _ (turn_str _ x t "str_ascii_iterator" (.inl rfl)) ⟨_, Heap.get?_push_size _ rfl, rfl, rfl⟩ q)
end
/-- a tuple, where it stands -/
theorem tup_at {W : Wd} {Z ρ : List Addr} {H : Hp} {xs : List D} {v : V} (r : RD W Z ρ H (.tup xs) v) : ∃ a vs, v = .ref a ∧ ((a ∉ Z ∧ a ∉ ρ ∧ H a = some (.tup vs)) ∨ KTup W.K a vs) ∧ RDs W Z ρ H xs vs := by
  cases r with
  | tup z ra q t => exact ⟨_, _, rfl, .inl ⟨z, ra, q⟩, t⟩
  | tupK k t => exact ⟨_, _, rfl, .inr k, t⟩
theorem sqT_of {K : PySem.W.Frag} {Z ρ : List Addr} {H : Hp} {a : Addr} {vs : List V} (h : (a ∉ Z ∧ a ∉ ρ ∧ H a = some (.tup vs)) ∨ KTup K a vs) : SqT K H a vs := by
  rcases h with ⟨_, h⟩ | k
  · exact SqT.of h.2
  · exact .inr k
section
variable {X : Cx} {W : Wd} {wx : WX} {tg e e2 : Expr} {f f2 : TM} {fs : AM}
/-- one value, walked -/
theorem ij_e (J : Jc X W wx) (he : EJ X W wx e f) : IJ X W wx tg e .e (aCons f aNil) := by
  refine ⟨fun pins s σ H R I ⟨Z, ρ, σd, h0, S, rs, p⟩ => ?_⟩
  have p1 := Post.bind p
  refine thn (he.run pins s σ H (fun v H1 => IterV X tg pins σ R v H1) I ⟨Z, ρ, σd, h0, S, rs, (Post.bind p1).imp fun d ρ1 h1 H1 x1 S1 p2 v rv => ?_⟩) fun u s1 ⟨v, H1, I1, r1, q1⟩ => q1 s1 u I1 r1
  have p3 := post_now S1 p2
  cases d <;> first | (exact False.elim p3) | skip
  case str t =>
    cases rv
    exact iter_str (post_now S1 p3 _ (walks_str t))
  case tup xs =>
    obtain ⟨a, vs, rfl, ha, t⟩ := tup_at rv
    have ha' := J.hK ▸ ha
    exact iter_tup (sqT_of ha') (post_now S1 p3 _ (walks_tup ha' t))
  case lst xs =>
    cases rv with
    | lst z ra q t => exact iter_list (SqL.of q) (post_now S1 p3 _ (walks_list z ra q t))
theorem len1 {σ : Sg} {h : Hh} {Z ρ : List Addr} {H : Hp} {Q : List D → List Addr → Hh → Hp → Prop} {E : XK} (p : Post W Z ρ H (aCons f aNil σ h) Q E) : Post W Z ρ H (aCons f aNil σ h) (fun ds ρ h H => (∃ d, ds = [d]) ∧ Q ds ρ h H) E := by
  unfold aCons aNil at p ⊢
  cases hf : f σ h with
  | ok d h1 => rw [hf] at p; exact fun ρ' H' x S => ⟨⟨d, rfl⟩, p ρ' H' x S⟩
  | xn x h1 => rw [hf] at p; exact p
  | bad => rw [hf] at p; exact p
theorem len2 {σ : Sg} {h : Hh} {Z ρ : List Addr} {H : Hp} {Q : List D → List Addr → Hh → Hp → Prop} {E : XK} (p : Post W Z ρ H (aCons f (aCons f2 aNil) σ h) Q E) : Post W Z ρ H (aCons f (aCons f2 aNil) σ h) (fun ds ρ h H => (∃ d d2, ds = [d, d2]) ∧ Q ds ρ h H) E := by
  unfold aCons aNil at p ⊢
  cases hf : f σ h with
  | ok d h1 =>
    rw [hf] at p
    simp only [R.bind_ok] at p ⊢
    cases hg : f2 σ h1 with
    | ok d2 h2 => rw [hg] at p; exact fun ρ' H' x S => ⟨⟨d, d2, rfl⟩, p ρ' H' x S⟩
    | xn x h2 => rw [hg] at p; exact p
    | bad => rw [hg] at p; exact p
  | xn x h1 => rw [hf] at p; exact p
  | bad => rw [hf] at p; exact p
theorem walk_some {it : It} {ds : List D} {h : Hh} {Z ρ : List Addr} {H : Hp} {R : List D → List Addr → Hh → Hp → Prop} {E : XK} (S : Sim W Z ρ h H) (p : Post W Z ρ H (match walk it ds with
    | none => .bad
    | some xs => .ok xs h) R E) : ∃ xs, walk it ds = some xs ∧ R xs ρ h H := by
  cases hw : walk it ds with
  | none => rw [hw] at p; exact p.elim
  | some xs => rw [hw] at p; exact ⟨xs, rfl, post_now S p⟩
theorem lim_eq : lim = 2 ^ 62 := by decide
theorem ij_range1 {a : Expr} {p pos : Pos} (ha : EJ X W wx a f) (hg : Gl X "range" := by rfl) (hm : X.mg "range" = none := by assumption) (hs : starEach [a] X.env = (false, eval a X.env) :: starEach [] X.env := by rfl) : IJ X W wx tg (.Call (.Name "range" p) [a] [] pos) .range (aCons f aNil) := by
  refine ⟨fun pins s σ H R I ⟨Z, ρ, σd, h0, S, rs, p⟩ => (pi_range1 (tg := tg) hg hm (aj_cons ha aj_nil hs) hs).run pins s σ H R I ⟨Z, ρ, σd, h0, S, rs, (len1 (Post.bind p)).imp fun ds ρ1 h1 H1 x1 S1 p1 vs rvs => ?_⟩⟩
  obtain ⟨⟨d, rfl⟩, p1⟩ := p1
  obtain ⟨xs, hw, q⟩ := walk_some S1 p1
  cases d <;> simp only [walk] at hw <;> first | (cases hw; done) | skip
  split at hw
  · rename_i n hl
    cases hw
    cases rvs with
    | cons r t =>
      cases t
      cases r
      exact ⟨n, rfl, lim_eq ▸ hl.1, lim_eq ▸ hl.2, q _ (walks_range 0 n.toNat)⟩
  · cases hw
theorem ij_range2 {a b : Expr} {p pos : Pos} (ha : EJ X W wx a f) (hb : EJ X W wx b f2) (hg : Gl X "range" := by rfl) (hm : X.mg "range" = none := by assumption) (hs : starEach [a, b] X.env = [(false, eval a X.env), (false, eval b X.env)] := by rfl) (hs2 : starEach [b] X.env = [(false, eval b X.env)] := by rfl)
    (hs3 : starEach [a, b] X.env = (false, eval a X.env) :: starEach [b] X.env := by rfl) (hs4 : starEach [b] X.env = (false, eval b X.env) :: starEach [] X.env := by rfl) : IJ X W wx tg (.Call (.Name "range" p) [a, b] [] pos) .range (aCons f (aCons f2 aNil)) := by
  refine ⟨fun pins s σ H R I ⟨Z, ρ, σd, h0, S, rs, p⟩ => (pi_range2 (tg := tg) hg hm (aj_cons ha (aj_cons hb aj_nil hs4) hs3) hs hs2).run pins s σ H R I ⟨Z, ρ, σd, h0, S, rs, (len2 (Post.bind p)).imp fun ds ρ1 h1 H1 x1 S1 p1 vs rvs => ?_⟩⟩
  obtain ⟨⟨d, d2, rfl⟩, p1⟩ := p1
  obtain ⟨xs, hw, q⟩ := walk_some S1 p1
  cases d <;> cases d2 <;> simp only [walk] at hw <;> first | (cases hw; done) | skip
  split at hw
  · rename_i m n hl
    cases hw
    cases rvs with
    | cons r t =>
      cases t with
      | cons r2 t =>
        cases t
        cases r
        cases r2
        exact ⟨m, n, rfl, by rw [← lim_eq]; exact hl, q _ (walks_range m (n - m).toNat)⟩
  · cases hw
theorem ij_enum {a : Expr} {p pos tpos : Pos} {elts : List Expr} {kk : Nat} (ha : EJ X W wx a f) (hg : Gl X "enumerate" := by rfl) (hm : X.mg "enumerate" = none := by assumption) (hs : starEach [a] X.env = (false, eval a X.env) :: starEach [] X.env := by rfl) : IJ X W wx (.Tuple elts kk tpos) (.Call (.Name "enumerate" p) [a] [] pos) .enum (aCons f aNil) := by
  refine ⟨fun pins s σ H R I ⟨Z, ρ, σd, h0, S, rs, p⟩ => (pi_enum (tpos := tpos) (elts := elts) (kk := kk) hg hm (aj_cons ha aj_nil hs) hs).run pins s σ H R I ⟨Z, ρ, σd, h0, S, rs, (len1 (Post.bind p)).imp fun ds ρ1 h1 H1 x1 S1 p1 vs rvs => ?_⟩⟩
  obtain ⟨⟨d, rfl⟩, p1⟩ := p1
  obtain ⟨xs, hw, q⟩ := walk_some S1 p1
  cases d <;> simp only [walk] at hw <;> first | (cases hw; done) | skip
  cases hw
  cases rvs with
  | cons r t =>
    cases t
    cases r with
    | lst z ra h t => exact ⟨_, _, rfl, SqL.of h, q _ (walks_enum z ra h t)⟩
theorem ij_zip (J : Jc X W wx) {a b : Expr} {p pos tpos : Pos} {elts : List Expr} {kk : Nat} (ha : EJ X W wx a f) (hb : EJ X W wx b f2) (hg : Gl X "zip" := by rfl) (hm : X.mg "zip" = none := by assumption)
    (hs : starEach [a, b] X.env = (false, eval a X.env) :: starEach [b] X.env := by rfl) (hs2 : starEach [b] X.env = (false, eval b X.env) :: starEach [] X.env := by rfl) (hpl : (backTo pos (starEach [b] X.env)).any (·.1) = false := by rfl) :
    IJ X W wx (.Tuple elts kk tpos) (.Call (.Name "zip" p) [a, b] [] pos) .zip (aCons f (aCons f2 aNil)) := by
  refine ⟨fun pins s σ H R I ⟨Z, ρ, σd, h0, S, rs, p⟩ => (RZ.pi_zipA (tpos := tpos) (elts := elts) (kk := kk) hg hm (aj_cons ha (aj_cons hb aj_nil hs2) hs) hs hpl).run pins s σ H R I ⟨Z, ρ, σd, h0, S, rs, (len2 (Post.bind p)).imp fun ds ρ1 h1 H1 x1 S1 p1 vs rvs => ?_⟩⟩
  obtain ⟨⟨d, d2, rfl⟩, p1⟩ := p1
  obtain ⟨xs, hw, q⟩ := walk_some S1 p1
  cases d <;> cases d2 <;> simp only [walk] at hw <;> first | (cases hw; done) | skip
  · cases hw
    cases rvs with
    | cons r t =>
      cases t with
      | cons r2 t =>
        cases t
        obtain ⟨a, vs, rfl, ha, t⟩ := tup_at r
        obtain ⟨b, us, rfl, hb, u⟩ := tup_at r2
        have ha' := J.hK ▸ ha
        have hb' := J.hK ▸ hb
        exact ⟨_, _, _, _, rfl, .inr ⟨sqT_of ha', sqT_of hb', q _ (walks_zipT ha' t hb' u)⟩⟩
  · cases hw
    cases rvs with
    | cons r t =>
      cases t with
      | cons r2 t =>
        cases t
        cases r with
        | lst z ra h t =>
          cases r2 with
          | lst z2 ra2 h2 t2 => exact ⟨_, _, _, _, rfl, .inl ⟨SqL.of h, SqL.of h2, q _ (walks_zip z ra h t z2 ra2 h2 t2)⟩⟩
end
/-! ### a list that grows, hidden -/
def hid (H : Hp) (D : Addr) : Hp := fun b => if b = D then none else H b
theorem hid_self {H : Hp} {D : Addr} : hid H D D = none := by simp [hid]
theorem hid_ne {H : Hp} {D b : Addr} (h : b ≠ D) : hid H D b = H b := by simp [hid, h]
theorem upd_hid {H : Hp} {D : Addr} {o : HO} : upd (hid H D) D o = upd H D o := by
  funext b
  by_cases h : b = D
  · subst h; rw [upd_same, upd_same]
  · rw [upd_ne h, upd_ne h, hid_ne h]
theorem upd_self {H : Hp} {D : Addr} {o : HO} (h : H D = some o) : upd (hid H D) D o = H := by
  funext b
  by_cases e : b = D
  · subst e; rw [upd_same, h]
  · rw [upd_ne e, hid_ne e]
section
variable {W : Wd} {Z ρ ρ' : List Addr} {H H' Hc : Hp} {D : Addr} {h h' : Hh} {acc : List V}
theorem nin {a D : Addr} {Z : List Addr} (z : a ∉ D :: Z) : a ≠ D := fun e => z (by rw [e]; exact List.mem_cons_self)
theorem Rd.hid {a : Addr} {u : HO} (r : Rd H a u) (n : a ≠ D) : Rd (hid H D) a u := by
  rcases r with r | ⟨o, r⟩
  · exact .inl (by rw [hid_ne n]; exact r)
  · exact .inr ⟨o, by rw [hid_ne n]; exact r⟩
mutual
theorem RD.hid : ∀ {d : Fw.D} {v : V}, RD W (D :: Z) ρ H d v → RD W Z ρ (hid H D) d v
  | _, _, .non => .non
  | _, _, .bl b => .bl b
  | _, _, .int i => .int i
  | _, _, .str s => .str s
  | _, _, .tup z r q t => .tup (fun m => z (List.mem_cons_of_mem _ m)) r (by rw [hid_ne (nin z)]; exact q) (RDs.hid t)
  | _, _, .tupK k t => .tupK k (RDs.hid t)
  | _, _, .lst z r q t => .lst (fun m => z (List.mem_cons_of_mem _ m)) r (by rw [hid_ne (nin z)]; exact q) (RDs.hid t)
  | _, _, .dct z r q t => .dct (fun m => z (List.mem_cons_of_mem _ m)) r (Fw.Rd.hid q (nin z)) (RKs.hid t)
  | _, _, .obj z r q t => .obj (fun m => z (List.mem_cons_of_mem _ m)) r (by rw [hid_ne (nin z)]; exact q) (RFs.hid t)
  | _, _, .ref e => .ref e
  | _, _, .fn f => .fn f
  | _, _, .roi q => .roi (q.elim (fun ⟨z, r, q⟩ => .inl ⟨fun m => z (List.mem_cons_of_mem _ m), r, Fw.Rd.hid q (nin z)⟩) .inr)
theorem RDs.hid : ∀ {ds : List Fw.D} {vs : List V}, RDs W (D :: Z) ρ H ds vs → RDs W Z ρ (hid H D) ds vs
  | _, _, .nil => .nil
  | _, _, .cons r t => .cons (RD.hid r) (RDs.hid t)
theorem RKs.hid : ∀ {ds : List (K1 × Fw.D)} {vs : List (Key × V)}, RKs W (D :: Z) ρ H ds vs → RKs W Z ρ (hid H D) ds vs
  | _, _, .nil => .nil
  | _, _, .cons r t => .cons (RD.hid r) (RKs.hid t)
theorem RFs.hid : ∀ {ds : List (Nat × Fw.D)} {vs : List (Str × V)}, RFs W (D :: Z) ρ H ds vs → RFs W Z ρ (hid H D) ds vs
  | _, _, .nil => .nil
  | _, _, .cons r t => .cons (RD.hid r) (RFs.hid t)
end
theorem Sim.hid (hD : D ∉ Z) (S : Sim W (D :: Z) ρ h H) : Sim W Z ρ h (hid H D) where
  len := S.len
  nd := S.nd
  dis := fun z hz => by
    obtain ⟨h1, o, e⟩ := S.dis z (List.mem_cons_of_mem _ hz)
    exact ⟨h1, o, by rw [hid_ne fun e2 => hD (by rw [← e2]; exact hz)]; exact e⟩
  obj := fun n o a e1 e2 => by
    have na : a ≠ D := fun e => (S.dis D List.mem_cons_self).1 (e ▸ List.mem_of_getElem? e2)
    cases S.obj n o a e1 e2 with
    | lst q t => exact .lst (by rw [hid_ne na]; exact q) t.hid
    | ro q t => exact .ro (Fw.Rd.hid q na) t.hid
    | dct q t => exact .dct (by rw [hid_ne na]; exact q) t.hid
    | ins q t => exact .ins (by rw [hid_ne na]; exact q) t.hid
/-- behind a part that ran while the list at D grew -/
theorem Ext.hid (n : Hc D = none) (x : Ext ρ (upd Hc D (.lst acc)) ρ' H') : Ext ρ Hc ρ' (Fw.hid H' D) :=
  ⟨x.pre, fun a o hr e => by
    have na : a ≠ D := ne_of_none e n
    obtain ⟨h1, h2⟩ := x.keep a o hr (by rw [upd_ne na]; exact e)
    exact ⟨h1, by rw [hid_ne na]; exact h2⟩⟩
theorem Sim.shown {o : HO} (n : Hc D = none) (S : Sim W Z ρ h Hc) : Sim W (D :: Z) ρ h (upd Hc D o) where
  len := S.len
  nd := S.nd
  dis := fun z hz => by
    rcases List.mem_cons.mp hz with e | hz
    · subst e; exact ⟨(S.new n).2, o, upd_same⟩
    · exact (S.laid n).dis z hz
  obj := fun m u a e1 e2 => by
    have hz : ∀ z ∈ D :: Z, z ∈ Z ∨ Hc z = none := fun z hz => (List.mem_cons.mp hz).elim (fun e => .inr (by rw [e]; exact n)) .inl
    have x : Ext ρ Hc ρ (upd Hc D o) := Ext.laid n
    cases S.obj m u a e1 e2 with
    | lst q t => exact .lst (by rw [upd_ne (ne_of_none q n)]; exact q) ((t.reZ hz).mono x)
    | ro q t =>
      refine .ro ?_ ((t.reZ hz).mono x)
      rcases q with q | ⟨ob, q⟩
      · exact .inl (by rw [upd_ne (ne_of_none q n)]; exact q)
      · exact .inr ⟨ob, by rw [upd_ne (ne_of_none q n)]; exact q⟩
    | dct q t => exact .dct (by rw [upd_ne (ne_of_none q n)]; exact q) ((t.reZ hz).mono x)
    | ins q t => exact .ins (by rw [upd_ne (ne_of_none q n)]; exact q) ((t.reZ hz).mono x)
theorem RX.hid {e : Exn} {cls : Value} {dd : Option Addr} (hl : H D = some (.lst acc)) (r : RX W (D :: Z) ρ H e cls dd) : RX W Z ρ (hid H D) e cls dd := by
  refine ⟨r.1, ?_⟩
  have r2 := r.2
  cases hf : e.fld with
  | none => rw [hf] at r2; exact r2
  | some d =>
    rw [hf] at r2
    obtain ⟨a, f, v, e1, e2, e3, e4⟩ := r2
    exact ⟨a, f, v, e1, by rw [hid_ne (fun z => by rw [z, hl] at e2; cases e2)]; exact e2, e3, e4.hid⟩
/-- a part's end, told of the heap in which the growing list is hidden -/
theorem Post.shown {α : Type} {r : R α} {Q : α → List Addr → Hh → Hp → Prop} (hD : D ∉ Z) (hρ : D ∉ ρ) (n : Hc D = none) (p : Post W Z ρ Hc r Q fun _ _ _ => False) {E : XK} :
    Post W (D :: Z) ρ (upd Hc D (.lst acc)) r (fun a ρ' h' H' => H' D = some (.lst acc) ∧ Sim W Z ρ' h' (hid H' D) ∧ Ext ρ Hc ρ' (hid H' D) ∧ Q a ρ' h' (hid H' D)) E := by
  cases r with
  | ok a h => exact fun ρ' H' x S => ⟨(x.keep D _ hρ upd_same).2, S.hid hD, Ext.hid n x, p ρ' (hid H' D) (Ext.hid n x) (S.hid hD)⟩
  | xn e h =>
    intro ρ' H' cls dd x S rx
    exact (p ρ' (Fw.hid H' D) cls dd (Ext.hid n x) (S.hid hD) (RX.hid (x.keep D _ hρ upd_same).2 rx)).elim
  | bad => exact p
theorem noX_bind {α β : Type} {r : R α} {k : α → Hh → R β} {Q : β → List Addr → Hh → Hp → Prop} {E : XK} (p : Post W Z ρ H (noX (r.bind k)) Q E) : Post W Z ρ H r (fun a ρ' h' H' => Post W Z ρ' H' (noX (k a h')) Q E) fun _ _ _ => False := by
  cases r with
  | ok a h => exact fun ρ' H' x S => Post.mono x p
  | xn e h => exact p.elim
  | bad => exact p
theorem noX_ok' {α : Type} {r : R α} {Q : α → List Addr → Hh → Hp → Prop} {E : XK} (p : Post W Z ρ H (noX r) Q E) : Post W Z ρ H r Q fun _ _ _ => False := by
  cases r with
  | ok a h => exact p
  | xn e h => exact p.elim
  | bad => exact p
end
/-- a clause's tests -/
abbrev CJ (X : Cx) (W : Wd) (ifs : List Expr) (f : BM) : Prop := PTs X ifs (tB W (fun _ _ _ _ => False) f)
section
variable {X : Cx} {W : Wd} {wx : WX} {tg iter elt : Expr} {ifs : List Expr} {scope : Scope} {own : List (Str × Nat)} {pos : Pos} {f : TM} {gb : BM} {it : It} {src : AM} {g : G}
theorem cj_nil : CJ X W [] bYes := ⟨fun pins s σ H Q I ⟨Z, ρ, σd, h0, S, rs, p⟩ => pts_nil.run pins s σ H Q I (post_now S p)⟩
theorem cj_one {c : Expr} {f : BM} (h : BJ X W (fun _ _ _ _ => False) c f) : CJ X W [c] f := ⟨fun pins s σ H Q I q => (pts_one h).run pins s σ H Q I q⟩
/-- one turn of a comprehension -/
theorem lc_step {Z ρ : List Addr} {Hc : Hp} {D : Addr} {acc : List V} {accd : List Fw.D} {h : Hh} {σd : Sg} {σ : L2.St} {x : Fw.D} {v : V} {ownI : List Nat} {xs : List Fw.D} {Q : List Fw.D → List Addr → Hh → Hp → Prop} {E : XK} {Nx : Hp → Prop}
    (hK : X.K = W.K) (hg : ∀ i ∈ g.ix, i ∈ ownI) (hD : D ∉ Z) (n : Hc D = none) (S : Sim W Z ρ h Hc) (rs : RSg W Z ρ Hc σd σ) (ra : RDs W Z ρ Hc accd acc)
    {H' : Hp} (hH : H' = upd (hid H' D) D (.lst acc)) (hx : Ext ρ Hc ρ (hid H' D)) (S' : Sim W (D :: Z) ρ h H') (rv : RD W (D :: Z) ρ H' x v)
    (p : Post W Z ρ Hc (noX (lcL (lcStep f g gb ownI σd) (x :: xs) accd h)) Q E)
    (hN : ∀ ρ' h' Hc' acc' accd', Hc' D = none → Ext ρ Hc ρ' Hc' → Sim W Z ρ' h' Hc' → RDs W Z ρ' Hc' accd' acc' → Post W Z ρ' Hc' (noX (lcL (lcStep f g gb ownI σd) xs accd' h')) Q E → Nx (upd Hc' D (.lst acc'))) :
    gOf X.K g v (L2.wipe σ ownI) H' fun σ2 H2 => L2.wipe σ2 ownI = L2.wipe σ ownI ∧ tB W (fun _ _ _ _ => False) gb σ2 H2 fun b H3 =>
      if b = true then tE W (fun _ _ _ _ => False) f σ2 H3 fun y H4 => ∃ acc, H4 D = some (.lst acc) ∧ acc.length < sizeLine ∧ Nx (upd H4 D (.lst (acc ++ [y]))) else Nx H3 := by
  simp only [lcL] at p
  have p1 := noX_bind p
  unfold lcStep at p1
  have hzz : ∀ z ∈ D :: Z, z ∈ Z ∨ Hc z = none := fun z hz => (List.mem_cons.mp hz).elim (fun e => .inr (by rw [e]; exact n)) .inl
  have hn' : hid H' D D = none := hid_self
  have hzz' : ∀ z ∈ D :: Z, z ∈ Z ∨ hid H' D z = none := fun z hz => (List.mem_cons.mp hz).elim (fun e => .inr (by rw [e]; exact hn')) .inl
  have xl : Ext ρ (hid H' D) ρ H' := by
    have := Ext.laid (ρ := ρ) (H := hid H' D) (o := .lst acc) hn'
    rw [← hH] at this
    exact this
  have rs' : RSg W (D :: Z) ρ H' (wipe σd ownI) (L2.wipe σ ownI) := by
    refine RSg.wipe ⟨rs.len, fun i d e => ?_⟩ ownI
    obtain ⟨w, e1, r1⟩ := rs.at_ i d e
    exact ⟨w, e1, ((r1.mono hx).reZ hzz').mono xl⟩
  cases hb : bindG (wipe σd ownI) g x with
  | none => rw [hb] at p1; exact p1.elim
  | some σ1 =>
    rw [hb] at p1
    dsimp only at p1
    refine bindG_ok hK g rs' rv hb fun σ2 r2 hw => ⟨?_, ?_⟩
    · rw [hw ownI hg]
      have idem : ∀ (vs : List Nat), (∀ i ∈ vs, i ∈ ownI) → L2.wipe (L2.wipe σ vs) ownI = L2.wipe σ ownI := by
        intro vs
        induction vs with
        | nil => intro _; rfl
        | cons w ws ih =>
          intro hw
          simp only [L2.wipe]
          rw [wipe_set (hw w List.mem_cons_self)]
          exact ih fun i hi => hw i (List.mem_cons_of_mem _ hi)
      exact idem ownI fun i hi => hi
    · have pa := Post.mono hx p1
      have hDρ : D ∉ ρ := (S'.dis D List.mem_cons_self).1
      have q := Post.shown (acc := acc) (E := fun _ _ _ => False) hD hDρ hn' (Post.bind pa)
      rw [← hH] at q
      refine ⟨D :: Z, ρ, σ1, h, S', r2, q.imp fun k ρ3 h3 H3 x3 S3 q3 => ?_⟩
      obtain ⟨e3, S3', x3', p3⟩ := q3
      have hH3 : upd (hid H3 D) D (.lst acc) = H3 := upd_self e3
      cases k with
      | false =>
        have p4 := post_now S3' p3
        rw [if_neg (by decide)]
        rw [← hH3]
        exact hN ρ3 h3 (hid H3 D) acc accd hid_self (hx.trans x3') S3' (ra.mono (hx.trans x3')) p4
      | true =>
        rw [if_pos rfl]
        have hDρ3 : D ∉ ρ3 := (S3.dis D List.mem_cons_self).1
        have q4 := Post.shown (acc := acc) (E := fun _ _ _ => False) hD hDρ3 hid_self (Post.bind p3)
        rw [hH3] at q4
        refine ⟨D :: Z, ρ3, σ1, h3, S3, r2.mono x3, q4.imp fun d ρ4 h4 H4 x4 S4 q5 v4 rv4 => ?_⟩
        obtain ⟨e4, S4', x4', p5⟩ := q5
        have p6 : Post W Z ρ4 (hid H4 D) (noX (if accd.length < line then lcL (lcStep f g gb ownI σd) xs (accd ++ [d]) h4 else .bad)) Q E := post_now S4' p5
        by_cases hlen : accd.length < line
        · rw [if_pos hlen] at p6
          have hx4 := (hx.trans x3').trans x4'
          refine ⟨acc, e4, by rw [← ra.length, ← line_eq]; exact hlen, ?_⟩
          rw [← upd_hid]
          exact hN ρ4 h4 (hid H4 D) (acc ++ [v4]) (accd ++ [d]) hid_self hx4 S4' ((ra.mono hx4).append (.cons rv4.hid .nil)) p6
        · rw [if_neg hlen] at p6
          exact p6.elim
theorem lc_read (hK : X.K = W.K) {ownI : List Nat} (hix : ∀ i ∈ g.ix, i ∈ ownI) {σ : L2.St} {H : Hp} {Q : VK} (p : tE W wx (eLc f g it src gb ownI) σ H Q) :
    tLc (tI W wx it src) (gOf X.K g) (tB W (fun _ _ _ _ => False) gb) (tE W (fun _ _ _ _ => False) f) ownI σ H Q := by
  obtain ⟨Z, ρ, σd, h0, S, rs, p⟩ := p
  exact
    ⟨Z, ρ, σd, h0, S, rs, (Post.bind p).imp fun xs ρ1 h1 H1 x1 S1 p1 Ji hw D hD => by
      have rs1 := rs.mono x1
      have hDZ := (S1.new hD).1
      have pl := Post.bind p1
      refine ⟨fun i m H => i ≤ xs.length ∧ m = xs.length - i ∧ ∃ ρ h Hc acc accd, Hc D = none ∧ H = upd Hc D (.lst acc) ∧ Ext ρ1 H1 ρ Hc ∧ Sim W Z ρ h Hc ∧ RDs W Z ρ Hc accd acc ∧
          Post W Z ρ Hc (noX (lcL (lcStep f g gb ownI σd) (xs.drop i) accd h)) (fun (a : List Fw.D) ρ h H => Post W Z ρ H (R.ok (Fw.D.lst a) h) (fun d ρ' _ H' => ∀ v, RD W Z ρ' H' d v → Q v H') (fun cls dd H' => wx cls dd σ H')) (fun cls dd H' => wx cls dd σ H'),
        ⟨xs.length, Nat.zero_le _, rfl, ρ1, h1, H1, [], [], hD, rfl, Ext.refl, S1, .nil, pl⟩, ?_⟩
      rintro i m H' ⟨hi, hm, ρ2, h2, Hc, acc, accd, n2, e2, x2, S2, ra, p2⟩
      subst e2
      have hwz : ∀ z ∈ D :: Z, z ∈ Z ∨ H1 z = none := fun z hz => (List.mem_cons.mp hz).elim (fun e => .inr (by rw [e]; exact hD)) .inl
      have xD : Ext ρ1 H1 ρ2 (upd Hc D (.lst acc)) := x2.trans (Ext.laid n2)
      have SD : Sim W (D :: Z) ρ2 h2 (upd Hc D (.lst acc)) := S2.shown n2
      have w := hw (D :: Z) ρ2 h2 _ hwz xD.z SD
      by_cases hE : i = xs.length
      · subst hE
        rw [List.drop_length] at p2
        have p3 := post_now S2 (post_now S2 p2)
        refine .inl ⟨w.2, ?_⟩
        have hl2 := Ext.laid (ρ := ρ2) (o := .lst acc) n2
        have p4 := p2 ρ2 Hc Ext.refl S2
        exact (Post.mono hl2 p4) ρ2 _ Ext.refl (S2.laid n2) (.ref D) (.lst hDZ (S2.new n2).2 upd_same (ra.mono hl2))
      · have hlt : i < xs.length := by omega
        obtain ⟨go, yl⟩ := w.1 i xs[i] (by simp [hlt])
        rw [List.drop_eq_getElem_cons hlt] at p2
        refine .inr ⟨go, fun H' => i + 1 ≤ xs.length ∧ ∃ ρ h Hc acc accd, Hc D = none ∧ H' = upd Hc D (.lst acc) ∧ Ext ρ1 H1 ρ Hc ∧ Sim W Z ρ h Hc ∧ RDs W Z ρ Hc accd acc ∧
          Post W Z ρ Hc (noX (lcL (lcStep f g gb ownI σd) (xs.drop (i + 1)) accd h)) (fun (a : List Fw.D) ρ h H => Post W Z ρ H (R.ok (Fw.D.lst a) h) (fun d ρ' _ H' => ∀ v, RD W Z ρ' H' d v → Q v H') (fun cls dd H' => wx cls dd σ H')) (fun cls dd H' => wx cls dd σ H'),
          fun H' ⟨a1, a2⟩ => ⟨xs.length - (i + 1), by omega, a1, rfl, a2⟩, fun v H4 hy => ?_⟩
        obtain ⟨x3, S3, rv⟩ := yl v H4 hy
        have hD4 : H4 D = some (.lst acc) := (x3.keep D _ (S2.new n2).2 upd_same).2
        have hH4 : H4 = upd (hid H4 D) D (.lst acc) := (upd_self hD4).symm
        have hx4 : Ext ρ2 Hc ρ2 (hid H4 D) := Ext.hid n2 x3
        refine lc_step (Q := fun (a : List Fw.D) ρ h H => Post W Z ρ H (R.ok (Fw.D.lst a) h) (fun d ρ' _ H' => ∀ v, RD W Z ρ' H' d v → Q v H') (fun cls dd H' => wx cls dd σ H')) (E := fun cls dd H' => wx cls dd σ H') hK hix hDZ n2 S2 (rs1.mono x2) ra hH4 hx4 S3 rv p2 fun ρ' h' Hc' acc' accd' n' x' S' ra' p' => ?_
        exact ⟨by omega, ρ', h', Hc', acc', accd', n', rfl, x2.trans x', S', ra', p'⟩⟩
/-- [elt for g in it if ..] -/
theorem ej_lc (J : Js X W wx) (hi : IJ X W wx tg iter it src) (ok : BlkOk X.N X.env.scope scope own) (hix : ∀ i ∈ g.ix, i ∈ own.map (·.2))
    (hg : ∀ (s : Shared) (H : Hp) (C : Addr) (cl : List (Str × Addr)) (fp : List Addr), GJ (X.blk s H scope (compEnvC scope cl C X.env) fp) tg g)
    (ht : ∀ (s : Shared) (H : Hp) (C : Addr) (cl : List (Str × Addr)) (fp : List Addr), CJ (X.blk s H scope (compEnvC scope cl C X.env) fp) W ifs gb)
    (he : ∀ (s : Shared) (H : Hp) (C : Addr) (cl : List (Str × Addr)) (fp : List Addr), EJ (X.blk s H scope (compEnvC scope cl C X.env) fp) W (fun _ _ _ _ => False) elt f)
    (hs : ∀ x, foldedSetIterable iter X.env x = pure x := by intro _; rfl) :
    EJ X W wx (.ListComp elt [⟨tg, iter, ifs, 0⟩] scope pos) (eLc f g it src gb (own.map (·.2))) :=
  ⟨fun pins s σ H Q I p => (pe_lc J.hc J.hN hi ok hg ht he hs).run pins s σ H Q I (lc_read J.hK hix p)⟩
/-- name = [..] on one line -/
theorem sj_setLc {i : Nat} {y : Str} {py spos : Pos} (J : Js X W wx) (hi : IJ X W wx tg iter it src) (ok : BlkOk X.N X.env.scope scope own) (hix : ∀ i ∈ g.ix, i ∈ own.map (·.2)) (hy : X.N[i]? = some y) (hyl : X.env.scope.names.lookup y = some .local)
    (hsw : swapsWith (.ListComp elt [⟨tg, iter, ifs, 0⟩] scope pos) (some (.Name y py)) spos.line X.env = pure true)
    (hg : ∀ (s : Shared) (H : Hp) (C : Addr) (cl : List (Str × Addr)) (fp : List Addr), GJ (X.blk s H scope (compEnvC scope cl C X.env) fp) tg g)
    (ht : ∀ (s : Shared) (H : Hp) (C : Addr) (cl : List (Str × Addr)) (fp : List Addr), CJ (X.blk s H scope (compEnvC scope cl C X.env) fp) W ifs gb)
    (he : ∀ (s : Shared) (H : Hp) (C : Addr) (cl : List (Str × Addr)) (fp : List Addr), EJ (X.blk s H scope (compEnvC scope cl C X.env) fp) W (fun _ _ _ _ => False) elt f)
    (hs : ∀ x, foldedSetIterable iter X.env x = pure x := by intro _; rfl) :
    SJ X W wx (.Assign [.Name y py] (.ListComp elt [⟨tg, iter, ifs, 0⟩] scope pos) spos) (sSet i (eLc f g it src gb (own.map (·.2)))) :=
  ⟨fun pins s σ H D I ⟨Z, ρ, σd, h0, S, rs, p⟩ => (ps_setLc J.hc J.hN hy hyl hsw hi ok hg ht he hs).run pins s σ H D I
    (lc_read J.hK hix ⟨Z, ρ, σd, h0, S, rs, (PostS.of rs p).imp fun d ρ1 h1 H1 x1 S1 p1 v rv => p1.nx S1 ((rs.mono x1).set rv)⟩)⟩
end
end Fw
end
section
set_option Elab.async false
set_option linter.all false
set_option maxRecDepth 100000
set_option autoImplicit false
set_option maxHeartbeats 1000000
/-! Fw7: defs and their calls. -/
namespace Fw
open PySem PySem.Spec PyProof.Rows L2
section
variable {W : Wd} {Z Z' ρ ρ' : List Addr} {H H' : Hp}
/-! ### closed data -/
mutual
theorem RD.closed (hz : ∀ z ∈ Z', z ∈ Z ∨ z ∈ ρ) (hr : ∀ a ∈ ρ', a ∈ ρ) : ∀ {d : D} {v : V}, d.closed = true → RD W Z ρ H d v → RD W Z' ρ' H d v
  | _, _, _, .non => .non
  | _, _, _, .bl b => .bl b
  | _, _, _, .int i => .int i
  | _, _, _, .str s => .str s
  | _, _, c, .tup z r q t => .tup (fun m => (hz _ m).elim z r) (fun m => r (hr _ m)) q (RDs.closed hz hr (by simpa [D.closed] using c) t)
  | _, _, c, .tupK k t => .tupK k (RDs.closed hz hr (by simpa [D.closed] using c) t)
  | _, _, c, .lst z r q t => .lst (fun m => (hz _ m).elim z r) (fun m => r (hr _ m)) q (RDs.closed hz hr (by simpa [D.closed] using c) t)
  | _, _, c, .dct z r q t => .dct (fun m => (hz _ m).elim z r) (fun m => r (hr _ m)) q (RKs.closed hz hr (by simpa [D.closed] using c) t)
  | _, _, c, .obj z r q t => .obj (fun m => (hz _ m).elim z r) (fun m => r (hr _ m)) q (RFs.closed hz hr (by simpa [D.closed] using c) t)
  | _, _, c, .ref e => by simp [D.closed] at c
  | _, _, _, .fn f => .fn f
  | _, _, _, .roi q => .roi (q.elim (fun ⟨z, r, q⟩ => .inl ⟨fun m => (hz _ m).elim z r, fun m => r (hr _ m), q⟩) .inr)
theorem RDs.closed (hz : ∀ z ∈ Z', z ∈ Z ∨ z ∈ ρ) (hr : ∀ a ∈ ρ', a ∈ ρ) : ∀ {ds : List D} {vs : List V}, closedAll ds = true → RDs W Z ρ H ds vs → RDs W Z' ρ' H ds vs
  | _, _, _, .nil => .nil
  | _, _, c, .cons r t => by
    simp only [closedAll, Bool.and_eq_true] at c
    exact .cons (RD.closed hz hr c.1 r) (RDs.closed hz hr c.2 t)
theorem RKs.closed (hz : ∀ z ∈ Z', z ∈ Z ∨ z ∈ ρ) (hr : ∀ a ∈ ρ', a ∈ ρ) : ∀ {ds : List (K1 × D)} {vs : List (Key × V)}, closedK ds = true → RKs W Z ρ H ds vs → RKs W Z' ρ' H ds vs
  | _, _, _, .nil => .nil
  | _, _, c, .cons r t => by
    simp only [closedK, Bool.and_eq_true] at c
    exact .cons (RD.closed hz hr c.1 r) (RKs.closed hz hr c.2 t)
theorem RFs.closed (hz : ∀ z ∈ Z', z ∈ Z ∨ z ∈ ρ) (hr : ∀ a ∈ ρ', a ∈ ρ) : ∀ {ds : List (Nat × D)} {vs : List (Str × V)}, closedF ds = true → RFs W Z ρ H ds vs → RFs W Z' ρ' H ds vs
  | _, _, _, .nil => .nil
  | _, _, c, .cons r t => by
    simp only [closedF, Bool.and_eq_true] at c
    exact .cons (RD.closed hz hr c.1 r) (RFs.closed hz hr c.2 t)
end
theorem OR.closed (hz : ∀ z ∈ Z', z ∈ Z ∨ z ∈ ρ) (hr : ∀ a ∈ ρ', a ∈ ρ) {a : Addr} {o : O} (c : o.closed = true) (r : OR W Z ρ H a o) : OR W Z' ρ' H a o := by
  cases r with
  | lst q t => exact .lst q (RDs.closed hz hr (by simpa [O.closed] using c) t)
  | ro q t => exact .ro q (RDs.closed hz hr (by simpa [O.closed] using c) t)
  | dct q t => exact .dct q (RKs.closed hz hr (by simpa [O.closed] using c) t)
  | ins q t => exact .ins q (RFs.closed hz hr (by simpa [O.closed] using c) t)
end
/-! ### what is lent -/
def At (ρ : List Addr) (n : Nat) (a : Addr) : Prop := ρ[n]? = some a
theorem paired_at {ρ : List Addr} : ∀ {ns : List Nat} {as : List Addr}, Paired (At ρ) ns as → ∀ (i n : Nat), ns[i]? = some n → ∃ a, as[i]? = some a ∧ ρ[n]? = some a
  | _, _, .nil, i, n, h => by simp at h
  | _, _, .cons r t, 0, n, h => by simp at h; subst h; exact ⟨_, rfl, r⟩
  | _, _, .cons r t, i + 1, n, h => by simpa using paired_at t i n (by simpa using h)
theorem paired_len {ρ : List Addr} : ∀ {ns : List Nat} {as : List Addr}, Paired (At ρ) ns as → ns.length = as.length
  | _, _, .nil => rfl
  | _, _, .cons _ t => by simp [paired_len t]
theorem paired_mem {ρ : List Addr} : ∀ {ns : List Nat} {as : List Addr}, Paired (At ρ) ns as → ∀ a ∈ as, ∃ n ∈ ns, ρ[n]? = some a
  | _, _, .nil, a, h => absurd h (by simp)
  | _, _, .cons r t, a, h => by
    rcases List.mem_cons.mp h with e | h
    · subst e; exact ⟨_, List.mem_cons_self, r⟩
    · obtain ⟨n, hn, e⟩ := paired_mem t a h
      exact ⟨n, List.mem_cons_of_mem _ hn, e⟩
theorem nodup_inj {ρ : List Addr} (nd : ρ.Nodup) {m n : Nat} {a : Addr} (h1 : ρ[m]? = some a) (h2 : ρ[n]? = some a) : m = n := by
  exact (List.getElem?_inj (List.getElem?_eq_some_iff.mp h1).1 nd).mp (h1.trans h2.symm)
theorem paired_nodup {ρ : List Addr} (nd : ρ.Nodup) : ∀ {ns : List Nat} {as : List Addr}, Paired (At ρ) ns as → ns.Nodup → as.Nodup
  | _, _, .nil, _ => List.nodup_nil
  | n :: ns, a :: as, .cons r t, h => by
    obtain ⟨h1, h2⟩ := List.nodup_cons.mp h
    refine List.nodup_cons.mpr ⟨fun m => ?_, paired_nodup nd t h2⟩
    obtain ⟨k, hk, e⟩ := paired_mem t a m
    exact h1 (nodup_inj nd r e ▸ hk)
section
variable {W : Wd} {Z Z' ρ : List Addr} {H : Hp}
theorem lend_ok (hz : ∀ z ∈ Z', z ∈ Z ∨ z ∈ ρ) : ∀ {ds : List D} {vs : List V} {k : Nat} {ds' : List D} {ns : List Nat}, RDs W Z ρ H ds vs → lend k ds = some (ds', ns) →
    ∃ as, Paired (At ρ) ns as ∧ ∀ ρc : List Addr, (∀ (i : Nat) (a : Addr), as[i]? = some a → ρc[k + i]? = some a) → (∀ a ∈ ρc, a ∈ ρ) → RDs W Z' ρc H ds' vs := by
  intro ds
  induction ds with
  | nil =>
    intro vs k ds' ns r e
    cases r
    simp only [lend, Option.some.injEq, Prod.mk.injEq] at e
    obtain ⟨rfl, rfl⟩ := e
    exact ⟨[], .nil, fun _ _ _ => .nil⟩
  | cons d ds ih =>
    intro vs k ds' ns r e
    cases r with
    | @cons _ _ v vs r t =>
      by_cases hd : ∃ n, d = .ref n
      · obtain ⟨n, rfl⟩ := hd
        simp only [lend] at e
        cases el : lend (k + 1) ds with
        | none => rw [el] at e; cases e
        | some q =>
          obtain ⟨ds1, ns1⟩ := q
          rw [el] at e
          simp only [Option.map_some, Option.some.injEq, Prod.mk.injEq] at e
          obtain ⟨rfl, rfl⟩ := e
          obtain ⟨as, pa, f⟩ := ih t el
          cases r with
          | @ref a _ ra =>
            refine ⟨a :: as, .cons ra pa, fun ρc h1 h2 => .cons (.ref (by simpa using h1 0 a rfl)) (f ρc (fun i b hb => ?_) h2)⟩
            have := h1 (i + 1) b (by simpa using hb)
            rw [← this]
            congr 1
            omega
      · have e' : (if d.closed = true then (lend k ds).map fun q => (d :: q.1, q.2) else none) = some (ds', ns) := by
          rw [← e]
          cases d <;> first | rfl | exact absurd ⟨_, rfl⟩ hd
        split at e'
        · rename_i hc
          cases el : lend k ds with
          | none => rw [el] at e'; cases e'
          | some q =>
            obtain ⟨ds1, ns1⟩ := q
            rw [el] at e'
            simp only [Option.map_some, Option.some.injEq, Prod.mk.injEq] at e'
            obtain ⟨rfl, rfl⟩ := e'
            obtain ⟨as, pa, f⟩ := ih t el
            exact ⟨as, pa, fun ρc h1 h2 => .cons (RD.closed hz h2 hc r) (f ρc h1 h2)⟩
        · cases e'
theorem lentO_ok {h : Hh} : ∀ {ns : List Nat} {hc : Hh}, lentO h ns = some hc → hc.length = ns.length ∧ ∀ (i : Nat) (o : O), hc[i]? = some o → ∃ n, ns[i]? = some n ∧ h[n]? = some o ∧ o.closed = true := by
  intro ns
  induction ns with
  | nil => intro hc e; simp only [lentO, Option.some.injEq] at e; subst e; exact ⟨rfl, fun i o h => by simp at h⟩
  | cons n ns ih =>
    intro hc e
    simp only [lentO] at e
    cases en : h[n]? with
    | none => rw [en] at e; cases e
    | some o =>
      rw [en] at e
      dsimp only at e
      split at e
      · rename_i hcl
        cases el : lentO h ns with
        | none => rw [el] at e; cases e
        | some hc1 =>
          rw [el] at e
          cases e
          obtain ⟨h1, h2⟩ := ih el
          refine ⟨by simp [h1], fun i u hu => ?_⟩
          cases i with
          | zero => simp at hu; subst hu; exact ⟨n, rfl, en, hcl⟩
          | succ i => simpa using h2 i u (by simpa using hu)
      · cases e
end
/-! ### told to the caller -/
section
variable {W : Wd} {Z Z' ρ ρ1 : List Addr} {H : Hp} {g : Nat → Option D}
mutual
theorem map_ok (hz : ∀ a, a ∉ Z' → a ∉ ρ1 → a ∉ Z ∧ a ∉ ρ) (hg : ∀ n a d, ρ1[n]? = some a → g n = some d → RD W Z ρ H d (.ref a)) : ∀ {d : D} {v : V} {d' : D}, RD W Z' ρ1 H d v → d.map_ g = some d' → RD W Z ρ H d' v
  | _, _, _, .non, e => by simp only [D.map_, Option.some.injEq] at e; subst e; exact .non
  | _, _, _, .bl b, e => by simp only [D.map_, Option.some.injEq] at e; subst e; exact .bl b
  | _, _, _, .int i, e => by simp only [D.map_, Option.some.injEq] at e; subst e; exact .int i
  | _, _, _, .str s, e => by simp only [D.map_, Option.some.injEq] at e; subst e; exact .str s
  | _, _, _, .fn f, e => by simp only [D.map_, Option.some.injEq] at e; subst e; exact .fn f
  | _, _, _, .roi q, e => by simp only [D.map_, Option.some.injEq] at e; subst e; exact .roi (q.elim (fun ⟨z, r, q⟩ => .inl ⟨(hz _ z r).1, (hz _ z r).2, q⟩) .inr)
  | _, _, _, .ref h, e => by simp only [D.map_] at e; exact hg _ _ _ h e
  | _, _, _, .tup z r q t, e => by
    simp only [D.map_, Option.map_eq_some_iff] at e
    obtain ⟨xs, e1, rfl⟩ := e
    exact .tup (hz _ z r).1 (hz _ z r).2 q (mapAll_ok hz hg t e1)
  | _, _, _, .tupK k t, e => by
    simp only [D.map_, Option.map_eq_some_iff] at e
    obtain ⟨xs, e1, rfl⟩ := e
    exact .tupK k (mapAll_ok hz hg t e1)
  | _, _, _, .lst z r q t, e => by
    simp only [D.map_, Option.map_eq_some_iff] at e
    obtain ⟨xs, e1, rfl⟩ := e
    exact .lst (hz _ z r).1 (hz _ z r).2 q (mapAll_ok hz hg t e1)
  | _, _, _, .dct z r q t, e => by
    simp only [D.map_, Option.map_eq_some_iff] at e
    obtain ⟨xs, e1, rfl⟩ := e
    exact .dct (hz _ z r).1 (hz _ z r).2 q (mapK_ok hz hg t e1)
  | _, _, _, .obj z r q t, e => by
    simp only [D.map_, Option.map_eq_some_iff] at e
    obtain ⟨xs, e1, rfl⟩ := e
    exact .obj (hz _ z r).1 (hz _ z r).2 q (mapF_ok hz hg t e1)
theorem mapAll_ok (hz : ∀ a, a ∉ Z' → a ∉ ρ1 → a ∉ Z ∧ a ∉ ρ) (hg : ∀ n a d, ρ1[n]? = some a → g n = some d → RD W Z ρ H d (.ref a)) : ∀ {ds : List D} {vs : List V} {ds' : List D}, RDs W Z' ρ1 H ds vs → mapAll g ds = some ds' → RDs W Z ρ H ds' vs
  | _, _, _, .nil, e => by simp only [mapAll, Option.some.injEq] at e; subst e; exact .nil
  | _, _, _, .cons r t, e => by
    simp only [mapAll, Option.bind_eq_some_iff, Option.map_eq_some_iff] at e
    obtain ⟨y, e1, ys, e2, rfl⟩ := e
    exact .cons (map_ok hz hg r e1) (mapAll_ok hz hg t e2)
theorem mapK_ok (hz : ∀ a, a ∉ Z' → a ∉ ρ1 → a ∉ Z ∧ a ∉ ρ) (hg : ∀ n a d, ρ1[n]? = some a → g n = some d → RD W Z ρ H d (.ref a)) : ∀ {ds : List (K1 × D)} {vs : List (Key × V)} {ds' : List (K1 × D)}, RKs W Z' ρ1 H ds vs → mapK g ds = some ds' → RKs W Z ρ H ds' vs
  | _, _, _, .nil, e => by simp only [mapK, Option.some.injEq] at e; subst e; exact .nil
  | _, _, _, .cons r t, e => by
    simp only [mapK, Option.bind_eq_some_iff, Option.map_eq_some_iff] at e
    obtain ⟨y, e1, ys, e2, rfl⟩ := e
    exact .cons (map_ok hz hg r e1) (mapK_ok hz hg t e2)
theorem mapF_ok (hz : ∀ a, a ∉ Z' → a ∉ ρ1 → a ∉ Z ∧ a ∉ ρ) (hg : ∀ n a d, ρ1[n]? = some a → g n = some d → RD W Z ρ H d (.ref a)) : ∀ {ds : List (Nat × D)} {vs : List (Str × V)} {ds' : List (Nat × D)}, RFs W Z' ρ1 H ds vs → mapF g ds = some ds' → RFs W Z ρ H ds' vs
  | _, _, _, .nil, e => by simp only [mapF, Option.some.injEq] at e; subst e; exact .nil
  | _, _, _, .cons r t, e => by
    simp only [mapF, Option.bind_eq_some_iff, Option.map_eq_some_iff] at e
    obtain ⟨y, e1, ys, e2, rfl⟩ := e
    exact .cons (map_ok hz hg r e1) (mapF_ok hz hg t e2)
end
theorem frz_ok {hc : Hh} {k : Nat} (S : Sim W Z' ρ1 hc H) (hz : ∀ a, a ∉ Z' → a ∉ ρ1 → a ∉ Z ∧ a ∉ ρ) (hk : ∀ n a, ρ1[n]? = some a → ¬ n < k → a ∉ Z ∧ a ∉ ρ) : ∀ (f n : Nat) (a : Addr) (d : D), ρ1[n]? = some a → frz hc k f n = some d → RD W Z ρ H d (.ref a) := by
  intro f
  induction f with
  | zero => intro n a d _ e; simp [frz] at e
  | succ f ih =>
    intro n a d ha e
    simp only [frz] at e
    split at e
    · cases e
    · rename_i hn
      obtain ⟨h1, h2⟩ := hk n a ha hn
      cases eo : hc[n]? with
      | none => rw [eo] at e; cases e
      | some o =>
        rw [eo] at e
        have q := S.obj n o a eo ha
        cases o <;> dsimp only at e <;> first | (cases e; done) | skip
        · simp only [Option.map_eq_some_iff] at e
          obtain ⟨xs, e1, rfl⟩ := e
          cases q with | lst q t => exact .lst h1 h2 q (mapAll_ok hz ih t e1)
        · simp only [Option.map_eq_some_iff] at e
          obtain ⟨xs, e1, rfl⟩ := e
          cases q with | dct q t => exact .dct h1 h2 (Rd.of q) (mapK_ok hz ih t e1)
        · simp only [Option.map_eq_some_iff] at e
          obtain ⟨xs, e1, rfl⟩ := e
          cases q with | ins q t => exact .obj h1 h2 q (mapF_ok hz ih t e1)
theorem frzO_ok {hc : Hh} {k : Nat} (S : Sim W Z' ρ1 hc H) (hz : ∀ a, a ∉ Z' → a ∉ ρ1 → a ∉ Z ∧ a ∉ ρ) (hk : ∀ n a, ρ1[n]? = some a → ¬ n < k → a ∉ Z ∧ a ∉ ρ) {a : Addr} {o o' : O} (r : OR W Z' ρ1 H a o) (e : frzO hc k o = some o') : OR W Z ρ H a o' := by
  cases r with
  | lst q t =>
    simp only [frzO, Option.map_eq_some_iff] at e
    obtain ⟨xs, e1, rfl⟩ := e
    exact .lst q (mapAll_ok hz (frz_ok S hz hk 4) t e1)
  | ro q t =>
    simp only [frzO, Option.map_eq_some_iff] at e
    obtain ⟨xs, e1, rfl⟩ := e
    exact .ro q (mapAll_ok hz (frz_ok S hz hk 4) t e1)
  | dct q t =>
    simp only [frzO, Option.map_eq_some_iff] at e
    obtain ⟨xs, e1, rfl⟩ := e
    exact .dct q (mapK_ok hz (frz_ok S hz hk 4) t e1)
  | ins q t =>
    simp only [frzO, Option.map_eq_some_iff] at e
    obtain ⟨xs, e1, rfl⟩ := e
    exact .ins q (mapF_ok hz (frz_ok S hz hk 4) t e1)
theorem giveBack_ok {hc : Hh} {k : Nat} : ∀ {ns : List Nat} {i : Nat} {h h2 : Hh}, giveBack hc k ns i h = some h2 →
    (∀ (m : Nat) (o : O) (a : Addr), m ∉ ns → h[m]? = some o → ρ[m]? = some a → OR W Z ρ H a o) →
    (∀ (j n : Nat) (o o' : O) (a : Addr), ns[j]? = some n → hc[i + j]? = some o → ρ[n]? = some a → frzO hc k o = some o' → OR W Z ρ H a o') →
    h2.length = h.length ∧ ∀ (m : Nat) (o : O) (a : Addr), h2[m]? = some o → ρ[m]? = some a → OR W Z ρ H a o := by
  intro ns
  induction ns with
  | nil =>
    intro i h h2 e h1 _
    simp only [giveBack, Option.some.injEq] at e
    subst e
    exact ⟨rfl, fun m o a => h1 m o a (by simp)⟩
  | cons n ns ih =>
    intro i h h2 e h1 h2'
    simp only [giveBack] at e
    cases eo : hc[i]? with
    | none => rw [eo] at e; cases e
    | some o =>
      rw [eo] at e
      simp only [Option.bind_eq_some_iff] at e
      obtain ⟨o1, e1, e2⟩ := e
      have key : ∀ (m : Nat) (u : O) (a : Addr), m ∉ ns → (h.set n o1)[m]? = some u → ρ[m]? = some a → OR W Z ρ H a u := by
        intro m u a hm hu ha
        by_cases hmn : n = m
        · subst hmn
          have hl : n < h.length := by
            have := (List.getElem?_eq_some_iff.mp hu).1
            simpa using this
          rw [List.getElem?_set_self hl] at hu
          cases hu
          exact h2' 0 n o o1 a rfl (by simpa using eo) ha e1
        · rw [List.getElem?_set_ne hmn] at hu
          exact h1 m u a (fun z => (List.mem_cons.mp z).elim (fun e => hmn e.symm) hm) hu ha
      have key2 : ∀ (j m : Nat) (u u' : O) (a : Addr), ns[j]? = some m → hc[i + 1 + j]? = some u → ρ[m]? = some a → frzO hc k u = some u' → OR W Z ρ H a u' := by
        intro j m u u' a hj hu ha hf
        have e3 : i + (j + 1) = i + 1 + j := by omega
        exact h2' (j + 1) m u u' a (by simpa using hj) (by rw [e3]; exact hu) ha hf
      obtain ⟨l, q⟩ := ih e2 key key2
      exact ⟨by rw [l, List.length_set], q⟩
end
end Fw
end
section
set_option Elab.async false
set_option linter.all false
set_option maxRecDepth 100000
set_option autoImplicit false
set_option maxHeartbeats 1000000
/-! Fw8: a def of its own heap. -/
namespace Fw
open PySem PySem.Spec PyProof.Rows L2
theorem OR.keep {W : Wd} {Z ρ : List Addr} {H H1 : Hp} {a : Addr} {o : O} (x : Ext ρ H ρ H1) (hk : ∀ u, H a = some u → H1 a = some u) (r : OR W Z ρ H a o) : OR W Z ρ H1 a o := by
  cases r with
  | lst q t => exact .lst (hk _ q) (t.mono x)
  | ro q t => exact .ro (q.elim (fun q => .inl (hk _ q)) fun ⟨o, q⟩ => .inr ⟨o, hk _ q⟩) (t.mono x)
  | dct q t => exact .dct (hk _ q) (t.mono x)
  | ins q t => exact .ins (hk _ q) (t.mono x)
theorem OR.notXd {W : Wd} {Z ρ : List Addr} {H : Hp} {a : Addr} {o : O} {fs : List (Str × V)} (r : OR W Z ρ H a o) (e : H a = some (.xd fs)) : False := by
  cases r with
  | lst q t => rw [e] at q; cases q
  | ro q t =>
    rcases q with q | ⟨_, q⟩
    · rw [e] at q; cases q
    · rw [e] at q; cases q
  | dct q t => rw [e] at q; cases q
  | ins q t => rw [e] at q; cases q
/-- a callee that was lent things: what it tells, told to the caller -/
theorem lent_ok {W : Wd} {Z ρ : List Addr} {H : Hp} {h : Hh} {ds : List D} {vs : List V} {ds' : List D} {ns : List Nat} {hc : Hh} (S : Sim W Z ρ h H) (r : RDs W Z ρ H ds vs) (e : lent ds h = some (ds', ns, hc)) :
    ∃ (Z' as : List Addr), as.length = ns.length ∧ Sim W Z' as hc H ∧ RDs W Z' as H ds' vs ∧ (∀ a, H a = none → a ∉ as) ∧
      ∀ (ρ1 : List Addr) (H1 : Hp) (h1 : Hh), Ext as H ρ1 H1 → Sim W Z' ρ1 h1 H1 →
        (∀ h2, giveBack h1 ns.length ns 0 h = some h2 → Ext ρ H ρ H1 ∧ Sim W Z ρ h2 H1) ∧
        (∀ d v d', RD W Z' ρ1 H1 d v → tell h1 ns d = some d' → RD W Z ρ H1 d' v) ∧
        (∀ x x' cls dd, RX W Z' ρ1 H1 x cls dd → tellX h1 ns x = some x' → RX W Z ρ H1 x' cls dd) := by
  unfold lent at e
  split at e
  · cases e
  · rename_i ds0 ns0 el
    split at e
    · rename_i nd
      split at e
      · cases e
      · rename_i hc0 eo
        simp only [Option.some.injEq, Prod.mk.injEq] at e
        obtain ⟨rfl, rfl, rfl⟩ := e
        obtain ⟨hl, ho⟩ := lentO_ok eo
        -- the addresses
        have mk : ∀ as : List Addr, Paired (At ρ) ns0 as → ∀ a ∈ as, a ∈ ρ := fun as pa a ha => by
          obtain ⟨n, _, q⟩ := paired_mem pa a ha
          exact List.mem_of_getElem? q
        obtain ⟨as0, pa0, _⟩ := lend_ok (Z' := []) (fun z hz => absurd hz (by simp)) r el
        let Z' : List Addr := Z ++ ρ.filter fun a => decide (a ∉ as0)
        have hZ' : ∀ z ∈ Z', z ∈ Z ∨ z ∈ ρ := fun z hz => by
          rcases List.mem_append.mp hz with q | q
          · exact .inl q
          · exact .inr (List.mem_filter.mp q).1
        obtain ⟨as, pa, f⟩ := lend_ok (Z' := Z') hZ' r el
        have eas : as0 = as := by
          refine List.ext_getElem? fun i => ?_
          cases hi : ns0[i]? with
          | none =>
            have h1 : ns0.length ≤ i := List.getElem?_eq_none_iff.mp hi
            rw [List.getElem?_eq_none (by rw [← paired_len pa0]; exact h1), List.getElem?_eq_none (by rw [← paired_len pa]; exact h1)]
          | some n =>
            obtain ⟨a, e1, e2⟩ := paired_at pa0 i n hi
            obtain ⟨b, f1, f2⟩ := paired_at pa i n hi
            rw [e2] at f2
            cases f2
            rw [e1, f1]
        subst eas
        have sub := mk as0 pa
        have ndA : as0.Nodup := paired_nodup S.nd pa nd
        have lenA := paired_len pa
        have inZ : ∀ a, a ∈ ρ → a ∉ as0 → a ∈ Z' := fun a h1 h2 => List.mem_append.mpr (.inr (List.mem_filter.mpr ⟨h1, by simp [h2]⟩))
        have there : ∀ a ∈ ρ, ∃ u, H a = some u := fun a ha => by
          obtain ⟨i, hi⟩ := List.mem_iff_getElem?.mp ha
          have hl : i < h.length := by rw [← S.len]; exact (List.getElem?_eq_some_iff.mp hi).1
          exact (S.obj i h[i] a (by simp [hl]) hi).there
        refine ⟨Z', as0, lenA.symm, ⟨by rw [← lenA, hl], ndA, fun z hz => ?_, fun i o a e1 e2 => ?_⟩, f as0 (fun i a q => by simpa using q) sub, fun a ha hm => ?_, fun ρ1 H1 h1 x S1 => ?_⟩
        · rcases List.mem_append.mp hz with q | q
          · obtain ⟨q1, q2⟩ := S.dis z q
            exact ⟨fun m => q1 (sub z m), q2⟩
          · obtain ⟨q1, q2⟩ := List.mem_filter.mp q
            exact ⟨by simpa using q2, there z q1⟩
        · obtain ⟨n, en, eh, cl⟩ := ho i o e1
          obtain ⟨b, eb, er⟩ := paired_at pa i n en
          rw [eb] at e2
          have hba : b = a := Option.some.inj e2
          rw [hba] at er
          exact (S.obj n o a eh er).closed hZ' sub cl
        · obtain ⟨u, q⟩ := there a (sub a hm)
          rw [ha] at q; cases q
        · have X1 : Ext ρ H ρ H1 := ⟨List.prefix_rfl, fun a o hr e => ⟨hr, (x.keep a o (fun m => hr (sub a m)) e).2⟩⟩
          have a1 : ∀ a ∈ as0, a ∈ ρ1 := fun a ha => x.pre.subset ha
          have hz : ∀ a, a ∉ Z' → a ∉ ρ1 → a ∉ Z ∧ a ∉ ρ := fun a n1 n2 => ⟨fun m => n1 (List.mem_append.mpr (.inl m)), fun m => by
            by_cases hm : a ∈ as0
            · exact n2 (a1 a hm)
            · exact n1 (inZ a m hm)⟩
          have hk : ∀ n a, ρ1[n]? = some a → ¬ n < ns0.length → a ∉ Z ∧ a ∉ ρ := fun n a en hn => by
            have hm : a ∈ ρ1 := List.mem_of_getElem? en
            have hZn : a ∉ Z' := fun q => (S1.dis a q).1 hm
            refine ⟨fun m => hZn (List.mem_append.mpr (.inl m)), fun m => ?_⟩
            by_cases hma : a ∈ as0
            · obtain ⟨j, hj⟩ := List.mem_iff_getElem?.mp hma
              have := nodup_inj S1.nd en (pre_get x.pre hj)
              have hjl := (List.getElem?_eq_some_iff.mp hj).1
              omega
            · exact hZn (inZ a m hma)
          have tel : ∀ d v d', RD W Z' ρ1 H1 d v → tell h1 ns0 d = some d' → RD W Z ρ H1 d' v := by
            intro d v d' rd ed
            by_cases hd : ∃ n, d = .ref n
            · obtain ⟨n, rfl⟩ := hd
              cases rd with
              | @ref a _ ra =>
                simp only [tell] at ed
                cases en : ns0[n]? with
                | some m =>
                  rw [en] at ed
                  cases ed
                  obtain ⟨b, eb, er⟩ := paired_at pa n m en
                  have := pre_get x.pre eb
                  rw [ra] at this
                  cases this
                  exact .ref er
                | none =>
                  rw [en] at ed
                  exact frz_ok S1 hz hk 4 n a d' ra ed
            · have ed' : d.map_ (frz h1 ns0.length 4) = some d' := by
                rw [← ed]
                cases d <;> first | rfl | exact absurd ⟨_, rfl⟩ hd
              exact map_ok hz (frz_ok S1 hz hk 4) rd ed'
          refine ⟨fun h2 e2 => ⟨X1, ?_⟩, tel, fun ex ex' cls dd rx ee => ?_⟩
          · have k1 : ∀ (m : Nat) (o : O) (a : Addr), m ∉ ns0 → h[m]? = some o → ρ[m]? = some a → OR W Z ρ H1 a o := by
              intro m o a hm ho' ha
              refine (S.obj m o a ho' ha).keep X1 fun u eu => (x.keep a u (fun hma => ?_) eu).2
              obtain ⟨n, hn, en⟩ := paired_mem pa a hma
              exact hm (nodup_inj S.nd ha en ▸ hn)
            have k2 : ∀ (j n : Nat) (o o' : O) (a : Addr), ns0[j]? = some n → h1[0 + j]? = some o → ρ[n]? = some a → frzO h1 ns0.length o = some o' → OR W Z ρ H1 a o' := by
              intro j n o o' a hj ho' ha hf
              obtain ⟨b, eb, er⟩ := paired_at pa j n hj
              rw [ha] at er
              have hab : a = b := Option.some.inj er
              rw [← hab] at eb
              exact frzO_ok S1 hz hk (S1.obj j o a (by simpa using ho') (pre_get x.pre eb)) hf
            obtain ⟨q1, q2⟩ := giveBack_ok (W := W) (Z := Z) (ρ := ρ) (H := H1) e2 k1 k2
            exact ⟨by rw [q1]; exact S.len, S.nd, fun z hz => ⟨(S.dis z hz).1, (S1.dis z (List.mem_append.mpr (.inl hz))).2⟩, q2⟩
          · have r2 := rx.2
            unfold tellX at ee
            cases hf : ex.fld with
            | none =>
              rw [hf] at ee r2
              cases ee
              exact ⟨rx.1, r2⟩
            | some d =>
              rw [hf] at ee r2
              simp only [Option.map_eq_some_iff] at ee
              obtain ⟨d', e1, rfl⟩ := ee
              obtain ⟨a, fn, v, f1, f2, f3, f4⟩ := r2
              refine ⟨rx.1, a, fn, v, f1, f2, fun m => ?_, tel d v d' f4 e1⟩
              by_cases hma : a ∈ as0
              · exact f3 (a1 a hma)
              · obtain ⟨i, hi⟩ := List.mem_iff_getElem?.mp m
                have hl : i < h.length := by rw [← S.len]; exact (List.getElem?_eq_some_iff.mp hi).1
                have q := (S.obj i h[i] a (by simp [hl]) hi).keep X1 (fun u eu => (x.keep a u hma eu).2)
                exact q.notXd f2
    · cases e
end Fw
end
section
set_option Elab.async false
set_option linter.all false
set_option maxRecDepth 100000
set_option autoImplicit false
set_option maxHeartbeats 1000000
/-! Fw9: calls. -/
namespace Fw
open PySem PySem.Spec PyProof.Rows L2
/-- what a def promises: r -/
def spF (W : Wd) (r : List D → Hh → R D) : Sp := fun vs H Q E => ∃ Z ρ h ds, Sim W Z ρ h H ∧ RDs W Z ρ H ds vs ∧ Post W Z ρ H (r ds h) (fun d ρ' _ H' => ∀ v, RD W Z ρ' H' d v → Q v H') E
/-- .. of an __init__ : the new thing ahead -/
def spM (W : Wd) (c : Nat) (r : List D → Hh → R D) : Sp := fun vs H Q E => ∃ x dx us H0, vs = .ref x :: us ∧ H0 x = none ∧ H0 dx = none ∧ dx ≠ x ∧ H = upd (upd H0 dx (.own x)) x (.ins (W.ca c) dx []) ∧
  ∃ Z ρ h ds, Sim W Z ρ h H0 ∧ RDs W Z ρ H0 ds us ∧ Post W Z ρ H0 (r ds h) (fun d ρ' _ H' => RD W Z ρ' H' d (.ref x) → Q .non H') E
section
variable {W : Wd} {Z ρ : List Addr} {H : Hp}
theorem rsg_start {N : List Str} {ds : List D} {vs : List V} (r : RDs W Z ρ H ds vs) : RSg W Z ρ H (startD N.length ds) (L2.start N vs) where
  len := by simp [startD, L2.start, r.length]
  at_ := fun i d e => by
    unfold startD at e
    by_cases hi : i < (ds.map some).length
    · rw [List.getElem?_append_left hi, List.getElem?_map] at e
      cases ed : ds[i]? with
      | none => rw [ed] at e; cases e
      | some d' =>
        rw [ed] at e
        cases e
        obtain ⟨v, ev, rv⟩ := r.get ed
        refine ⟨v, ?_, rv⟩
        unfold L2.start
        rw [List.getElem?_append_left (by simpa [← r.length] using hi), List.getElem?_map, ev]
        rfl
    · rw [List.getElem?_append_right (by omega)] at e
      have := List.mem_of_getElem? e
      simp at this
/-- a body's end, told to the caller -/
theorem back_post {Z' as : List Addr} {ns : List Nat} {h : Hh} {r : SR} {Q : VK} {E : XK}
    (f : ∀ (ρ1 : List Addr) (H1 : Hp) (h1 : Hh), Ext as H ρ1 H1 → Sim W Z' ρ1 h1 H1 →
        (∀ h2, giveBack h1 ns.length ns 0 h = some h2 → Ext ρ H ρ H1 ∧ Sim W Z ρ h2 H1) ∧
        (∀ d v d', RD W Z' ρ1 H1 d v → tell h1 ns d = some d' → RD W Z ρ H1 d' v) ∧
        (∀ x x' cls dd, RX W Z' ρ1 H1 x cls dd → tellX h1 ns x = some x' → RX W Z ρ H1 x' cls dd))
    (p : Post W Z ρ H (back ns h r) (fun d ρ' _ H' => ∀ v, RD W Z ρ' H' d v → Q v H') E) :
    PostS W Z' as H r { nx := fun _ H' => Q .non H', rt := Q } (fun cls d _ H => E cls d H) := by
  cases r with
  | nx σ h1 =>
    intro ρ1 H1 σ' x S1 _
    obtain ⟨f1, f2, f3⟩ := f ρ1 H1 h1 x S1
    simp only [back] at p
    cases hg : giveBack h1 ns.length ns 0 h with
    | none => rw [hg] at p; exact p.elim
    | some h2 =>
      rw [hg] at p
      obtain ⟨x2, S2⟩ := f1 h2 hg
      exact p ρ H1 x2 S2 .non .non
  | rt d h1 =>
    intro ρ1 H1 v x S1 rv
    obtain ⟨f1, f2, f3⟩ := f ρ1 H1 h1 x S1
    simp only [back] at p
    cases ht : tell h1 ns d with
    | none => rw [ht] at p; exact p.elim
    | some d' =>
      cases hg : giveBack h1 ns.length ns 0 h with
      | none => rw [ht, hg] at p; exact p.elim
      | some h2 =>
        rw [ht, hg] at p
        obtain ⟨x2, S2⟩ := f1 h2 hg
        exact p ρ H1 x2 S2 v (f2 d v d' rv ht)
  | xn e σ h1 =>
    intro ρ1 H1 σ' cls dd x S1 _ rx
    obtain ⟨f1, f2, f3⟩ := f ρ1 H1 h1 x S1
    simp only [back] at p
    cases ht : tellX h1 ns e with
    | none => rw [ht] at p; exact p.elim
    | some d' =>
      cases hg : giveBack h1 ns.length ns 0 h with
      | none => rw [ht, hg] at p; exact p.elim
      | some h2 =>
        rw [ht, hg] at p
        obtain ⟨x2, S2⟩ := f1 h2 hg
        exact p ρ H1 cls dd x2 S2 (f3 e d' cls dd rx ht)
  | bk σ h1 => exact p.elim
  | ct σ h1 => exact p.elim
  | bad => exact p.elim
theorem mkBack_post {Z' as : List Addr} {ns : List Nat} {h : Hh} {r : SR} {Q : VK} {E : XK} {x : Addr} {H0 : Hp} (hx : as[ns.length]? = some x)
    (f : ∀ (ρ1 : List Addr) (H1 : Hp) (h1 : Hh), Ext as H ρ1 H1 → Sim W Z' ρ1 h1 H1 →
        (∀ h2, giveBack h1 ns.length ns 0 h = some h2 → Ext ρ H0 ρ H1 ∧ Sim W Z ρ h2 H1) ∧
        (∀ d v d', RD W Z' ρ1 H1 d v → tell h1 ns d = some d' → RD W Z ρ H1 d' v) ∧
        (∀ x x' cls dd, RX W Z' ρ1 H1 x cls dd → tellX h1 ns x = some x' → RX W Z ρ H1 x' cls dd))
    (p : Post W Z ρ H0 (mkBack ns h r) (fun d ρ' _ H' => RD W Z ρ' H' d (.ref x) → Q .non H') E) :
    PostS W Z' as H r { nx := fun _ H' => Q .non H', rt := Q } (fun cls d _ H => E cls d H) := by
  cases r with
  | nx σ h1 =>
    intro ρ1 H1 σ' y S1 _
    obtain ⟨f1, f2, f3⟩ := f ρ1 H1 h1 y S1
    simp only [mkBack, back] at p
    cases ht : tell h1 ns (.ref ns.length) with
    | none => rw [ht] at p; exact p.elim
    | some d' =>
      cases hg : giveBack h1 ns.length ns 0 h with
      | none => rw [ht, hg] at p; exact p.elim
      | some h2 =>
        rw [ht, hg] at p
        obtain ⟨x2, S2⟩ := f1 h2 hg
        exact p ρ H1 x2 S2 (f2 _ _ d' (.ref (pre_get y.pre hx)) ht)
  | rt d h1 =>
    intro ρ1 H1 v y S1 rv
    obtain ⟨f1, f2, f3⟩ := f ρ1 H1 h1 y S1
    cases d <;> first | (exact p.elim) | skip
    cases rv
    simp only [mkBack, back] at p
    cases ht : tell h1 ns (.ref ns.length) with
    | none => rw [ht] at p; exact p.elim
    | some d' =>
      cases hg : giveBack h1 ns.length ns 0 h with
      | none => rw [ht, hg] at p; exact p.elim
      | some h2 =>
        rw [ht, hg] at p
        obtain ⟨x2, S2⟩ := f1 h2 hg
        exact p ρ H1 x2 S2 (f2 _ _ d' (.ref (pre_get y.pre hx)) ht)
  | xn e σ h1 =>
    intro ρ1 H1 σ' cls dd y S1 _ rx
    obtain ⟨f1, f2, f3⟩ := f ρ1 H1 h1 y S1
    simp only [mkBack, back] at p
    cases ht : tellX h1 ns e with
    | none => rw [ht] at p; exact p.elim
    | some d' =>
      cases hg : giveBack h1 ns.length ns 0 h with
      | none => rw [ht, hg] at p; exact p.elim
      | some h2 =>
        rw [ht, hg] at p
        obtain ⟨x2, S2⟩ := f1 h2 hg
        exact p ρ H1 cls dd x2 S2 (f3 e d' cls dd rx ht)
  | bk σ h1 => exact p.elim
  | ct σ h1 => exact p.elim
  | bad => exact p.elim
theorem own_len {N : List Str} {sm : SM} {n : Nat} {vs : List V} {Q : VK} {E : XK} (p : spF W (own n N.length sm) vs H Q E) : vs.length = n := by
  obtain ⟨Z, ρ, h, ds, S, r, p⟩ := p
  unfold own at p
  split at p
  · rename_i hl; rw [← r.length]; exact hl
  · exact p.elim
theorem make_len {N : List Str} {sm : SM} {n c : Nat} {vs : List V} {Q : VK} {E : XK} (p : spM W c (make c n N.length sm) vs H Q E) : vs.length = n := by
  obtain ⟨x, dx, us, H0, rfl, _, _, _, _, Z, ρ, h, ds, S, r, p⟩ := p
  unfold make at p
  split at p
  · rename_i hl; rw [← hl, r.length]; rfl
  · exact p.elim
theorem full_len {N : List Str} {sm : SM} {n : Nat} {vs : List V} {Q : VK} {E : XK} (p : spF W (full n N.length sm) vs H Q E) : vs.length = n := by
  obtain ⟨Z, ρ, h, ds, S, r, p⟩ := p
  unfold full at p
  split at p
  · rename_i hl; rw [← r.length]; exact hl
  · exact p.elim
theorem own_read {N : List Str} {sm : SM} {n : Nat} {vs : List V} {Q : VK} {E : XK} (p : spF W (own n N.length sm) vs H Q E) :
    tS W (fun cls d _ H => E cls d H) sm { nx := fun _ H' => Q .non H', rt := Q } (L2.start N vs) H := by
  obtain ⟨Z, ρ, h, ds, S, r, p⟩ := p
  unfold own at p
  split at p
  case isFalse => exact p.elim
  cases hl : lent ds h with
  | none => rw [hl] at p; exact p.elim
  | some q =>
    obtain ⟨ds', ns, hc⟩ := q
    rw [hl] at p
    obtain ⟨Z', as, la, S', r', _, f⟩ := lent_ok S r hl
    exact ⟨Z', as, startD N.length ds', hc, S', rsg_start r', back_post f p⟩
theorem make_read {N : List Str} {sm : SM} {n c : Nat} {vs : List V} {Q : VK} {E : XK} (p : spM W c (make c n N.length sm) vs H Q E) :
    tS W (fun cls d _ H => E cls d H) sm { nx := fun _ H' => Q .non H', rt := Q } (L2.start N vs) H := by
  obtain ⟨x, dx, us, H0, rfl, hx, hdx, hne, rfl, Z, ρ, h, ds, S, r, p⟩ := p
  unfold make at p
  split at p
  case isFalse => exact p.elim
  cases hl : lent ds h with
  | none => rw [hl] at p; exact p.elim
  | some q =>
    obtain ⟨ds', ns, hc⟩ := q
    rw [hl] at p
    obtain ⟨Z', as, la, S', r', nn, f⟩ := lent_ok S r hl
    have n1 : upd H0 dx (.own x) x = none := by rw [upd_ne (Ne.symm hne)]; exact hx
    have S1 : Sim W Z' as hc (upd H0 dx (.own x)) := S'.laid hdx
    have x1 : Ext as H0 as (upd H0 dx (.own x)) := Ext.laid hdx
    have x2 : Ext as (upd H0 dx (.own x)) (as ++ [x]) (upd (upd H0 dx (.own x)) x (.ins (W.ca c) dx [])) := Ext.own n1
    have S2 := S1.own (o := .ins (W.ca c) dx []) (ob := .ins c []) n1 (.ins upd_same .nil)
    refine ⟨Z', as ++ [x], startD N.length (.ref ns.length :: ds'), hc ++ [.ins c []], S2, rsg_start (.cons (.ref (by rw [← la]; simp)) ((r'.mono x1).mono x2)), ?_⟩
    have xx := x1.trans x2
    exact mkBack_post (Z := Z) (ρ := ρ) (H0 := H0) (by rw [← la]; simp) (fun ρ1 H1 h1 y Sy => f ρ1 H1 h1 (xx.trans y) Sy) p
end
/-! ### defs -/
section
variable {P : Program} {w : World} {K : PySem.W.Frag} {mg : Str → Option Value} {base : Heap} {x qual : Str} {params : Arguments} {body : List Stmt} {scope : Scope} {dvs : List V} {kws : List (Str × V)} {f : Addr} {fd : FuncData} {N ps : List Str} {k : Nat} {W : Wd} {sm : SM}
theorem js_of {cdv : Value} {A : Around} {outer : List Env} {s : Shared} {H : Hp} {E : XK} (hK : K = W.K) (hN : N.Nodup) (r : Room k (A.deeper (envOfC qual scope s.heap.objs.size f cdv))) :
    Js (cxOf (L2.CX P w) P w K mg base N qual scope f cdv A outer s H E) W (fun cls d _ H => E cls d H) where
  hK := hK
  hu := r.units
  tk := takes_of rfl rfl rfl rfl
  hN := hN
  hc := rfl
  hp := passes_of rfl
theorem fn_own (F : FunD K x qual params body scope dvs kws f fd) (S : FnScope N ps scope) (hK : K = W.K)
    (hb : ∀ (cdv : Value) (A : Around) (outer : List Env) (s : Shared) (H : Hp) (E : XK), Room k (A.deeper (envOfC qual scope s.heap.objs.size f cdv)) →
      SsJ (cxOf (L2.CX P w) P w K mg base N qual scope f cdv A outer s H E) W (fun cls d _ H => E cls d H) body sm) :
    FnOk P w K mg base (L2.CX P w) (k + 1) f fd ps (spF W (own ps.length N.length sm)) :=
  F.ok S (fun vs H Q E p => own_len p) fun cdv A outer s H vs Q E r p => ⟨_, hb cdv A outer s H E r, own_read p⟩
theorem fn_make {c : Nat} (F : FunD K x qual params body scope dvs kws f fd) (S : FnScope N ps scope) (hK : K = W.K)
    (hb : ∀ (cdv : Value) (A : Around) (outer : List Env) (s : Shared) (H : Hp) (E : XK), Room k (A.deeper (envOfC qual scope s.heap.objs.size f cdv)) →
      SsJ (cxOf (L2.CX P w) P w K mg base N qual scope f cdv A outer s H E) W (fun cls d _ H => E cls d H) body sm) :
    FnOk P w K mg base (L2.CX P w) (k + 1) f fd ps (spM W c (make c ps.length N.length sm)) :=
  F.ok S (fun vs H Q E p => make_len p) fun cdv A outer s H vs Q E r p => ⟨_, hb cdv A outer s H E r, make_read p⟩
/-- a def that works in the caller's heap -/
theorem full_read {n : Nat} {vs : List V} {H : Hp} {Q : VK} {E : XK} (p : spF W (full n N.length sm) vs H Q E) :
    tS W (fun cls d _ H => E cls d H) sm { nx := fun _ H' => Q .non H', rt := Q } (L2.start N vs) H := by
  obtain ⟨Z, ρ, h, ds, S, r, p⟩ := p
  refine ⟨Z, ρ, startD N.length ds, h, S, rsg_start r, ?_⟩
  unfold full at p
  split at p
  case isFalse => exact p.elim
  cases hs : sm (startD N.length ds) h with
  | nx σ h1 => rw [hs] at p; exact fun ρ' H' σ' x S' _ => p ρ' H' x S' .non .non
  | rt d h1 => rw [hs] at p; exact fun ρ' H' v x S' rv => p ρ' H' x S' v rv
  | xn e σ h1 => rw [hs] at p; exact fun ρ' H' σ' cls dd x S' _ rx => p ρ' H' cls dd x S' rx
  | bk σ h1 => rw [hs] at p; exact p.elim
  | ct σ h1 => rw [hs] at p; exact p.elim
  | bad => rw [hs] at p; exact p.elim
theorem fn_full (F : FunD K x qual params body scope dvs kws f fd) (S : FnScope N ps scope) (hK : K = W.K)
    (hb : ∀ (cdv : Value) (A : Around) (outer : List Env) (s : Shared) (H : Hp) (E : XK), Room k (A.deeper (envOfC qual scope s.heap.objs.size f cdv)) →
      SsJ (cxOf (L2.CX P w) P w K mg base N qual scope f cdv A outer s H E) W (fun cls d _ H => E cls d H) body sm) :
    FnOk P w K mg base (L2.CX P w) (k + 1) f fd ps (spF W (full ps.length N.length sm)) :=
  F.ok S (fun vs H Q E p => full_len p) fun cdv A outer s H vs Q E r p => ⟨_, hb cdv A outer s H E r, full_read p⟩
end
/-! ### the callee runs, at these slots -/
section
variable {X : Cx} {k : Nat} {f C : Addr} {fd : FuncData} {ps : List Str} {sp : Sp} {E : XK}
theorem run_at {pins : List (Addr × Obj)} {σ : L2.St} {H : Hp} {s : Shared} {Q : VK} {us : List Value} {kw : List (Str × Value)} {all : List Value} {vs : List V} (F : FnOk X.prog X.w X.K X.mg X.base (L2.CX X.prog X.w) k f fd ps sp) (hr : Room k X.A)
    (hx : PassesAt (L2.CX X.prog X.w) X σ E) (I : Inv X pins σ H s) (hb : BindsTo s fd ⟨us, kw⟩ (ps.zip all)) (r : Vals vs all) (h : sp vs H Q E) : wpAny (model X.prog X.w) X.A (call (.ref f) us kw) (EP X pins σ Q) X.xe s := by
  refine wpAny_call (codeAny_mono (F.run X.A X.stack s H ⟨us, kw⟩ all vs Q E hr I.env0 hb r h) fun r s' hq => ?_)
  cases r with
  | error e => exact hx pins H s e s' I hq
  | ok fl =>
    cases fl with
    | ret u => exact I.after hq
    | next => exact False.elim hq
    | brk => exact False.elim hq
    | cont => exact False.elim hq
theorem make_at {pins : List (Addr × Obj)} {σ : L2.St} {H : Hp} {s : Shared} {Q : VK} {us : List Value} {kw : List (Str × Value)} {all : List Value} {vs : List V} (M : Mk X.K C f) (F : FnOk X.prog X.w X.K X.mg X.base (L2.CX X.prog X.w) k f fd ps sp) (hr : Room (k + 1) X.A)
    (hx : PassesAt (L2.CX X.prog X.w) X σ E) (I : Inv X pins σ H s) (hb : ∀ (s : Shared) (v : Value), X.K.In s.heap → BindsTo s fd ⟨v :: us, kw⟩ (ps.zip (v :: all))) (r : Vals vs all)
    (h : ∀ x dx, H x = none → H dx = none → dx ≠ x → sp (.ref x :: vs) (upd (upd H dx (.own x)) x (.ins C dx [])) (fun v H2 => v = .non ∧ Q (.ref x) H2) E) :
    wpAny (model X.prog X.w) X.A (call (.ref C) us kw) (EP X pins σ Q) X.xe s := by
  have hq := h (s.heap.objs.size + 1) s.heap.objs.size (I.hok.fresh (Nat.le_succ _)) (I.hok.fresh (Nat.le_refl _)) (Nat.ne_of_lt (Nat.lt_succ_self _))
  have I2 := Inv.made (C := C) I
  refine wpAny_call (make_map (f := f) I.kIn M.makes M.init (beq_iff_eq.mp M.fn) (codeAny_mono (F.run _ X.stack _ _ ⟨Value.ref (s.heap.objs.size + 1) :: us, kw⟩ (Value.ref (s.heap.objs.size + 1) :: all) _ _ E (hr.make C us kw)
    (I2.env0.make C us kw) (hb _ _ I2.kIn) (Paired.cons (show RelV (.ref (s.heap.objs.size + 1)) (Value.ref (s.heap.objs.size + 1)) from rfl) r) hq) fun r s' hq' => ?_))
  cases r with
  | error e => exact hx pins _ _ e s' I2 hq'
  | ok fl =>
    cases fl with
    | ret u =>
      obtain ⟨v, H', I3, rv, ev, q3⟩ := I2.after hq'
      subst ev
      exact ⟨rv, ⟨V.ref (s.heap.objs.size + 1), H', I3, rfl, q3⟩⟩
    | next => exact False.elim hq'
    | brk => exact False.elim hq'
    | cont => exact False.elim hq'
end
/-! ### calls, as expressions -/
section
variable {X : Cx} {W : Wd} {wx : WX} {k : Nat} {f C : Addr} {fd : FuncData} {ps : List Str} {r : List D → Hh → R D} {x : Str} {p pos : Pos} {e : Expr} {es : List Expr} {fs : AM} {dds : List D} {dvs : List V} {ds : List Value} {n : Nat}
/-- the defaults, by values -/
def Dfl (W : Wd) (dds : List D) (dvs : List V) : Prop := ∀ Z ρ H, RDs W Z ρ H dds dvs
theorem dfl_nil : Dfl W [] [] := fun _ _ _ => .nil
theorem ej_call (J : Jc X W wx) (F : FnOk X.prog X.w X.K X.mg X.base (L2.CX X.prog X.w) k f fd ps (spF W r)) (hr : Room k X.A) (hg : Gl X x) (hm : X.mg x = some (.ref f)) (hk : PySem.W.keepIn X.K (.ref f) = true) (hb : Binds X.K fd ps ds) (hd : Vals dvs ds) (hdd : Dfl W dds dvs)
    (ha : AJ X W wx (e :: es) fs) (hdb : (x == ("__debug__" : Str)) = false := by decide) (he : starEach (e :: es) X.env = (false, eval e X.env) :: starEach es X.env := by rfl) (hpl : (backTo pos (starEach es X.env)).any (·.1) = false := by rfl) :
    EJ X W wx (.Call (.Name x p) (e :: es) [] pos) (eCall (fun ds h => r (ds ++ dds) h) fs) := by
  refine ⟨fun pins s σ H Q I ⟨Z, ρ, σd, h0, S, rs, pp⟩ => ?_⟩
  refine wpAny_Call_Name_kw (ld_glob I hg hm ?_ hdb)
  refine PySem.W.callWith_K (h₀ := X.base) I.ok.mod.kin hk (thn (ha.run pos pins s σ H (fun vs H1 => spF W r (vs ++ dvs) H1 Q fun cls dd H => wx cls dd σ H) I ⟨Z, ρ, σd, h0, S, rs, (Post.bind pp).imp fun ds1 ρ1 h1 H1 x1 S1 p1 vs rvs => ?_⟩) fun us s1 ⟨vs, H1, I1, rv, q⟩ => ⟨I1.kIn, ?_⟩) he hpl
  · exact ⟨Z, ρ1, h1, ds1 ++ dds, S1, rvs.append (hdd Z ρ1 H1), p1⟩
  · have rv2 := rv.append hd
    exact run_at F hr (passAt J.tk σ) I1 (hb s1 us I1.kIn (by rw [← rv2.length]; exact F.len _ _ _ _ q)) rv2 q
theorem ej_call0 (J : Jc X W wx) (F : FnOk X.prog X.w X.K X.mg X.base (L2.CX X.prog X.w) k f fd ps (spF W r)) (hr : Room k X.A) (hg : Gl X x) (hm : X.mg x = some (.ref f)) (hk : PySem.W.keepIn X.K (.ref f) = true) (hb : Binds X.K fd ps ds) (hd : Vals dvs ds) (hdd : Dfl W dds dvs)
    (hdb : (x == ("__debug__" : Str)) = false := by decide) : EJ X W wx (.Call (.Name x p) [] [] pos) (eCall (fun ds h => r (ds ++ dds) h) aNil) := by
  refine ⟨fun pins s σ H Q I ⟨Z, ρ, σd, h0, S, rs, pp⟩ => ?_⟩
  refine wpAny_Call_Name_kw (ld_glob I hg hm ?_ hdb)
  have q : spF W r ([] ++ dvs) H Q fun cls dd H => wx cls dd σ H := ⟨Z, ρ, h0, [] ++ dds, S, RDs.append .nil (hdd Z ρ H), pp⟩
  exact PySem.W.callWith_K0 I.kIn hk (run_at F hr (passAt J.tk σ) I (hb s [] I.kIn (by have z := hd.length; have y := F.len _ _ _ _ q; simpa [z] using y)) (Vals.append .nil hd) q)
/-! ### methods -/
section
variable {m : Str} {apos : Pos} {o : Expr} {fo : TM} {cls : Nat}
theorem asObj_ok {Z ρ : List Addr} {h : Hh} {H : Hp} {d : D} {v : V} {c : Nat} {fs : List (Nat × D)} (S : Sim W Z ρ h H) (r : RD W Z ρ H d v) (e : asObj h d = some (c, fs)) : ∃ a dx gs, v = .ref a ∧ H a = some (.ins (W.ca c) dx gs) ∧ RFs W Z ρ H fs gs := by
  cases r <;> simp only [asObj] at e
  case obj a dx c' fs' gs z ra q t => cases e; exact ⟨_, _, _, rfl, q, t⟩
  case ref a n en =>
    cases eo : h[n]? with
    | none => rw [eo] at e; cases e
    | some o =>
      rw [eo] at e
      have q := S.obj n o a eo en
      cases o <;> dsimp only at e <;> cases e
      cases q with | ins q t => exact ⟨_, _, _, rfl, q, t⟩
  all_goals cases e
theorem rfs_none {Z ρ : List Addr} {H : Hp} {m : Str} (hm : ∀ k, W.an k ≠ m) : ∀ {fs : List (Nat × D)} {gs : List (Str × V)}, RFs W Z ρ H fs gs → gs.lookup m = none := by
  intro fs
  induction fs with
  | nil => intro gs r; cases r; rfl
  | cons q fs ih =>
    intro gs r
    cases r with
    | cons r t =>
      rw [List.lookup_cons, beq_eq_false_iff_ne.mpr fun e => hm _ e.symm]
      exact ih t
theorem ej_meth {pl : Sem Bool} (J : Jc X W wx) (ho : EJ X W wx o fo) (c : Cls X.K (W.ca cls)) (hm : Meth X.K (W.ca cls) m f) (hnm : ∀ k, W.an k ≠ m) (F : FnOk X.prog X.w X.K X.mg X.base (L2.CX X.prog X.w) k f fd ps (spF W r)) (hr : Room k X.A) (hb : Binds X.K fd ps ds) (hd : Vals dvs ds) (hdd : Dfl W dds dvs)
    (ha : AJ X W wx (e :: es) fs) (hst : starEach (e :: es) X.env = (false, eval e X.env) :: starEach es X.env := by rfl) (hpl : (backTo pos (starEach es X.env)).any (·.1) = false := by rfl)
    (ht : eval (.Call (.Attribute o m apos) (e :: es) [] pos) X.env = (do
      let ov ← eval o X.env
      standAt apos.atName
      let (f, first) ← holding [ov] (getMethod ov m pl)
      callWith pos f first (backTo pos (starEach (e :: es) X.env)) (backToKw pos (keywordEach [] X.env))) := by rfl) :
    EJ X W wx (.Call (.Attribute o m apos) (e :: es) [] pos) (eMeth (fun ds h => r (ds ++ dds) h) cls fo fs) := by
  refine ⟨fun pins s σ H Q I ⟨Z, ρ, σd, h0, S, rs, pp⟩ => ?_⟩
  refine PySem.W.methodCall_KW (pl := pl) (thn (ho.run pins s σ H (fun x H1 => ∃ a dx gs, x = .ref a ∧ H1 a = some (.ins (W.ca cls) dx gs) ∧ gs.lookup m = none ∧ tA W wx fs σ H1 fun vs H2 => spF W r (x :: (vs ++ dvs)) H2 Q fun cls dd H => wx cls dd σ H) I
    ⟨Z, ρ, σd, h0, S, rs, (Post.bind pp).imp fun d ρ1 h1 H1 x1 S1 p1 v rv => ?_⟩) fun u s1 ⟨x, H1, I1, rx, a, dx, gs, ex, ea, l, q⟩ => ?_) ht
  · cases ho : asObj h1 d with
    | none => rw [ho] at p1; exact p1.elim
    | some q =>
      obtain ⟨c1, fs1⟩ := q
      rw [ho] at p1
      dsimp only at p1
      split at p1
      · rename_i hc1
        subst hc1
        obtain ⟨a, dx, gs, e1, e2, e3⟩ := asObj_ok S1 rv ho
        exact ⟨a, dx, gs, e1, e2, rfs_none hnm e3, Z, ρ1, σd, h1, S1, rs.mono x1, (Post.bind p1).imp fun ds2 ρ2 h2 H2 x2 S2 p2 vs rvs =>
          ⟨Z, ρ2, h2, d :: (ds2 ++ dds), S2, .cons (rv.mono x2) (rvs.append (hdd Z ρ2 H2)), p2⟩⟩
      · exact p1.elim
  · subst ex
    obtain rfl : u = Value.ref a := rx
    refine getmeth_ok I1 ea c hm l ?_
    refine PySem.W.callWith_K (first := [.ref a]) (h₀ := X.base) I.ok.mod.kin hm.kp (thn (ha.run pos pins s1 σ H1 _ I1 q) fun us s2 ⟨vs, H2, I2, rv, q2⟩ => ⟨I2.kIn, ?_⟩) hst hpl
    have rv2 : Vals (V.ref a :: (vs ++ dvs)) (Value.ref a :: us ++ ds) := .cons rfl (rv.append hd)
    exact run_at F hr (passAt J.tk σ) I2 (hb s2 (Value.ref a :: us) I2.kIn (by rw [← rv2.length]; exact F.len _ _ _ _ q2)) rv2 q2
theorem ej_meth0 {pl : Sem Bool} (J : Jc X W wx) (ho : EJ X W wx o fo) (c : Cls X.K (W.ca cls)) (hm : Meth X.K (W.ca cls) m f) (hnm : ∀ k, W.an k ≠ m) (F : FnOk X.prog X.w X.K X.mg X.base (L2.CX X.prog X.w) k f fd ps (spF W r)) (hr : Room k X.A) (hb : Binds X.K fd ps ds) (hd : Vals dvs ds) (hdd : Dfl W dds dvs)
    (ht : eval (.Call (.Attribute o m apos) [] [] pos) X.env = (do
      let ov ← eval o X.env
      standAt apos.atName
      let (f, first) ← holding [ov] (getMethod ov m pl)
      callWith pos f first (backTo pos (starEach [] X.env)) (backToKw pos (keywordEach [] X.env))) := by rfl) :
    EJ X W wx (.Call (.Attribute o m apos) [] [] pos) (eMeth (fun ds h => r (ds ++ dds) h) cls fo aNil) := by
  refine ⟨fun pins s σ H Q I ⟨Z, ρ, σd, h0, S, rs, pp⟩ => ?_⟩
  refine PySem.W.methodCall_KW (pl := pl) (thn (ho.run pins s σ H (fun x H1 => ∃ a dx gs, x = .ref a ∧ H1 a = some (.ins (W.ca cls) dx gs) ∧ gs.lookup m = none ∧ spF W r (x :: ([] ++ dvs)) H1 Q fun cls dd H => wx cls dd σ H) I
    ⟨Z, ρ, σd, h0, S, rs, (Post.bind pp).imp fun d ρ1 h1 H1 x1 S1 p1 v rv => ?_⟩) fun u s1 ⟨x, H1, I1, rx, a, dx, gs, ex, ea, l, q⟩ => ?_) ht
  · cases ho : asObj h1 d with
    | none => rw [ho] at p1; exact p1.elim
    | some q =>
      obtain ⟨c1, fs1⟩ := q
      rw [ho] at p1
      dsimp only at p1
      split at p1
      · rename_i hc1
        subst hc1
        obtain ⟨a, dx, gs, e1, e2, e3⟩ := asObj_ok S1 rv ho
        exact ⟨a, dx, gs, e1, e2, rfs_none hnm e3, Z, ρ1, h1, d :: ([] ++ dds), S1, .cons rv (RDs.append .nil (hdd Z ρ1 H1)), p1⟩
      · exact p1.elim
  · subst ex
    obtain rfl : u = Value.ref a := rx
    refine getmeth_ok I1 ea c hm l ?_
    have rv2 : Vals (V.ref a :: ([] ++ dvs)) ([Value.ref a] ++ ds) := .cons rfl hd
    exact PySem.W.callWith_K0 (first := [.ref a]) I1.kIn hm.kp (run_at F hr (passAt J.tk σ) I1 (hb s1 [Value.ref a] I1.kIn (by rw [← rv2.length]; exact F.len _ _ _ _ q)) rv2 q)
/-! ### new instances -/
/-- the spec of __init__ from the class's -/
theorem spM_of {r : List D → Hh → R D} {Z ρ : List Addr} {h : Hh} {H : Hp} {ds : List D} {vs : List V} {Q : VK} {E : XK} (S : Sim W Z ρ h H) (rv : RDs W Z ρ H ds vs) (p : Post W Z ρ H (r ds h) (fun d ρ' _ H' => ∀ v, RD W Z ρ' H' d v → Q v H') E) :
    ∀ x dx, H x = none → H dx = none → dx ≠ x → spM W cls r (.ref x :: vs) (upd (upd H dx (.own x)) x (.ins (W.ca cls) dx [])) (fun v H2 => v = .non ∧ Q (.ref x) H2) E :=
  fun x dx hx hdx hne => ⟨x, dx, vs, H, rfl, hx, hdx, hne, rfl, Z, ρ, h, ds, S, rv, p.imp fun d ρ' h' H' x' S' q rv => ⟨rfl, q _ rv⟩⟩
theorem ej_make (J : Jc X W wx) (M : Mk X.K (W.ca cls) f) (F : FnOk X.prog X.w X.K X.mg X.base (L2.CX X.prog X.w) k f fd ps (spM W cls r)) (hr : Room (k + 1) X.A) (hg : Gl X x) (hm : X.mg x = some (.ref (W.ca cls))) (hb : Binds X.K fd ps ds) (hd : Vals dvs ds) (hdd : Dfl W dds dvs)
    (ha : AJ X W wx (e :: es) fs) (hdb : (x == ("__debug__" : Str)) = false := by decide) (he : starEach (e :: es) X.env = (false, eval e X.env) :: starEach es X.env := by rfl) (hpl : (backTo pos (starEach es X.env)).any (·.1) = false := by rfl) :
    EJ X W wx (.Call (.Name x p) (e :: es) [] pos) (eCall (fun ds h => r (ds ++ dds) h) fs) := by
  refine ⟨fun pins s σ H Q I ⟨Z, ρ, σd, h0, S, rs, pp⟩ => ?_⟩
  refine wpAny_Call_Name_kw (ld_glob I hg hm ?_ hdb)
  refine PySem.W.callWith_K (h₀ := X.base) I.ok.mod.kin M.kp (thn (ha.run pos pins s σ H (fun vs H1 => ∀ x dx, H1 x = none → H1 dx = none → dx ≠ x → spM W cls r (.ref x :: (vs ++ dvs)) (upd (upd H1 dx (.own x)) x (.ins (W.ca cls) dx [])) (fun v H2 => v = .non ∧ Q (.ref x) H2) fun cls dd H => wx cls dd σ H) I
    ⟨Z, ρ, σd, h0, S, rs, (Post.bind pp).imp fun ds1 ρ1 h1 H1 x1 S1 p1 vs rvs => ?_⟩) fun us s1 ⟨vs, H1, I1, rv, q⟩ => ⟨I1.kIn, ?_⟩) he hpl
  · exact spM_of S1 (rvs.append (hdd Z ρ1 H1)) p1
  · have rv2 := rv.append hd
    have hl : ∀ v : Value, (v :: us ++ ds).length = ps.length := fun v => by
      have y := F.len _ _ _ _ (q (s1.heap.objs.size + 1) s1.heap.objs.size (I1.hok.fresh (Nat.le_succ _)) (I1.hok.fresh (Nat.le_refl _)) (Nat.ne_of_lt (Nat.lt_succ_self _)))
      have z := rv2.length
      simp only [List.length_cons] at y ⊢
      rw [← y, z]
      rfl
    exact make_at M F hr (passAt J.tk σ) I1 (fun s v hk => hb s (v :: us) hk (hl v)) rv2 q
end
/-! ### keywords -/
abbrev KJ (X : Cx) (W : Wd) (wx : WX) (kws : List Keyword) (f : AM) : Prop := PK X kws (tA W wx f)
theorem kj_nil : KJ X W wx [] aNil := ⟨fun pos pins s σ H Q I ⟨Z, ρ, σd, h0, S, rs, p⟩ => pk_nil.run pos pins s σ H Q I (post_now S p [] .nil)⟩
theorem kj_cons {f : TM} {kws : List Keyword} {nm : Option Str} {kpos : Pos} (ha : EJ X W wx e f) (hr : KJ X W wx kws fs) : KJ X W wx (⟨nm, e, kpos⟩ :: kws) (aCons f fs) :=
  ⟨fun pos pins s σ H Q I ⟨Z, ρ, σd, h0, S, rs, p⟩ => (pk_cons ha hr).run pos pins s σ H Q I
    ⟨Z, ρ, σd, h0, S, rs, (Post.bind p).imp fun d ρ1 h1 H1 x1 S1 p1 v rv =>
      ⟨Z, ρ1, σd, h1, S1, rs.mono x1, (Post.bind p1).imp fun ds ρ2 h2 H2 x2 S2 p2 vs rvs => post_now S2 p2 (v :: vs) (.cons (rv.mono x2) rvs)⟩⟩⟩
/-- how values and keywords are put in order -/
def Gd (W : Wd) (gD : List D → List D → List D) (gV : List V → List V → List V) : Prop := ∀ {Z ρ : List Addr} {H : Hp} {ds es : List D} {vs zs : List V}, RDs W Z ρ H ds vs → RDs W Z ρ H es zs → RDs W Z ρ H (gD ds es) (gV vs zs)
section
variable {kws : List Keyword} {ks : List Str} {g : List Value → List Value → List Value} {gV : List V → List V → List V} {gD : List D → List D → List D} {fk : AM} {cls : Nat}
theorem ej_callK (J : Jc X W wx) (F : FnOk X.prog X.w X.K X.mg X.base (L2.CX X.prog X.w) k f fd ps (spF W r)) (hr : Room k X.A) (hg : Gl X x) (hm : X.mg x = some (.ref f)) (hk : PySem.W.keepIn X.K (.ref f) = true) (hb : KBn X.K fd ps n ks g gV) (hgd : Gd W gD gV)
    (ha : AJ X W wx (e :: es) fs) (hkw : KJ X W wx kws fk) (hl : ∀ {σ h ds h'}, fs σ h = .ok ds h' → ds.length = n) (hl2 : ∀ {σ h ds h'}, fk σ h = .ok ds h' → ds.length = ks.length)
    (hall : (backToKw pos (keywordEach kws X.env)).all (·.1.isSome) = true := by rfl) (hks : (backToKw pos (keywordEach kws X.env)).filterMap (·.1) = ks := by rfl)
    (hdb : (x == ("__debug__" : Str)) = false := by decide) (he : starEach (e :: es) X.env = (false, eval e X.env) :: starEach es X.env := by rfl)
    (hpl : ((backTo pos (starEach (e :: es) X.env)).any (·.1) || (backToKw pos (keywordEach kws X.env)).any (·.1.isNone)) = false := by rfl) :
    EJ X W wx (.Call (.Name x p) (e :: es) kws pos) (eCallK r gD fs fk) := by
  refine ⟨fun pins s σ H Q I ⟨Z, ρ, σd, h0, S, rs, pp⟩ => ?_⟩
  have withLen : ∀ {fs : AM} {σd : Sg} {h : Hh} {n : Nat} {Z ρ : List Addr} {H : Hp} {P : List D → List Addr → Hh → Hp → Prop} {E : XK}, (∀ {σ h ds h'}, fs σ h = .ok ds h' → ds.length = n) → Post W Z ρ H (fs σd h) P E → Post W Z ρ H (fs σd h) (fun ds ρ h H => ds.length = n ∧ P ds ρ h H) E := by
    intro fs σd h n Z ρ H P E hl p
    cases hf : fs σd h with
    | ok ds h1 => rw [hf] at p; exact fun ρ' H' x S => ⟨hl hf, p ρ' H' x S⟩
    | xn e h1 => rw [hf] at p; exact p
    | bad => rw [hf] at p; exact p
  refine wpAny_Call_Name_kw (ld_glob I hg hm ?_ hdb)
  refine PySem.W.callWith_KW (h₀ := X.base) I.ok.mod.kin hk hall (thn (ha.run pos pins s σ H (fun vs H1 => vs.length = n ∧ tA W wx fk σ H1 fun zs H2 => zs.length = ks.length ∧ spF W r (gV vs zs) H2 Q fun cls dd H => wx cls dd σ H) I
    ⟨Z, ρ, σd, h0, S, rs, (withLen (fs := fs) (σd := σd) (h := h0) hl (Post.bind pp)).imp fun ds1 ρ1 h1 H1 x1 S1 p1 vs rvs => ?_⟩) fun us s1 ⟨vs, H1, I1, r, hln, q⟩ => ?_) hpl he
  · refine ⟨by rw [← rvs.length]; exact p1.1, Z, ρ1, σd, h1, S1, rs.mono x1, (withLen (fs := fk) (σd := σd) (h := h1) hl2 (Post.bind p1.2)).imp fun es2 ρ2 h2 H2 x2 S2 p2 zs rzs => ⟨by rw [← rzs.length]; exact p2.1, Z, ρ2, h2, gD ds1 es2, S2, hgd (rvs.mono x2) rzs, p2.2⟩⟩
  · refine thn (hkw.run pos pins s1 σ H1 _ I1 q) fun ws s2 ⟨zs, H2, I2, rz, hl2', q2⟩ => ⟨I2.kIn, ?_⟩
    rw [hks]
    exact run_at F hr (passAt J.tk σ) I2 (hb.to s2 us ws I2.kIn (by rw [← r.length]; exact hln) (by rw [← rz.length]; exact hl2')) (hb.rel r rz) q2
end
end
end Fw
end
section
set_option Elab.async false
set_option linter.all false
set_option maxRecDepth 100000
set_option autoImplicit false
set_option maxHeartbeats 1000000
/-! Fw10: fields, built-in calls, methods, stores. -/
namespace Fw
open PySem PySem.Spec PyProof.Rows L2
section
variable {X : Cx} {W : Wd} {wx : WX} {a b c e : Expr} {fa fb fc f : TM} {pos p : Pos} {x : Str} {id T : String}
/-- {} -/
theorem ej_dct0 : EJ X W wx (.Dict [] [] pos) eDct0 :=
  ⟨fun pins s σ H Q I ⟨Z, ρ, σd, h0, S, rs, p⟩ => pe_dnewK.run pins s σ H Q I fun q n => Fw.Ans.dct (fun ρ' H' v x S rv => p ρ' H' x S v rv) S .nil q n⟩
theorem ej_newD : EJ X W wx (.Dict [] [] pos) eNewD :=
  ⟨fun pins s σ H Q I ⟨Z, ρ, σd, h0, S, rs, p⟩ => pe_dnewK.run pins s σ H Q I fun q n =>
    p (ρ ++ [q]) _ (Ext.own n) (S.own (o := .dK []) (ob := .dct []) n (.dct upd_same .nil)) (.ref q) (.ref (by rw [← S.len]; simp))⟩
/-! ### fields -/
theorem rfs_look {Z ρ : List Addr} {H : Hp} {k : Nat} {d : D} : ∀ {fs : List (Nat × D)} {gs : List (Str × V)}, RFs W Z ρ H fs gs → fs.lookup k = some d → ∃ v, gs.lookup (W.an k) = some v ∧ RD W Z ρ H d v := by
  intro fs
  induction fs with
  | nil => intro gs r e; simp at e
  | cons q fs ih =>
    intro gs r e
    cases r with
    | @cons j d' _ v vs r t =>
      rw [List.lookup_cons] at e ⊢
      by_cases hj : k = j
      · subst hj
        simp only [beq_self_eq_true] at e ⊢
        cases e
        exact ⟨v, rfl, r⟩
      · rw [beq_eq_false_iff_ne.mpr hj] at e
        rw [beq_eq_false_iff_ne.mpr fun z => hj (W.inj _ _ z)]
        exact ih t e
theorem ej_fld {cls k : Nat} (ho : EJ X W wx a fa) (hc : Cls X.K (W.ca cls)) (hn : NoAttr X.K (W.ca cls) x) (hx : x = W.an k := by rfl) (hb : attributeBase a x X.env (eval a X.env) = eval a X.env := by rfl) : EJ X W wx (.Attribute a x pos) (eFld cls k fa) := by
  subst hx
  exact ⟨fun pins s σ H Q I ⟨Z, ρ, σd, h0, S, rs, pp⟩ => (pe_fld ho hb).run pins s σ H Q I
    ⟨Z, ρ, σd, h0, S, rs, (Post.bind pp).imp fun d ρ1 h1 H1 x1 S1 p1 v rv => by
      cases ho : asObj h1 d with
      | none => rw [ho] at p1; exact p1.elim
      | some q =>
        obtain ⟨c1, fs1⟩ := q
        rw [ho] at p1
        dsimp only at p1
        split at p1
        · rename_i hc1
          subst hc1
          obtain ⟨ad, dx, gs, e1, e2, e3⟩ := asObj_ok S1 rv ho
          obtain ⟨r, e4, hA⟩ := post_opt p1
          obtain ⟨u, e5, ru⟩ := rfs_look e3 e4
          exact ⟨ad, _, dx, gs, u, e1, e2, hc, hn, e5, hA.now S1 ru⟩
        · exact p1.elim⟩⟩
theorem rfs_put {Z ρ : List Addr} {H : Hp} {k : Nat} {d : D} {v : V} (rv : RD W Z ρ H d v) : ∀ {fs : List (Nat × D)} {gs : List (Str × V)}, RFs W Z ρ H fs gs → RFs W Z ρ H (Fw.putF k d fs) (L2.putF (W.an k) v gs) := by
  intro fs
  induction fs with
  | nil => intro gs r; cases r; exact .cons rv .nil
  | cons q fs ih =>
    intro gs r
    cases r with
    | @cons j d' _ u vs r t =>
      simp only [Fw.putF, L2.putF]
      by_cases hj : j = k
      · subst hj
        rw [if_pos rfl, if_pos rfl]
        exact .cons rv t
      · rw [if_neg hj, if_neg fun z => hj (W.inj _ _ z)]
        exact .cons r (ih t)
theorem rfs_len {Z ρ : List Addr} {H : Hp} : ∀ {fs : List (Nat × D)} {gs : List (Str × V)}, RFs W Z ρ H fs gs → fs.length = gs.length := by
  intro fs
  induction fs with
  | nil => intro gs r; cases r; rfl
  | cons q fs ih => intro gs r; cases r with | cons r t => simp [ih t]
theorem ne_mem {a b : Addr} {l : List Addr} (h : a ∈ l) (h2 : b ∉ l) : b ≠ a := fun e => h2 (by rw [e]; exact h)
/-- an own thing is written -/
theorem Sim.write {Z ρ : List Addr} {h : Hh} {H : Hp} {n : Nat} {ad : Addr} {o : O} {u u0 : HO} (S : Sim W Z ρ h H) (hn : ρ[n]? = some ad) (hu : H ad = some u0) (r : OR W Z ρ (upd H ad u) ad o) : Ext ρ H ρ (upd H ad u) ∧ Sim W Z ρ (h.set n o) (upd H ad u) := by
  have hm : ad ∈ ρ := List.mem_of_getElem? hn
  have x : Ext ρ H ρ (upd H ad u) := ⟨List.prefix_rfl, fun b w hb e => ⟨hb, by rw [upd_ne (ne_mem hm hb)]; exact e⟩⟩
  refine ⟨x, ⟨by rw [List.length_set]; exact S.len, S.nd, fun z hz => ?_, fun m w b e1 e2 => ?_⟩⟩
  · obtain ⟨h1, w, e⟩ := S.dis z hz
    exact ⟨h1, w, by rw [upd_ne (ne_mem hm h1)]; exact e⟩
  · by_cases hmn : n = m
    · subst hmn
      have hl : n < h.length := by rw [← S.len]; exact (List.getElem?_eq_some_iff.mp hn).1
      rw [List.getElem?_set_self hl] at e1
      rw [hn] at e2
      cases e1; cases e2
      exact r
    · rw [List.getElem?_set_ne hmn] at e1
      refine (S.obj m w b e1 e2).keep x fun w' e => ?_
      have hb : b ≠ ad := fun z => hmn (nodup_inj S.nd hn (z ▸ e2))
      rw [upd_ne hb]
      exact e
theorem setFld_ok {Z ρ : List Addr} {h h' : Hh} {H : Hp} {cls k : Nat} {o v : D} {ov vv : V} (S : Sim W Z ρ h H) (ro : RD W Z ρ H o ov) (rv : RD W Z ρ H v vv) (e : setFld h cls k o v = some h') :
    ∃ ad dx gs, ov = .ref ad ∧ H ad = some (.ins (W.ca cls) dx gs) ∧ gs.length < 1000 ∧ Ext ρ H ρ (upd H ad (.ins (W.ca cls) dx (L2.putF (W.an k) vv gs))) ∧ Sim W Z ρ h' (upd H ad (.ins (W.ca cls) dx (L2.putF (W.an k) vv gs))) := by
  cases ro <;> simp only [setFld] at e <;> first | (cases e; done) | skip
  rename_i ad n hn
  cases eo : h[n]? with
  | none => rw [eo] at e; cases e
  | some ob =>
    rw [eo] at e
    have q := S.obj n ob ad eo hn
    cases ob <;> dsimp only at e <;> first | (cases e; done) | skip
    rename_i c1 fs1
    split at e
    · rename_i hc
      obtain ⟨hcc, hl⟩ := hc
      subst hcc
      cases e
      cases q with
      | ins q t =>
        rename_i dx gs
        have hx : Ext ρ H ρ (upd H ad (.ins (W.ca c1) dx (L2.putF (W.an k) vv gs))) := ⟨List.prefix_rfl, fun b w hb e => ⟨hb, by rw [upd_ne (ne_mem (List.mem_of_getElem? hn) hb)]; exact e⟩⟩
        obtain ⟨x, S'⟩ := S.write hn q (.ins upd_same (rfs_put (rv.mono hx) (t.mono hx)))
        exact ⟨ad, dx, gs, rfl, q, by rw [← rfs_len t]; omega, x, S'⟩
    · cases e
theorem sj_setF {cls k : Nat} {pos' : Pos} (J : Js X W wx) (ho : EJ X W wx a fa) (hv : EJ X W wx e f) (hc : Cls X.K (W.ca cls)) (hn : NoAttr X.K (W.ca cls) x) (hx : x = W.an k := by rfl) (hs : swapsWith e (some (.Attribute a x pos')) pos.line X.env = pure false := by rfl) :
    SJ X W wx (.Assign [.Attribute a x pos'] e pos) (sSetF cls fa k f) := by
  subst hx
  exact ⟨fun pins s σ H D I ⟨Z, ρ, σd, h0, S, rs, pp⟩ => (ps_fld ho hv hs).run pins s σ H D I
    ⟨Z, ρ, σd, h0, S, rs, (PostS.of rs pp).imp fun d ρ1 h1 H1 x1 S1 p1 v rv =>
      ⟨Z, ρ1, σd, h1, S1, rs.mono x1, (PostS.of (rs.mono x1) p1).imp fun o ρ2 h2 H2 x2 S2 p2 ov ro => by
        cases hf : setFld h2 cls k o d with
        | none => rw [hf] at p2; exact p2.elim
        | some h3 =>
          rw [hf] at p2
          obtain ⟨ad, dx, gs, e1, e2, e3, x3, S3⟩ := setFld_ok S2 ro (rv.mono x2) hf
          exact ⟨ad, _, dx, gs, e1, e2, hc, hn, e3, p2 ρ2 _ σ x3 S3 (((rs.mono x1).mono x2).mono x3)⟩⟩⟩⟩
/-! ### calls of one value -/
def r1 (W : Wd) (f : Hh → D → Option D) : List V → Hp → VK → Prop := fun xs H Q => ∃ Z ρ h d r v, xs = [v] ∧ Sim W Z ρ h H ∧ RD W Z ρ H d v ∧ f h d = some r ∧ Fw.Ans W Z ρ h H r Q
def r1b (W : Wd) (f : Hh → D → D → Option D) : List V → Hp → VK → Prop := fun xs H Q => ∃ Z ρ h d e r v u, xs = [v, u] ∧ Sim W Z ρ h H ∧ RD W Z ρ H d v ∧ RD W Z ρ H e u ∧ f h d e = some r ∧ Fw.Ans W Z ρ h H r Q
section
variable {g : Hh → D → Option D} {g2 : Hh → D → D → Option D}
theorem u_read {σ : L2.St} {H : Hp} {Q : VK} (p : tE W wx (eU g fa) σ H Q) : tA W wx (aCons fa aNil) σ H fun vs H1 => r1 W g vs H1 Q := by
  obtain ⟨Z, ρ, σd, h0, S, rs, p⟩ := p
  refine ⟨Z, ρ, σd, h0, S, rs, ?_⟩
  unfold aCons aNil
  unfold eU at p
  cases hf : fa σd h0 with
  | ok d h1 =>
    rw [hf] at p
    intro ρ' H' x S' vs rvs
    obtain ⟨r, e, hA⟩ := post_opt (Post.mono x p)
    cases rvs with
    | cons rv t => cases t; exact ⟨Z, ρ', h1, d, r, _, rfl, S', rv, e, hA⟩
  | xn x h1 => rw [hf] at p; exact p
  | bad => rw [hf] at p; exact p
theorem u2_read {σ : L2.St} {H : Hp} {Q : VK} (p : tE W wx (eU2 g2 fa fb) σ H Q) : tA W wx (aCons fa (aCons fb aNil)) σ H fun vs H1 => r1b W g2 vs H1 Q := by
  obtain ⟨Z, ρ, σd, h0, S, rs, p⟩ := p
  refine ⟨Z, ρ, σd, h0, S, rs, ?_⟩
  unfold aCons aNil
  unfold eU2 at p
  cases hf : fa σd h0 with
  | ok d h1 =>
    rw [hf] at p
    simp only [R.bind_ok] at p ⊢
    cases hg : fb σd h1 with
    | ok e h2 =>
      rw [hg] at p
      intro ρ' H' x S' vs rvs
      obtain ⟨r, e1, hA⟩ := post_opt (Post.mono x p)
      cases rvs with
      | cons rv t =>
        cases t with
        | cons ru t => cases t; exact ⟨Z, ρ', h2, d, e, r, _, _, rfl, S', rv, ru, e1, hA⟩
    | xn x h2 => rw [hg] at p; exact p
    | bad => rw [hg] at p; exact p
  | xn x h1 => rw [hf] at p; exact p
  | bad => rw [hf] at p; exact p
theorem ej_b1 (hc : CallR X (.builtin id) (r1 W g)) (ha : EJ X W wx a fa) (hv : bootBuiltins x = some (.builtin id)) (hg : Gl X x := by rfl) (hm : X.mg x = none := by assumption) (hn : x ≠ "__name__" := by decide) (hdb : (x == ("__debug__" : Str)) = false := by decide)
    (he : starEach [a] X.env = (false, eval a X.env) :: starEach [] X.env := by rfl) : EJ X W wx (.Call (.Name x p) [a] [] pos) (eU g fa) :=
  ⟨fun pins s σ H Q I q => (pe_callB hc hg hm hv (aj_cons ha aj_nil he) hn hdb he).run pins s σ H Q I (u_read q)⟩
theorem ej_t1 (hc : CallR X (.type T) (r1 W g)) (ha : EJ X W wx a fa) (hv : bootBuiltins x = some (.type T)) (hg : Gl X x := by rfl) (hm : X.mg x = none := by assumption) (hn : x ≠ "__name__" := by decide) (hdb : (x == ("__debug__" : Str)) = false := by decide)
    (he : starEach [a] X.env = (false, eval a X.env) :: starEach [] X.env := by rfl) : EJ X W wx (.Call (.Name x p) [a] [] pos) (eU g fa) :=
  ⟨fun pins s σ H Q I q => (pe_callTy hc hg hm hv (aj_cons ha aj_nil he) hn hdb he).run pins s σ H Q I (u_read q)⟩
theorem ej_b2 (hc : CallR X (.builtin id) (r1b W g2)) (ha : EJ X W wx a fa) (hb : EJ X W wx b fb) (hv : bootBuiltins x = some (.builtin id)) (hg : Gl X x := by rfl) (hm : X.mg x = none := by assumption) (hn : x ≠ "__name__" := by decide) (hdb : (x == ("__debug__" : Str)) = false := by decide)
    (he : starEach [a, b] X.env = (false, eval a X.env) :: starEach [b] X.env := by rfl) (he2 : starEach [b] X.env = (false, eval b X.env) :: starEach [] X.env := by rfl) (hpl : (backTo pos (starEach [b] X.env)).any (·.1) = false := by rfl) : EJ X W wx (.Call (.Name x p) [a, b] [] pos) (eU2 g2 fa fb) :=
  ⟨fun pins s σ H Q I q => (pe_callB hc hg hm hv (aj_cons ha (aj_cons hb aj_nil he2) he) hn hdb he hpl).run pins s σ H Q I (u2_read q)⟩
end
end
/-! ### the built-ins -/
section
variable {X : Cx} {W : Wd}
theorem cl_len (hK : X.K = W.K) : CallR X (.builtin "len") (r1 W lenD) := by
  intro pins s σ H xs us Q I rv ⟨Z, ρ, h, d, r, v, hx, S, rd, e, hA⟩
  subst hx
  by_cases hs : ∃ t, d = .str t
  · obtain ⟨t, rfl⟩ := hs
    cases rd
    simp only [lenD] at e
    split at e
    · rename_i hl
      cases e
      exact call_len_str pins s σ H _ us Q I rv ⟨toS t, rfl, by rw [toS_len, ← line_eq]; exact hl, by rw [toS_len]; exact hA.now S (.int _)⟩
    · cases e
  · have e' : (match asSeq h d with
      | some xs => some (D.int xs.length)
      | none => (asDct h d).map fun kvs => .int kvs.length) = some r := by
      rw [← e]
      cases d <;> first | rfl | exact absurd ⟨_, rfl⟩ hs
    cases e1 : asSeq h d with
    | some xs =>
      rw [e1] at e'
      cases e'
      obtain ⟨a, vs, rfl, q, t⟩ := asSeq_ok S rd e1
      exact call_len_seq pins s σ H _ us Q I rv ⟨a, vs, rfl, hK ▸ q, by rw [← t.length]; exact hA.now S (.int _)⟩
    | none =>
      rw [e1] at e'
      cases e2 : asDct h d with
      | none => rw [e2] at e'; cases e'
      | some kvs =>
        rw [e2] at e'
        cases e'
        obtain ⟨a, vs, rfl, q, t⟩ := asDct_ok S rd e2
        obtain ⟨u, rfl, ru⟩ := vals1 rv
        obtain rfl : u = Value.ref a := ru
        exact d_len I q fun tk s' I' => ⟨.int vs.length, H, I', ⟨_, rfl⟩, by rw [← t.len]; exact hA.now S (.int _)⟩
theorem cl_abs : CallR X (.builtin "abs") (r1 W absD) := by
  intro pins s σ H xs us Q I rv ⟨Z, ρ, h, d, r, v, hx, S, rd, e, hA⟩
  subst hx
  cases d <;> simp only [absD] at e <;> first | (cases e; done) | skip
  cases e
  cases rd
  exact call_abs pins s σ H _ us Q I rv ⟨_, rfl, hA.now S (.int _)⟩
theorem cl_int : CallR X (.type "int") (r1 W intD) := by
  intro pins s σ H xs us Q I rv ⟨Z, ρ, h, d, r, v, hx, S, rd, e, hA⟩
  subst hx
  cases d <;> simp only [intD] at e <;> first | (cases e; done) | skip
  · cases e
    cases rd
    exact call_int1 pins s σ H _ us Q I rv (.inr ⟨_, rfl, hA.now S (.int _)⟩)
  · cases e
    cases rd
    exact call_int1 pins s σ H _ us Q I rv (.inl ⟨_, rfl, hA.now S (.int _)⟩)
theorem cl_list (hK : X.K = W.K) : CallR X (.type "list") (r1 W listD) := by
  intro pins s σ H xs us Q I rv ⟨Z, ρ, h, d, r, v, hx, S, rd, e, hA⟩
  subst hx
  simp only [listD, Option.map_eq_some_iff] at e
  obtain ⟨xs, e1, rfl⟩ := e
  obtain ⟨a, vs, rfl, q, t⟩ := asSeq_ok S rd e1
  exact call_list_of pins s σ H _ us Q I rv ⟨a, vs, rfl, hK ▸ q, fun l n => hA.lst S t l n⟩
theorem cl_tuple (hK : X.K = W.K) : CallR X (.type "tuple") (r1 W tupleD) := by
  intro pins s σ H xs us Q I rv ⟨Z, ρ, h, d, r, v, hx, S, rd, e, hA⟩
  subst hx
  by_cases hs : ∃ t, d = .tup t
  · obtain ⟨t, rfl⟩ := hs
    simp only [tupleD] at e
    cases e
    obtain ⟨a, vs, rfl, q, t⟩ := tup_ok rd
    exact call_tuple_of pins s σ H _ us Q I rv ⟨a, vs, rfl, .inr ⟨hK ▸ q, hA.now S rd⟩⟩
  · have e' : (asLst h d).map D.tup = some r := by
      rw [← e]
      cases d <;> first | rfl | exact absurd ⟨_, rfl⟩ hs
    simp only [Option.map_eq_some_iff] at e'
    obtain ⟨xs, e1, rfl⟩ := e'
    obtain ⟨a, vs, rfl, q, t⟩ := asLst_ok S rd e1
    exact call_tuple_of pins s σ H _ us Q I rv ⟨a, vs, rfl, .inl ⟨SqL.of q, fun l n => hA.tup S t l n⟩⟩
/-- the written empty tuple -/
def KEmp (K : PySem.W.Frag) (a : Addr) : Prop := ∃ n sl, K.lookup a = some ⟨.type "tuple", none, .seq #[] n, sl⟩
theorem cl_dict (hK : X.K = W.K) (hc : X.calm = true) (hE : KEmp X.K (W.fa empT)) : CallR X (.type "dict") (r1 W dictD) := by
  intro pins s σ H xs us Q I rv ⟨Z, ρ, h, d, r, v, hx, S, rd, e, hA⟩
  subst hx
  by_cases hs : ∃ f, d = .fn f
  · obtain ⟨f, rfl⟩ := hs
    simp only [dictD] at e
    split at e
    · rename_i hf
      subst hf
      cases e
      cases rd
      obtain ⟨u, rfl, ru⟩ := vals1 rv
      obtain rfl : u = Value.ref (W.fa empT) := ru
      obtain ⟨n, sl, hl⟩ := hE
      have hg := I.kIn _ _ hl
      refine PySem.call_dict_pairs (knd := mixKind X.prog X.w) (kvs := []) (PySem.PairArg.tuple (W.fa empT) #[] (fun _ => 0) []) (I.ok.hd hc) ⟨⟨_, n, hg, rfl, rfl, rfl⟩, rfl, fun j k v hj => by simp at hj⟩ ⟨rfl, fun i k v hi => by simp [PySem.PairRel] at hi⟩ (Nat.zero_le _) fun h' tk hd hk => ?_
      have hm : (s.heap.objs.size == sysModules) = false := beq_eq_false_iff_ne.mpr (Nat.ne_of_gt I.big)
      exact ⟨.ref s.heap.objs.size, upd H s.heap.objs.size (.dK []), I.laid (t' := tk) (fun b o e => hk b o (by simp) e) (Nat.le_refl _) (show ObjOk X.prog X.w _ _ _ (.dK []) from ⟨Nat.zero_le _, hm, [], .nil, hd⟩), rfl, hA.dct S .nil _ (I.hok.fresh (Nat.le_refl _))⟩
    · cases e
  · have e' : (asDct h d).map D.dct = some r := by
      rw [← e]
      cases d <;> first | rfl | exact absurd ⟨_, rfl⟩ hs
    simp only [Option.map_eq_some_iff] at e'
    obtain ⟨xs, e1, rfl⟩ := e'
    obtain ⟨a, vs, rfl, q, t⟩ := asDct_ok S rd e1
    exact call_dictD pins s σ H _ us Q I rv ⟨a, vs, rfl, q, fun l n => hA.dct S t l n⟩
theorem cl_all (hK : X.K = W.K) (hc : X.calm = true) : CallR X (.builtin "all") (r1 W allD) := by
  intro pins s σ H xs us Q I rv ⟨Z, ρ, h, d, r, v, hx, S, rd, e, hA⟩
  subst hx
  simp only [allD, Option.map_eq_some_iff, Option.bind_eq_some_iff] at e
  obtain ⟨bs, ⟨xs, e1, e2⟩, rfl⟩ := e
  obtain ⟨a, vs, rfl, q, t⟩ := asLst_ok S rd e1
  exact cr_all hc pins s σ H _ us Q I rv ⟨a, bs, rfl, asBools_ok t e2 ▸ SqL.of q, hA.now S (.bl _)⟩
theorem cl_any (hK : X.K = W.K) (hc : X.calm = true) : CallR X (.builtin "any") (r1 W anyD) := by
  intro pins s σ H xs us Q I rv ⟨Z, ρ, h, d, r, v, hx, S, rd, e, hA⟩
  subst hx
  simp only [anyD, Option.map_eq_some_iff, Option.bind_eq_some_iff] at e
  obtain ⟨bs, ⟨xs, e1, e2⟩, rfl⟩ := e
  obtain ⟨a, vs, rfl, q, t⟩ := asLst_ok S rd e1
  exact cr_any hc pins s σ H _ us Q I rv ⟨a, bs, rfl, asBools_ok t e2 ▸ SqL.of q, hA.now S (.bl _)⟩
theorem cl_sum (hc : X.calm = true) : CallR X (.builtin "sum") (r1 W sumD) := by
  intro pins s σ H xs us Q I rv ⟨Z, ρ, h, d, r, v, hx, S, rd, e, hA⟩
  subst hx
  simp only [sumD, Option.map_eq_some_iff, Option.bind_eq_some_iff] at e
  obtain ⟨bs, ⟨xs, e1, e2⟩, rfl⟩ := e
  obtain ⟨a, vs, rfl, q, t⟩ := asLst_ok S rd e1
  exact cr_sum hc pins s σ H _ us Q I rv ⟨a, bs, rfl, asInts_ok t e2 ▸ SqL.of q, hA.now S (.int _)⟩
theorem cl_min (hc : X.calm = true) : CallR X (.builtin "min") (r1b W minD) := by
  intro pins s σ H xs us Q I rv ⟨Z, ρ, h, d, e, r, v, u, hx, S, rd, re, e1, hA⟩
  subst hx
  cases d <;> cases e <;> simp only [minD] at e1 <;> first | (cases e1; done) | skip
  cases e1; cases rd; cases re
  exact call_min2 hc pins s σ H _ us Q I rv ⟨_, _, rfl, hA.now S (.int _)⟩
theorem cl_max (hc : X.calm = true) : CallR X (.builtin "max") (r1b W maxD) := by
  intro pins s σ H xs us Q I rv ⟨Z, ρ, h, d, e, r, v, u, hx, S, rd, re, e1, hA⟩
  subst hx
  cases d <;> cases e <;> simp only [maxD] at e1 <;> first | (cases e1; done) | skip
  cases e1; cases rd; cases re
  exact call_max2 hc pins s σ H _ us Q I rv ⟨_, _, rfl, hA.now S (.int _)⟩
end
end Fw
end
section
set_option Elab.async false
set_option linter.all false
set_option maxRecDepth 100000
set_option autoImplicit false
set_option maxHeartbeats 1000000
/-! Fw11: stores, methods, isinstance, sorted. -/
namespace Fw
open PySem PySem.Spec PyProof.Rows L2
section
variable {W : Wd} {Z ρ : List Addr} {h h' : Hh} {H : Hp}
/-! ### a[b] = c -/
theorem ext_own {ad : Addr} {u : HO} {n : Nat} (hn : ρ[n]? = some ad) : Ext ρ H ρ (upd H ad u) :=
  ⟨List.prefix_rfl, fun b w hb e => ⟨hb, by rw [upd_ne (ne_mem (List.mem_of_getElem? hn) hb)]; exact e⟩⟩
theorem rks_map {k : K1} {d : D} {v : V} (rv : RD W Z ρ H d v) : ∀ {fs : List (K1 × D)} {gs : List (Key × V)}, RKs W Z ρ H fs gs →
    RKs W Z ρ H (fs.map fun q => if q.1 = k then (q.1, d) else q) (gs.map fun kv => if kv.1 = keyS k then (kv.1, v) else kv) := by
  intro fs
  induction fs with
  | nil => intro gs r; cases r; exact .nil
  | cons q fs ih =>
    intro gs r
    cases r with
    | @cons k' d' _ u us r t =>
      simp only [List.map_cons]
      by_cases hk : k' = k
      · subst hk
        rw [if_pos rfl, if_pos rfl]
        exact .cons rv (ih t)
      · rw [if_neg hk, if_neg fun z => hk (keyS_inj z)]
        exact .cons r (ih t)
theorem rks_snoc {k : K1} {d : D} {v : V} (rv : RD W Z ρ H d v) : ∀ {fs : List (K1 × D)} {gs : List (Key × V)}, RKs W Z ρ H fs gs → RKs W Z ρ H (fs ++ [(k, d)]) (gs ++ [(keyS k, v)]) := by
  intro fs
  induction fs with
  | nil => intro gs r; cases r; exact .cons rv .nil
  | cons q fs ih =>
    intro gs r
    cases r with
    | cons r t => exact .cons r (ih t)
theorem rks_put {k : K1} {d : D} {v : V} (rv : RD W Z ρ H d v) {fs : List (K1 × D)} {gs : List (Key × V)} (r : RKs W Z ρ H fs gs) : RKs W Z ρ H (put k d fs) (putK gs (keyS k) v) := by
  have hany : (gs.any fun kv => decide (kv.1 = keyS k)) = fs.any fun q => decide (q.1 = k) := by rw [r.any k, valV_any]
  by_cases hf : (fs.any fun q => decide (q.1 = k)) = true
  · have e1 : put k d fs = fs.map fun q => if q.1 = k then (q.1, d) else q := if_pos hf
    have e2 : putK gs (keyS k) v = gs.map fun kv => if kv.1 = keyS k then (kv.1, v) else kv := if_pos (by rw [hany]; exact hf)
    rw [e1, e2]
    exact rks_map rv r
  · have e1 : put k d fs = fs ++ [(k, d)] := if_neg hf
    have e2 : putK gs (keyS k) v = gs ++ [(keyS k, v)] := if_neg (by rw [hany]; exact hf)
    rw [e1, e2]
    exact rks_snoc rv r
/-- what a store does, by values -/
def tSet (W : Wd) : TSet := fun o i v H Q => ∃ Z ρ h h' od id d, Sim W Z ρ h H ∧ RD W Z ρ H od o ∧ RD W Z ρ H id i ∧ RD W Z ρ H d v ∧ setIx h od id d = some h' ∧ ∀ H', Ext ρ H ρ H' → Sim W Z ρ h' H' → Q H'
theorem set_all {X : Cx} (hu : X.A.units + 64 < cLine) : PSet X (tSet W) := by
  intro pins s σ H o i v ov iv u Q I ro ri ru ⟨Z, ρ, h, h', od, id, d, S, rod, rid, rdd, e, q⟩
  cases rod <;> simp only [setIx] at e <;> first | (cases e; done) | skip
  rename_i ad n hn
  cases eo : h[n]? with
  | none => rw [eo] at e; cases e
  | some ob =>
    rw [eo] at e
    have qo := S.obj n ob ad eo hn
    cases ob with
    | lst xs =>
      cases id <;> dsimp only at e <;> first | (cases e; done) | skip
      rename_i k
      cases rid
      simp only [Option.map_eq_some_iff] at e
      obtain ⟨j, e1, rfl⟩ := e
      cases qo with
      | lst qo t =>
        rename_i vs
        have x : Ext ρ H ρ (upd H ad (.lst (vs.set j v))) := ext_own hn
        obtain ⟨_, S'⟩ := S.write hn qo (o := .lst (xs.set j d)) (.lst (upd_same (o := .lst (vs.set j v))) ((t.mono x).set (rdd.mono x)))
        exact set_list pins s σ H _ _ v ov iv u Q I ro ri ru ⟨ad, vs, k, j, rfl, rfl, qo, by rw [← t.length, ← ixn_eq]; exact e1, q _ x S'⟩
    | dct kvs =>
      dsimp only at e
      simp only [Option.bind_eq_some_iff] at e
      obtain ⟨k, e1, e2⟩ := e
      split at e2
      · rename_i hl
        cases e2
        cases qo with
        | dct qo t =>
          rename_i vs
          have x : Ext ρ H ρ (upd H ad (.dK (putK vs (keyS k) v))) := ext_own hn
          obtain ⟨_, S'⟩ := S.write hn qo (o := .dct (put k d kvs)) (.dct (upd_same (o := .dK (putK vs (keyS k) v))) (rks_put (rdd.mono x) (t.mono x)))
          have hk := key1_ok rid e1
          exact set_dict (by omega) pins s σ H _ _ v ov iv u Q I ro ri ru ⟨ad, _, rfl, .inl ⟨vs, keyS k, qo, hk, by rw [← t.len, ← line_eq]; exact hl, rfl⟩, q _ x S'⟩
      · cases e2
    | ro xs => cases id <;> simp at e
    | ins c fs => cases id <;> simp at e
end
section
variable {X : Cx} {W : Wd} {wx : WX} {a b c e : Expr} {fa fb fc f : TM} {pos p : Pos} {x : Str}
theorem sj_setI {pos' : Pos} (J : Js X W wx) (ha : EJ X W wx a fa) (hb : EJ X W wx b fb) (he : EJ X W wx e f)
    (hs : swapsWithSole [.Subscript a b pos'] e pos.line X.env = pure false := by rfl) (hw : swappedStores [.Subscript a b pos'] e X.env = pure none := by rfl)
    (h1 : (assignEach [.Subscript a b pos'] X.env).map (·.2) = [assign (.Subscript a b pos') X.env] := by rfl)
    (hsub : ∀ v, assign (.Subscript a b pos') X.env v = (do
      let ov ← holding [v] (eval a X.env)
      let iv ← holding [v, ov] (eval b X.env)
      standAt pos'
      holding [v, ov, iv] (setItem ov iv v)
      release [v, ov, iv] []) := by intro _; rfl) :
    SJ X W wx (.Assign [.Subscript a b pos'] e pos) (sSetI fa fb f) :=
  ⟨fun pins s σ H D I ⟨Z, ρ, σd, h0, S, rs, pp⟩ => (ps_asg he (pg_sub ha hb (set_all (W := W) J.hu) hsub) hs hw h1).run pins s σ H D I
    ⟨Z, ρ, σd, h0, S, rs, (PostS.of rs pp).imp fun d ρ1 h1 H1 x1 S1 p1 v rv =>
      ⟨Z, ρ1, σd, h1, S1, rs.mono x1, (PostS.of (rs.mono x1) p1).imp fun o ρ2 h2 H2 x2 S2 p2 ov ro =>
        ⟨Z, ρ2, σd, h2, S2, (rs.mono x1).mono x2, (PostS.of ((rs.mono x1).mono x2) p2).imp fun i ρ3 h3 H3 x3 S3 p3 iv ri => by
          cases hf : setIx h3 o i d with
          | none => rw [hf] at p3; exact p3.elim
          | some h4 =>
            rw [hf] at p3
            exact ⟨Z, ρ3, h3, h4, o, i, d, S3, ro.mono x3, ri, (rv.mono x2).mono x3, hf, fun H' x S' => p3 ρ3 H' σ x S' ((((rs.mono x1).mono x2).mono x3).mono x)⟩⟩⟩⟩⟩
/-! ### name op= e -/
theorem iop_all {op : Bop} {Z ρ : List Addr} {h : Hh} {H : Hp} {d e r : D} {u v : V} {uu vv : Value} {pins : List (Addr × Obj)} {s : Shared} {σ : L2.St} {Q : VK} (I : Inv X pins σ H s) (ru : RelV u uu) (rv : RelV v vv)
    (rd : RD W Z ρ H d u) (re : RD W Z ρ H e v) (S : Sim W Z ρ h H) (hf : augD op d e = some r) (hA : Fw.Ans W Z ρ h H r Q) : wpAny (model X.prog X.w) X.A (inplaceOp (bopOf op) uu vv) (EP X pins σ Q) X.xe s := by
  cases op <;> cases d <;> cases e <;> simp only [augD] at hf <;> first | (cases hf; done) | skip
  · cases rd; cases re; cases hf
    exact iop_add pins s σ H _ _ uu vv Q I ru rv ⟨_, _, rfl, rfl, hA.now S (.int _)⟩
  · cases rd; cases re
    split at hf
    · rename_i hl
      cases hf
      exact iop_add_str pins s σ H _ _ uu vv Q I ru rv ⟨_, _, rfl, rfl, by rw [toS_len, toS_len, ← line_eq]; exact hl, by rw [toS_cat]; exact hA.now S (.str _)⟩
    · cases hf
  · cases rd; cases re; cases hf
    exact iop_sub pins s σ H _ _ uu vv Q I ru rv ⟨_, _, rfl, rfl, hA.now S (.int _)⟩
theorem sj_aug {op : Bop} {o : Operator} {i : Nat} {pos' : Pos} (J : Js X W wx) (ho : o = bopOf op := by rfl) (hi : X.N[i]? = some x) (hx : Loc X.env.scope x) (he : EJ X W wx e f) (hf : X.fn x = true ∨ X.env.scope.names.lookup x = some .local := by first | exact .inl rfl | exact .inr rfl | assumption) :
    SJ X W wx (.AugAssign (.Name x pos') o e pos) (sAug i op f) := by
  subst ho
  refine ⟨fun pins s σ H D I ⟨Z, ρ, σd, h0, S, rs, pp⟩ => ?_⟩
  have ti : PIp X (bopOf op) (fun u v H Q => ∃ Z ρ h d e r, Sim W Z ρ h H ∧ RD W Z ρ H d u ∧ RD W Z ρ H e v ∧ augD op d e = some r ∧ Fw.Ans W Z ρ h H r Q) :=
    fun pins s σ H u v uu vv Q I ru rv ⟨Z, ρ, h, d, e, r, S, rd, re, hf, hA⟩ => iop_all I ru rv rd re S hf hA
  refine (ps_aug J.hN hi hx he ti hf).run pins s σ H D I ?_
  unfold sAug at pp
  cases hg : sget σd i with
  | none => rw [hg] at pp; exact pp.elim
  | some d =>
    rw [hg] at pp
    have hd : σd[i]? = some (some d) := by
      unfold sget at hg
      split at hg
      · rename_i d' q; cases hg; exact q
      · cases hg
    obtain ⟨v, hv, rv⟩ := rs.at_ i d hd
    refine ⟨v, hv, Z, ρ, σd, h0, S, rs, (PostS.of rs pp).imp fun e ρ1 h1 H1 x1 S1 p1 u ru => ?_⟩
    cases hb : augD op d e with
    | none => rw [hb] at p1; exact p1.elim
    | some r =>
      rw [hb] at p1
      exact ⟨Z, ρ1, h1, d, e, r, S1, rv.mono x1, ru, hb, fun ρ2 H2 z x2 S2 rz => p1 ρ2 H2 _ x2 S2 (((rs.mono x1).mono x2).set rz)⟩
/-! ### methods of built-in values -/
/-- what a method does, by values -/
def rM (W : Wd) (f : Hh → D → D → Option (D × Option (Nat × O))) : V → List V → Hp → VK → Prop := fun x vs H Q => ∃ Z ρ h d e r w u, vs = [u] ∧ Sim W Z ρ h H ∧ RD W Z ρ H d x ∧ RD W Z ρ H e u ∧ f h d e = some (r, w) ∧
  ∀ ρ' H' v, Ext ρ H ρ' H' → Sim W Z ρ' (wr h w) H' → RD W Z ρ' H' r v → Q v H'
theorem m_app : MtR X "list.append" (rM W appD) := by
  intro pins s σ H x xs v us Q I rx rs ⟨Z, ρ, h, d, e, r, w, u, hx, S, rd, re, hf, hA⟩
  subst hx
  cases rd <;> simp only [appD] at hf <;> first | (cases hf; done) | skip
  rename_i ad n hn
  cases eo : h[n]? with
  | none => rw [eo] at hf; cases hf
  | some ob =>
    rw [eo] at hf
    have qo := S.obj n ob ad eo hn
    cases ob <;> dsimp only at hf <;> first | (cases hf; done) | skip
    split at hf
    · rename_i hl
      cases hf
      cases qo with
      | lst qo t =>
        rename_i ds vs
        have x : Ext ρ H ρ (upd H ad (.lst (vs ++ [u]))) := ext_own hn
        obtain ⟨_, S'⟩ := S.write hn qo (o := .lst (ds ++ [e])) (.lst (upd_same (o := .lst (vs ++ [u]))) ((t.mono x).append (.cons (re.mono x) .nil)))
        exact mt_append pins s σ H _ _ v us Q I rx rs ⟨ad, vs, u, rfl, rfl, qo, by rw [← t.length, ← line_eq]; exact hl, hA ρ _ _ x S' .non⟩
    · cases hf
theorem ixn_seq {n : Nat} {i : Int} {j : Nat} (h : ixn n i = some j) (hn : n ≤ sizeLine) : -(2 ^ 63) ≤ i ∧ i < 2 ^ 63 ∧ seqIndex? i n = some j := by
  rw [sizeLine_eq] at hn
  unfold ixn at h
  split at h
  · rename_i h0
    split at h
    · rename_i h1
      cases h
      refine ⟨by omega, by omega, ?_⟩
      have h2 : ¬ i < 0 := by omega
      simp [seqIndex?, h2, h0, h1]
    · cases h
  · rename_i h0
    split at h
    · rename_i h1
      cases h
      refine ⟨by omega, by omega, ?_⟩
      have h2 : 0 ≤ i + (n : Int) := by omega
      have h3 : i + (n : Int) < n := by omega
      have h4 : i < 0 := by omega
      simp [seqIndex?, h2, h3, h4]
    · cases h
theorem rds_erase {Z ρ : List Addr} {H : Hp} : ∀ {n : Nat} {ds : List D} {vs : List V}, RDs W Z ρ H ds vs → RDs W Z ρ H (ds.eraseIdx n) (vs.eraseIdx n) := by
  intro n
  induction n with
  | zero => intro ds vs r; cases r with | nil => exact .nil | cons _ t => exact t
  | succ n ih => intro ds vs r; cases r with | nil => exact .nil | cons r t => exact .cons r (ih t)
theorem lst_small {pins : List (Addr × Obj)} {s : Shared} {σ : L2.St} {H : Hp} {ad : Addr} {vs : List V} (I : Inv X pins σ H s) (h : H ad = some (.lst vs)) : vs.length ≤ sizeLine := (I.hok ad _ h).1
theorem m_pop : MtR X "list.pop" (rM W popD) := by
  intro pins s σ H x xs v us Q I rx rs ⟨Z, ρ, h, d, e, r, w, u, hx, S, rd, re, hf, hA⟩
  subst hx
  cases rd <;> simp only [popD] at hf <;> first | (cases hf; done) | skip
  rename_i ad n hn
  cases e <;> simp only [popD] at hf <;> first | (cases hf; done) | skip
  rename_i i
  cases re
  cases eo : h[n]? with
  | none => rw [eo] at hf; cases hf
  | some ob =>
    rw [eo] at hf
    have qo := S.obj n ob ad eo hn
    cases ob <;> dsimp only at hf <;> first | (cases hf; done) | skip
    simp only [Option.bind_eq_some_iff, Option.map_eq_some_iff] at hf
    obtain ⟨j, e1, y, e2, e3⟩ := hf
    cases e3
    cases qo with
    | lst qo t =>
      rename_i ds vs
      have x : Ext ρ H ρ (upd H ad (.lst (vs.eraseIdx j))) := ext_own hn
      obtain ⟨_, S'⟩ := S.write hn qo (o := .lst (ds.eraseIdx j)) (.lst (upd_same (o := .lst (vs.eraseIdx j))) (rds_erase (t.mono x)))
      obtain ⟨z, ez, rz⟩ := t.get e2
      obtain ⟨b1, b2, b3⟩ := ixn_seq e1 (by rw [t.length]; exact lst_small I qo)
      exact mt_popAt pins s σ H _ _ v us Q I rx rs ⟨ad, vs, i, j, z, rfl, rfl, qo, b1, b2, by rw [← t.length]; exact b3, ez, hA ρ _ _ x S' (rz.mono x)⟩
theorem join_eq (sep : Tx) : ∀ ts : List Tx, Str.join (toS sep) (ts.map toS) = toS (joinT sep ts)
  | [] => rfl
  | [_] => rfl
  | x :: y :: r => by
    have ih := join_eq sep (y :: r)
    simp only [List.map_cons] at ih
    simp only [List.map_cons, Str.join, joinT]
    rw [ih, toS_cat, toS_cat]
theorem m_join (hK : X.K = W.K) : MtR X "str.join" (rM W joinD) := by
  intro pins s σ H x xs v us Q I rx rs ⟨Z, ρ, h, d, e, r, w, u, hx, S, rd, re, hf, hA⟩
  subst hx
  cases d <;> simp only [joinD] at hf <;> first | (cases hf; done) | skip
  rename_i sep
  cases rd
  simp only [Option.bind_eq_some_iff] at hf
  obtain ⟨ds, e1, ts, e2, e3⟩ := hf
  split at e3
  · rename_i hl
    cases e3
    obtain ⟨a, vs, rfl, q, t⟩ := asSeq_ok S re e1
    have ev := asTexts_ok t e2
    subst ev
    have q' : SqL X.K H a ((ts.map toS).map V.str) ∨ SqT X.K H a ((ts.map toS).map V.str) := by
      rw [List.map_map]
      exact hK ▸ q
    refine mt_join pins s σ H _ _ v us Q I rx rs ⟨toS sep, a, ts.map toS, rfl, rfl, q', ?_, ?_⟩
    · rw [List.map_map, List.length_map, toS_len]
      have e4 : (ts.map (Str.length ∘ toS)) = ts.map List.length := by
        apply List.map_congr_left
        intro t _
        exact toS_len t
      rw [e4]
      exact hl
    · have e5 : Txt.join (toS sep) (ts.map toS) = toS (joinT sep ts) := (TL.join_eq _ _).trans (join_eq sep ts)
      rw [e5]
      exact hA ρ H _ Ext.refl S (.str _)
  · cases e3
theorem isLst_ty {Z ρ : List Addr} {h : Hh} {H : Hp} {d : D} {v : V} (S : Sim W Z ρ h H) (r : RD W Z ρ H d v) (e : isLst h d = true) : tyV X.K "list" v H := by
  unfold isLst at e
  obtain ⟨xs, e1⟩ := Option.isSome_iff_exists.mp e
  obtain ⟨a, vs, rfl, q, t⟩ := asLst_ok S r e1
  exact .inl ⟨rfl, _, SqL.of q⟩
theorem isStr_ty {Z ρ : List Addr} {h : Hh} {H : Hp} {d : D} {v : V} (S : Sim W Z ρ h H) (r : RD W Z ρ H d v) (e : isStr h d = true) : tyV X.K "str" v H := by
  cases r <;> simp [isStr] at e
  exact rfl
theorem ej_m {T id : String} {k : Hh → D → Bool} {g : Hh → D → D → Option (D × Option (Nat × O))} {apos cpos : Pos} (pa : PlainAttrs T) (slot : Slot T x id) (hty : typeOf (.builtin id) = pure (.type "method_descriptor")) (hm : MtR X id (rM W g))
    (hk : ∀ {Z ρ : List Addr} {h : Hh} {H : Hp} {d : D} {v : V}, Sim W Z ρ h H → RD W Z ρ H d v → k h d = true → tyV X.K T v H) (ha : EJ X W wx a fa) (hb : EJ X W wx b fb)
    (hbase : attributeBase a x X.env (eval a X.env) = eval a X.env := by rfl)
    (hfew : ((backTo cpos (starEach [b] X.env)).all (fun x => !x.1) && (backToKw cpos (keywordEach [] X.env)).all (fun x => x.1.isSome)
      && decide ([b].length + ([] : List Keyword).length + (if ([] : List Keyword).isEmpty then 0 else 1) < 30)) = true := by rfl)
    (hline : (apos.endLine == cpos.line) = true := by rfl) (hs : starEach [b] X.env = (false, eval b X.env) :: starEach [] X.env := by rfl) : EJ X W wx (.Call (.Attribute a x apos) [b] [] cpos) (eM k g fa fb) :=
  ⟨fun pins s σ H Q I ⟨Z, ρ, σd, h0, S, rs, p⟩ => (pe_bm pa slot hty hm ha (aj_cons hb aj_nil hs) hbase hfew hline hs rfl).run pins s σ H Q I
    ⟨Z, ρ, σd, h0, S, rs, (Post.bind p).imp fun d ρ1 h1 H1 x1 S1 p1 v rv => by
      by_cases hkd : k h1 d = true
      · rw [if_pos hkd] at p1
        refine ⟨hk S1 rv hkd, Z, ρ1, σd, h1, S1, rs.mono x1, ?_⟩
        unfold aCons aNil
        cases hf : fb σd h1 with
        | ok e h2 =>
          rw [hf] at p1
          intro ρ2 H2 x2 S2 vs rvs
          cases rvs with
          | cons ru t =>
            cases t
            have p2 := Post.mono x2 p1
            simp only [R.bind_ok] at p2
            cases hg : g h2 d e with
            | none => rw [hg] at p2; exact p2.elim
            | some q =>
              obtain ⟨r, w⟩ := q
              rw [hg] at p2
              exact ⟨Z, ρ2, h2, d, e, r, w, _, rfl, S2, rv.mono x2, ru, hg, fun ρ' H' v x S' rv' => p2 ρ' H' x S' v rv'⟩
        | xn e h2 => rw [hf] at p1; exact p1
        | bad => rw [hf] at p1; exact p1
      · rw [if_neg hkd] at p1
        exact p1.elim⟩⟩
theorem ej_app {apos cpos : Pos} (ha : EJ X W wx a fa) (hb : EJ X W wx b fb)
    (hbase : attributeBase a "append" X.env (eval a X.env) = eval a X.env := by rfl)
    (hfew : ((backTo cpos (starEach [b] X.env)).all (fun x => !x.1) && (backToKw cpos (keywordEach [] X.env)).all (fun x => x.1.isSome)
      && decide ([b].length + ([] : List Keyword).length + (if ([] : List Keyword).isEmpty then 0 else 1) < 30)) = true := by rfl)
    (hline : (apos.endLine == cpos.line) = true := by rfl) (hs : starEach [b] X.env = (false, eval b X.env) :: starEach [] X.env := by rfl) : EJ X W wx (.Call (.Attribute a "append" apos) [b] [] cpos) (eM isLst appD fa fb) :=
  ej_m PySem.F.plainAttrs_list PySem.F.slot_list_append PySem.F.type_list_append m_app isLst_ty ha hb hbase hfew hline hs
theorem ej_pop {apos cpos : Pos} (ha : EJ X W wx a fa) (hb : EJ X W wx b fb)
    (hbase : attributeBase a "pop" X.env (eval a X.env) = eval a X.env := by rfl)
    (hfew : ((backTo cpos (starEach [b] X.env)).all (fun x => !x.1) && (backToKw cpos (keywordEach [] X.env)).all (fun x => x.1.isSome)
      && decide ([b].length + ([] : List Keyword).length + (if ([] : List Keyword).isEmpty then 0 else 1) < 30)) = true := by rfl)
    (hline : (apos.endLine == cpos.line) = true := by rfl) (hs : starEach [b] X.env = (false, eval b X.env) :: starEach [] X.env := by rfl) : EJ X W wx (.Call (.Attribute a "pop" apos) [b] [] cpos) (eM isLst popD fa fb) :=
  ej_m PySem.F.plainAttrs_list PySem.F.slot_list_pop PySem.F.type_list_pop m_pop isLst_ty ha hb hbase hfew hline hs
theorem ej_join {apos cpos : Pos} (J : Jc X W wx) (ha : EJ X W wx a fa) (hb : EJ X W wx b fb)
    (hbase : attributeBase a "join" X.env (eval a X.env) = eval a X.env := by rfl)
    (hfew : ((backTo cpos (starEach [b] X.env)).all (fun x => !x.1) && (backToKw cpos (keywordEach [] X.env)).all (fun x => x.1.isSome)
      && decide ([b].length + ([] : List Keyword).length + (if ([] : List Keyword).isEmpty then 0 else 1) < 30)) = true := by rfl)
    (hline : (apos.endLine == cpos.line) = true := by rfl) (hs : starEach [b] X.env = (false, eval b X.env) :: starEach [] X.env := by rfl) : EJ X W wx (.Call (.Attribute a "join" apos) [b] [] cpos) (eM isStr joinD fa fb) :=
  ej_m PySem.F.plainAttrs_str PySem.F.slot_str_join PySem.F.type_str_join (m_join J.hK) isStr_ty ha hb hbase hfew hline hs
/-! ### isinstance -/
/-- what the class at u answers of each type -/
def KitOk (K : PySem.W.Frag) (W : Wd) (u : Value) (p : T1 → Option Bool) : Prop :=
  (∀ b, p .non = some b → PySem.W.kitOne K (.type "NoneType") u = some b) ∧ (∀ b, p .bl = some b → PySem.W.kitOne K (.type "bool") u = some b) ∧ (∀ b, p .int = some b → PySem.W.kitOne K (.type "int") u = some b) ∧
  (∀ b, p .str = some b → PySem.W.kitOne K (.type "str") u = some b) ∧ (∀ b, p .tup = some b → PySem.W.kitOne K (.type "tuple") u = some b) ∧ (∀ b, p .lst = some b → PySem.W.kitOne K (.type "list") u = some b) ∧
  (∀ b, p .dct = some b → PySem.W.kitOne K (.type "dict") u = some b) ∧
  ∀ c b, p (.own c) = some b → PySem.W.kitOne K (.ref (W.ca c)) u = some b ∧ Cls K (W.ca c) ∧ PySem.W.findIn K (.ref (W.ca c)) "__class__" = some (some (.builtin "object.__class__")) ∧
    PySem.W.specialIn K (.builtin "object.__class__") "__get__" = some (some (.builtin "getset_descriptor.__get__")) ∧ PySem.W.takesIn K (.builtin "object.__class__") = some true ∧ PySem.W.mroIn K (W.ca c) (.type "object") = some true
theorem tyX_rd {K : PySem.W.Frag} {H : Hp} {a : Addr} {u : List (Key × V)} (r : Rd H a (.dK u)) : TyX K H (.ref a) (.type "dict") := by
  rcases r with r | ⟨o, r⟩
  · exact .base (.dK r)
  · exact .fDict r
theorem isT_ok {Z ρ : List Addr} {h : Hh} {H : Hp} {d : D} {v : V} {u : Value} {p : T1 → Option Bool} {b : Bool} {t : T1} (hK : X.K = W.K) (hp : KitOk X.K W u p) (S : Sim W Z ρ h H) (r : RD W Z ρ H d v) (e1 : ty1 h d = some t) (e2 : p t = some b) :
    ∃ tv, TyX X.K H v tv ∧ PySem.W.kitOne X.K tv u = some b := by
  obtain ⟨k1, k2, k3, k4, k5, k6, k7, k8⟩ := hp
  cases r <;> simp only [ty1] at e1
  case non => cases e1; exact ⟨_, .base .non, k1 _ e2⟩
  case bl => cases e1; exact ⟨_, .base (.bl _), k2 _ e2⟩
  case int => cases e1; exact ⟨_, .base (.int _), k3 _ e2⟩
  case str => cases e1; exact ⟨_, .base (.str _), k4 _ e2⟩
  case tup q t => cases e1; exact ⟨_, .base (.tup q), k5 _ e2⟩
  case tupK k t =>
    cases e1
    obtain ⟨o, its, n, l, c, _⟩ := k
    exact ⟨_, .kTuple (hK ▸ l) c, k5 _ e2⟩
  case lst q t => cases e1; exact ⟨_, .base (.lst q), k6 _ e2⟩
  case dct q t => cases e1; exact ⟨_, tyX_rd q, k7 _ e2⟩
  case roi q =>
    cases e1
    rcases q with ⟨_, _, q | ⟨o, q⟩⟩ | ⟨o, its, n, l, c, _⟩
    · exact ⟨_, .base (.lst q), k6 _ e2⟩
    · exact ⟨_, .base (.frz q), k6 _ e2⟩
    · exact ⟨_, .kList (hK ▸ l) c, k6 _ e2⟩
  case obj q t =>
    cases e1
    obtain ⟨h1, h2, h3, h4, h5, h6⟩ := k8 _ _ e2
    exact ⟨_, .base (.ins q h2 h3 h4 h5 h6), h1⟩
  case ref a n hn =>
    cases eo : h[n]? with
    | none => rw [eo] at e1; cases e1
    | some ob =>
      rw [eo] at e1
      have q := S.obj n ob a eo hn
      cases ob <;> dsimp only at e1 <;> cases e1
      · cases q with | lst q t => exact ⟨_, .base (.lst q), k6 _ e2⟩
      · cases q with
        | ro q t =>
          rcases q with q | ⟨o, q⟩
          · exact ⟨_, .base (.lst q), k6 _ e2⟩
          · exact ⟨_, .base (.frz q), k6 _ e2⟩
      · cases q with | dct q t => exact ⟨_, .base (.dK q), k7 _ e2⟩
      · cases q with
        | ins q t =>
          obtain ⟨h1, h2, h3, h4, h5, h6⟩ := k8 _ _ e2
          exact ⟨_, .base (.ins q h2 h3 h4 h5 h6), h1⟩
  case fn => cases e1
theorem ej_isin {cv : V} {u : Value} {pr : T1 → Option Bool} (J : Jc X W wx) (ha : EJ X W wx a fa) (hb : PE X b (tC cv)) (hcv : ClsV cv u) (hp : KitOk X.K W u pr)
    (hg : Gl X "isinstance" := by rfl) (hm : X.mg "isinstance" = none := by assumption) (hv : bootBuiltins "isinstance" = some (.builtin "isinstance") := by rfl)
    (he : starEach [a, b] X.env = (false, eval a X.env) :: starEach [b] X.env := by rfl) (he2 : starEach [b] X.env = (false, eval b X.env) :: starEach [] X.env := by rfl) (hpl : (backTo pos (starEach [b] X.env)).any (·.1) = false := by rfl) :
    EJ X W wx (.Call (.Name "isinstance" p) [a, b] [] pos) (eU (isT pr) fa) :=
  ⟨fun pins s σ H Q I ⟨Z, ρ, σd, h0, S, rs, pp⟩ => (pe_callB call_isi hg hm hv (pa_cons ha (pa_cons hb pa_nil he2) he) (by decide) (by decide) he hpl).run pins s σ H Q I
    ⟨Z, ρ, σd, h0, S, rs, (Post.bind pp).imp fun d ρ1 h1 H1 x1 S1 p1 v rv => by
      obtain ⟨r, e, hA⟩ := post_opt p1
      simp only [isT, Option.map_eq_some_iff, Option.bind_eq_some_iff] at e
      obtain ⟨bb, ⟨t, e1, e2⟩, rfl⟩ := e
      obtain ⟨tv, h1, h2⟩ := isT_ok J.hK hp S1 rv e1 e2
      exact ⟨v, cv, tv, u, bb, rfl, hcv, h1, h2, hA.now S1 (.bl _)⟩⟩⟩
/-- a built-in class of one's own types -/
def isOf (T : T1) : T1 → Option Bool
  | .own _ => none
  | .bl => some (decide (T = .bl) || decide (T = .int))
  | t => some (decide (t = T))
end
end Fw
end
section
set_option Elab.async false
set_option linter.all false
set_option maxRecDepth 100000
set_option autoImplicit false
set_option maxHeartbeats 1000000
/-! Fw12: comprehensions of two clauses; sorted. -/
namespace Fw
open PySem PySem.Spec PyProof.Rows L2
section
variable {W : Wd} {Z ρ : List Addr} {H : Hp} {D : Addr} {σd : Sg} {σ : L2.St}
theorem RSg.hid (r : RSg W (D :: Z) ρ H σd σ) : RSg W Z ρ (hid H D) σd σ :=
  ⟨r.len, fun i d e => let ⟨v, e1, r1⟩ := r.at_ i d e; ⟨v, e1, r1.hid⟩⟩
end
section
variable {X : Cx} {W : Wd} {wx : WX} {tg iter tg1 iter1 elt : Expr} {ifs ifs1 : List Expr} {scope : Scope} {own : List (Str × Nat)} {pos : Pos} {f : TM} {gb gb1 : BM} {it it1 : It} {src src1 : AM} {g g1 : G} {own1 : List Nat}
/-- one turn of the outer clause -/
theorem lc2_step {Z ρ : List Addr} {Hc : Hp} {D : Addr} {acc : List V} {accd : List Fw.D} {h : Hh} {σd : Sg} {σ : L2.St} {x : Fw.D} {v : V} {ownI : List Nat} {xs : List Fw.D} {Q : List Fw.D → List Addr → Hh → Hp → Prop} {E : XK} {Nx : Hp → Prop}
    (hK : X.K = W.K) (hg : ∀ i ∈ g.ix, i ∈ ownI) (hg1 : ∀ i ∈ g1.ix, i ∈ own1) (hD : D ∉ Z) (n : Hc D = none) (S : Sim W Z ρ h Hc) (rs : RSg W Z ρ Hc σd σ) (ra : RDs W Z ρ Hc accd acc)
    {H' : Hp} (hH : H' = upd (hid H' D) D (.lst acc)) (hx : Ext ρ Hc ρ (hid H' D)) (S' : Sim W (D :: Z) ρ h H') (rv : RD W (D :: Z) ρ H' x v)
    (p : Post W Z ρ Hc (noX (lcL2 (lcStep2 f g gb g1 it1 src1 gb1 ownI own1 σd) (x :: xs) accd h)) Q E)
    (hN : ∀ ρ' h' Hc' acc' accd', Hc' D = none → Ext ρ Hc ρ' Hc' → Sim W Z ρ' h' Hc' → RDs W Z ρ' Hc' accd' acc' → Post W Z ρ' Hc' (noX (lcL2 (lcStep2 f g gb g1 it1 src1 gb1 ownI own1 σd) xs accd' h')) Q E → Nx (upd Hc' D (.lst acc'))) :
    gOf X.K g v (L2.wipe σ ownI) H' fun σ2 H2 => L2.wipe σ2 ownI = L2.wipe σ ownI ∧ tB W (fun _ _ _ _ => False) gb σ2 H2 fun b H3 =>
      if b = true then tI W (fun _ _ _ _ => False) it1 src1 σ2 H3 fun J1 H4 => ∃ W1 : Nat → Nat → Hp → Prop, (∃ m, W1 0 m H4) ∧ ∀ j k H, W1 j k H →
        (J1.stop j H ∧ Nx H) ∨ (J1.go j H ∧ ∃ Nx1 : Hp → Prop, (∀ H', Nx1 H' → ∃ k', k' < k ∧ W1 (j + 1) k' H') ∧ ∀ x H', J1.yld j H x H' → gOf X.K g1 x (L2.wipe σ2 own1) H' fun σ3 H5 => L2.wipe σ3 own1 = L2.wipe σ2 own1 ∧ tB W (fun _ _ _ _ => False) gb1 σ3 H5 fun b H6 =>
          if b = true then tE W (fun _ _ _ _ => False) f σ3 H6 fun y H7 => ∃ acc, H7 D = some (.lst acc) ∧ acc.length < sizeLine ∧ Nx1 (upd H7 D (.lst (acc ++ [y]))) else Nx1 H6)
      else Nx H3 := by
  simp only [lcL2] at p
  have p1 := noX_bind p
  rw [lcStep2] at p1
  have hn' : hid H' D D = none := hid_self
  have hzz' : ∀ z ∈ D :: Z, z ∈ Z ∨ hid H' D z = none := fun z hz => (List.mem_cons.mp hz).elim (fun e => .inr (by rw [e]; exact hn')) .inl
  have xl : Ext ρ (hid H' D) ρ H' := by
    have := Ext.laid (ρ := ρ) (H := hid H' D) (o := .lst acc) hn'
    rw [← hH] at this
    exact this
  have rs' : RSg W (D :: Z) ρ H' (wipe σd ownI) (L2.wipe σ ownI) := by
    refine RSg.wipe ⟨rs.len, fun i d e => ?_⟩ ownI
    obtain ⟨w, e1, r1⟩ := rs.at_ i d e
    exact ⟨w, e1, ((r1.mono hx).reZ hzz').mono xl⟩
  cases hb : bindG (wipe σd ownI) g x with
  | none => rw [hb] at p1; exact p1.elim
  | some σ1 =>
    rw [hb] at p1
    dsimp only at p1
    refine bindG_ok hK g rs' rv hb fun σ2 r2 hw => ⟨?_, ?_⟩
    · rw [hw ownI hg]
      have idem : ∀ (vs : List Nat), (∀ i ∈ vs, i ∈ ownI) → L2.wipe (L2.wipe σ vs) ownI = L2.wipe σ ownI := by
        intro vs
        induction vs with
        | nil => intro _; rfl
        | cons w ws ih =>
          intro hw
          simp only [L2.wipe]
          rw [wipe_set (hw w List.mem_cons_self)]
          exact ih fun i hi => hw i (List.mem_cons_of_mem _ hi)
      exact idem ownI fun i hi => hi
    · have pa := Post.mono hx p1
      have hDρ : D ∉ ρ := (S'.dis D List.mem_cons_self).1
      have q := Post.shown (acc := acc) (E := fun _ _ _ => False) hD hDρ hn' (Post.bind pa)
      rw [← hH] at q
      refine ⟨D :: Z, ρ, σ1, h, S', r2, q.imp fun k ρ3 h3 H3 x3 S3 q3 => ?_⟩
      obtain ⟨e3, S3', x3', p3⟩ := q3
      have hH3 : upd (hid H3 D) D (.lst acc) = H3 := upd_self e3
      cases k with
      | false =>
        have p4 := post_now S3' p3
        rw [if_neg (by decide)]
        rw [← hH3]
        exact hN ρ3 h3 (hid H3 D) acc accd hid_self (hx.trans x3') S3' (ra.mono (hx.trans x3')) p4
      | true =>
        rw [if_pos rfl]
        have hDρ3 : D ∉ ρ3 := (S3.dis D List.mem_cons_self).1
        have q4 := Post.shown (acc := acc) (E := fun _ _ _ => False) hD hDρ3 hid_self (Post.bind p3)
        rw [hH3] at q4
        refine ⟨D :: Z, ρ3, σ1, h3, S3, r2.mono x3, q4.imp fun ys ρ4 h4 H4 x4 S4 q5 J1 hw1 => ?_⟩
        obtain ⟨e4, S4', x4', p5⟩ := q5
        have hH4 : upd (hid H4 D) D (.lst acc) = H4 := upd_self e4
        have hx4 : Ext ρ Hc ρ4 (hid H4 D) := (hx.trans x3').trans x4'
        have r4 : RSg W Z ρ4 (hid H4 D) σ1 σ2 := ((r2.mono x3).mono x4).hid
        refine ⟨fun j k H => j ≤ ys.length ∧ k = ys.length - j ∧ ∃ ρ5 h5 Hd acc' accd', Hd D = none ∧ H = upd Hd D (.lst acc') ∧ Ext ρ4 (hid H4 D) ρ5 Hd ∧ Sim W Z ρ5 h5 Hd ∧ RDs W Z ρ5 Hd accd' acc' ∧
            Post W Z ρ5 Hd (noX (lcL (lcStep f g1 gb1 own1 σ1) (ys.drop j) accd' h5)) (fun (a : List Fw.D) ρ h H => Post W Z ρ H (noX (lcL2 (lcStep2 f g gb g1 it1 src1 gb1 ownI own1 σd) xs a h)) Q E) (fun _ _ _ => False),
          ⟨ys.length, Nat.zero_le _, rfl, ρ4, h4, hid H4 D, acc, accd, hid_self, hH4.symm, Ext.refl, S4', ra.mono hx4, p5⟩, ?_⟩
        rintro j k H5 ⟨hj, hk, ρ5, h5, Hd, acc', accd', n5, e5, x5, S5, ra5, p6⟩
        subst e5
        have xz : ExtZ (D :: Z) ρ4 H4 ρ5 (upd Hd D (.lst acc')) := ⟨x5.pre, fun a o hz hr e => by
          have na : a ≠ D := nin hz
          obtain ⟨y1, y2⟩ := x5.keep a o hr (by rw [hid_ne na]; exact e)
          exact ⟨y1, by rw [upd_ne na]; exact y2⟩⟩
        have w := hw1 (D :: Z) ρ5 h5 _ (fun z hz => .inl hz) xz (S5.shown n5)
        by_cases hE : j = ys.length
        · subst hE
          rw [List.drop_length] at p6
          exact .inl ⟨w.2, hN ρ5 h5 Hd acc' accd' n5 (hx4.trans x5) S5 ra5 (post_now S5 p6)⟩
        · have hlt : j < ys.length := by omega
          obtain ⟨go, yl⟩ := w.1 j ys[j] (by simp [hlt])
          rw [List.drop_eq_getElem_cons hlt] at p6
          refine .inr ⟨go, fun H' => j + 1 ≤ ys.length ∧ ∃ ρ5 h5 Hd acc' accd', Hd D = none ∧ H' = upd Hd D (.lst acc') ∧ Ext ρ4 (hid H4 D) ρ5 Hd ∧ Sim W Z ρ5 h5 Hd ∧ RDs W Z ρ5 Hd accd' acc' ∧
            Post W Z ρ5 Hd (noX (lcL (lcStep f g1 gb1 own1 σ1) (ys.drop (j + 1)) accd' h5)) (fun (a : List Fw.D) ρ h H => Post W Z ρ H (noX (lcL2 (lcStep2 f g gb g1 it1 src1 gb1 ownI own1 σd) xs a h)) Q E) (fun _ _ _ => False),
            fun H' ⟨a1, a2⟩ => ⟨ys.length - (j + 1), by omega, a1, rfl, a2⟩, fun v' H6 hy => ?_⟩
          obtain ⟨x6, S6, rv6⟩ := yl v' H6 hy
          have hD6 : H6 D = some (.lst acc') := (x6.keep D _ (S5.new n5).2 upd_same).2
          exact lc_step (X := X) (g := g1) (gb := gb1) (Q := fun (a : List Fw.D) ρ h H => Post W Z ρ H (noX (lcL2 (lcStep2 f g gb g1 it1 src1 gb1 ownI own1 σd) xs a h)) Q E) (E := fun _ _ _ => False) hK hg1 hD n5 S5 (r4.mono x5) ra5 (upd_self hD6).symm (Ext.hid n5 x6) S6 rv6 p6
            fun ρ' h' Hc' acc2 accd2 n' x' S' ra' p' => ⟨by omega, ρ', h', Hc', acc2, accd2, n', rfl, x5.trans x', S', ra', p'⟩
theorem lc2_read (hK : X.K = W.K) {ownI : List Nat} (hix : ∀ i ∈ g.ix, i ∈ ownI) (hix1 : ∀ i ∈ g1.ix, i ∈ own1) {σ : L2.St} {H : Hp} {Q : VK} (p : tE W wx (eLc2 f g it src gb g1 it1 src1 gb1 ownI own1) σ H Q) :
    tLc2 (tI W wx it src) (gOf X.K g) (tB W (fun _ _ _ _ => False) gb) (tI W (fun _ _ _ _ => False) it1 src1) (gOf X.K g1) (tB W (fun _ _ _ _ => False) gb1) (tE W (fun _ _ _ _ => False) f) ownI own1 σ H Q := by
  obtain ⟨Z, ρ, σd, h0, S, rs, p⟩ := p
  refine ⟨Z, ρ, σd, h0, S, rs, (Post.bind p).imp fun xs ρ1 h1 H1 x1 S1 p1 Ji hw D hD => ?_⟩
  have rs1 := rs.mono x1
  have hDZ := (S1.new hD).1
  have pl := Post.bind p1
  refine ⟨fun i m H => i ≤ xs.length ∧ m = xs.length - i ∧ ∃ ρ h Hc acc accd, Hc D = none ∧ H = upd Hc D (.lst acc) ∧ Ext ρ1 H1 ρ Hc ∧ Sim W Z ρ h Hc ∧ RDs W Z ρ Hc accd acc ∧
      Post W Z ρ Hc (noX (lcL2 (lcStep2 f g gb g1 it1 src1 gb1 ownI own1 σd) (xs.drop i) accd h)) (fun (a : List Fw.D) ρ h H => Post W Z ρ H (R.ok (Fw.D.lst a) h) (fun d ρ' _ H' => ∀ v, RD W Z ρ' H' d v → Q v H') (fun cls dd H' => wx cls dd σ H')) (fun cls dd H' => wx cls dd σ H'),
    ⟨xs.length, Nat.zero_le _, rfl, ρ1, h1, H1, [], [], hD, rfl, Ext.refl, S1, .nil, pl⟩, ?_⟩
  rintro i m H' ⟨hi, hm, ρ2, h2, Hc, acc, accd, n2, e2, x2, S2, ra, p2⟩
  subst e2
  have hwz : ∀ z ∈ D :: Z, z ∈ Z ∨ H1 z = none := fun z hz => (List.mem_cons.mp hz).elim (fun e => .inr (by rw [e]; exact hD)) .inl
  have xD : Ext ρ1 H1 ρ2 (upd Hc D (.lst acc)) := x2.trans (Ext.laid n2)
  have SD : Sim W (D :: Z) ρ2 h2 (upd Hc D (.lst acc)) := S2.shown n2
  have w := hw (D :: Z) ρ2 h2 _ hwz xD.z SD
  by_cases hE : i = xs.length
  · subst hE
    rw [List.drop_length] at p2
    refine .inl ⟨w.2, ?_⟩
    have hl2 := Ext.laid (ρ := ρ2) (o := .lst acc) n2
    have p4 := p2 ρ2 Hc Ext.refl S2
    exact (Post.mono hl2 p4) ρ2 _ Ext.refl (S2.laid n2) (.ref D) (.lst hDZ (S2.new n2).2 upd_same (ra.mono hl2))
  · have hlt : i < xs.length := by omega
    obtain ⟨go, yl⟩ := w.1 i xs[i] (by simp [hlt])
    rw [List.drop_eq_getElem_cons hlt] at p2
    refine .inr ⟨go, fun H' => i + 1 ≤ xs.length ∧ ∃ ρ h Hc acc accd, Hc D = none ∧ H' = upd Hc D (.lst acc) ∧ Ext ρ1 H1 ρ Hc ∧ Sim W Z ρ h Hc ∧ RDs W Z ρ Hc accd acc ∧
      Post W Z ρ Hc (noX (lcL2 (lcStep2 f g gb g1 it1 src1 gb1 ownI own1 σd) (xs.drop (i + 1)) accd h)) (fun (a : List Fw.D) ρ h H => Post W Z ρ H (R.ok (Fw.D.lst a) h) (fun d ρ' _ H' => ∀ v, RD W Z ρ' H' d v → Q v H') (fun cls dd H' => wx cls dd σ H')) (fun cls dd H' => wx cls dd σ H'),
      fun H' ⟨a1, a2⟩ => ⟨xs.length - (i + 1), by omega, a1, rfl, a2⟩, fun v H4 hy => ?_⟩
    obtain ⟨x3, S3, rv⟩ := yl v H4 hy
    have hD4 : H4 D = some (.lst acc) := (x3.keep D _ (S2.new n2).2 upd_same).2
    exact lc2_step hK hix hix1 hDZ n2 S2 (rs1.mono x2) ra (upd_self hD4).symm (Ext.hid n2 x3) S3 rv p2 fun ρ' h' Hc' acc' accd' n' x' S' ra' p' =>
      ⟨by omega, ρ', h', Hc', acc', accd', n', rfl, x2.trans x', S', ra', p'⟩
/-- [elt for g in it if .. for g1 in it1 if ..] -/
theorem ej_lc2 (J : Js X W wx) (hi : IJ X W wx tg iter it src) (ok : BlkOk X.N X.env.scope scope own) (hv : ∀ i ∈ own1, i ∈ own.map (·.2)) (hix : ∀ i ∈ g.ix, i ∈ own.map (·.2)) (hix1 : ∀ i ∈ g1.ix, i ∈ own1)
    (hg : ∀ (s : Shared) (H : Hp) (C : Addr) (cl : List (Str × Addr)) (fp : List Addr), GJ (X.blk s H scope (compEnvC scope cl C X.env) fp) tg g)
    (ht : ∀ (s : Shared) (H : Hp) (C : Addr) (cl : List (Str × Addr)) (fp : List Addr), CJ (X.blk s H scope (compEnvC scope cl C X.env) fp) W ifs gb)
    (hi1 : ∀ (s : Shared) (H : Hp) (C : Addr) (cl : List (Str × Addr)) (fp : List Addr), IJ (X.blk s H scope (compEnvC scope cl C X.env) fp) W (fun _ _ _ _ => False) tg1 iter1 it1 src1)
    (hg1 : ∀ (s : Shared) (H : Hp) (C : Addr) (cl : List (Str × Addr)) (fp : List Addr), GJ (X.blk s H scope (compEnvC scope cl C X.env) fp) tg1 g1)
    (ht1 : ∀ (s : Shared) (H : Hp) (C : Addr) (cl : List (Str × Addr)) (fp : List Addr), CJ (X.blk s H scope (compEnvC scope cl C X.env) fp) W ifs1 gb1)
    (he : ∀ (s : Shared) (H : Hp) (C : Addr) (cl : List (Str × Addr)) (fp : List Addr), EJ (X.blk s H scope (compEnvC scope cl C X.env) fp) W (fun _ _ _ _ => False) elt f)
    (hs : ∀ x, foldedSetIterable iter X.env x = pure x := by intro _; rfl) (hs1 : ∀ env x, foldedSetIterable iter1 env x = pure x := by intro _ _; rfl) :
    EJ X W wx (.ListComp elt [⟨tg, iter, ifs, 0⟩, ⟨tg1, iter1, ifs1, 0⟩] scope pos) (eLc2 f g it src gb g1 it1 src1 gb1 (own.map (·.2)) own1) :=
  ⟨fun pins s σ H Q I p => (pe_lc2 J.hc J.hN hi ok hv hg ht hi1 hg1 ht1 he hs hs1).run pins s σ H Q I (lc2_read J.hK hix hix1 p)⟩
end
/-- a block's context -/
theorem jc_blk {X : Cx} {W : Wd} {wx : WX} (J : Js X W wx) (s : Shared) (H : Hp) (scope : Scope) (cenv : Env) (fp : List Addr) : Js (X.blk s H scope cenv fp) W (fun _ _ _ _ => False) where
  hK := J.hK
  hu := J.hu
  tk := takes_none5
  hN := J.hN
  hc := J.hc
  hp := PassesOwn.never
end Fw
end
section
set_option Elab.async false
set_option linter.all false
set_option maxRecDepth 100000
set_option autoImplicit false
set_option maxHeartbeats 1000000
/-! Fw13: sorted; callees. -/
namespace Fw
open PySem PySem.Spec PyProof.Rows L2
/-! ### sorted -/
theorem sortI_eq {ys ks : List Int} (p : ys.Perm ks) (s : ys.Pairwise (· ≤ ·)) : ys = sortI ks := by
  have q : (sortI ks).Pairwise (· ≤ ·) := by
    have := List.pairwise_mergeSort (le := fun a b : Int => decide (a ≤ b)) (by intro a b c; simp; omega) (by intro a b; simp; omega) ks
    exact this.imp (by simp)
  exact List.Perm.eq_of_pairwise (fun a b _ _ h1 h2 => Int.le_antisymm h1 h2) s q (p.trans (List.mergeSort_perm ks _).symm)
theorem tx_tot (a b : Tx) : a ≤ b ∨ b ≤ a := List.le_total a b
theorem risingS_pw : ∀ (r : List Str) (p : Str), risingS p r = true → ((p :: r).map fun s => s.cps.toList).Pairwise (· ≤ ·)
  | [], p, _ => by simp
  | x :: r, p, h => by
    simp only [risingS, Bool.and_eq_true, Bool.not_eq_true'] at h
    have ih := risingS_pw r x h.2
    have h1 : p.cps.toList ≤ x.cps.toList := by
      have := h.1
      rw [ltCps_eq] at this
      exact of_decide_eq_false this
    rw [List.map_cons, List.pairwise_cons]
    refine ⟨fun a ha => ?_, ih⟩
    rw [List.map_cons, List.mem_cons] at ha
    rcases ha with rfl | ha
    · exact h1
    · rw [List.map_cons, List.pairwise_cons] at ih
      exact List.le_trans h1 (ih.1 a ha)
theorem sortT_eq {ys : List Str} {ks : List Tx} (p : ys.Perm (ks.map toS)) (s : sortedS ys = true) : ys = (sortT ks).map toS := by
  have pw : (ys.map fun s => s.cps.toList).Pairwise (· ≤ ·) := by
    cases ys with
    | nil => exact .nil
    | cons y r => exact risingS_pw r y s
  have q : (sortT ks).Pairwise (· ≤ ·) := by
    have := List.pairwise_mergeSort (le := fun a b : Tx => !decide (b < a)) (by
      intro a b c h1 h2
      simp only [Bool.not_eq_true', decide_eq_false_iff_not] at *
      exact List.le_trans (l₁ := a) (l₂ := b) (l₃ := c) h1 h2) (by
      intro a b
      simp only [Bool.or_eq_true, Bool.not_eq_true', decide_eq_false_iff_not]
      exact List.le_total a b) ks
    exact this.imp fun h => by simpa using h
  have pp : (ys.map fun s => s.cps.toList).Perm (sortT ks) := by
    have := p.map fun s : Str => s.cps.toList
    rw [List.map_map] at this
    have e : (ks.map ((fun s : Str => s.cps.toList) ∘ toS)) = ks := by
      conv => rhs; rw [← List.map_id ks]
      exact List.map_congr_left fun t _ => toS_list t
    rw [e] at this
    exact this.trans (List.mergeSort_perm ks _).symm
  have key := List.Perm.eq_of_pairwise (fun a b _ _ h1 h2 => List.le_antisymm h1 h2) pw q pp
  rw [← key, List.map_map]
  conv => lhs; rw [← List.map_id ys]
  exact List.map_congr_left fun t _ => (toS_of t).symm
section
variable {X : Cx} {W : Wd}
theorem intKeys_ok {Z ρ : List Addr} {H : Hp} : ∀ {kvs : List (K1 × D)} {vs : List (Key × V)} {is : List Int}, RKs W Z ρ H kvs vs → intKeys kvs = some is → vs.map (·.1) = is.map Sum.inl
  | [], _, _, .nil, e => by simp only [intKeys, Option.some.injEq] at e; subst e; rfl
  | _ :: _, _, _, @RKs.cons _ _ _ _ k d ds v vs r t, e => by
    cases k with
    | inl i =>
      simp only [intKeys, Option.map_eq_some_iff] at e
      obtain ⟨js, e1, rfl⟩ := e
      simp [intKeys_ok t e1, keyS]
    | inr s => simp [intKeys] at e
theorem textKeys_ok {Z ρ : List Addr} {H : Hp} : ∀ {kvs : List (K1 × D)} {vs : List (Key × V)} {ts : List Tx}, RKs W Z ρ H kvs vs → textKeys kvs = some ts → vs.map (·.1) = (ts.map toS).map Sum.inr
  | [], _, _, .nil, e => by simp only [textKeys, Option.some.injEq] at e; subst e; rfl
  | _ :: _, _, _, @RKs.cons _ _ _ _ k d ds v vs r t, e => by
    cases k with
    | inr i =>
      simp only [textKeys, Option.map_eq_some_iff] at e
      obtain ⟨js, e1, rfl⟩ := e
      simp [textKeys_ok t e1, keyS]
    | inl s => simp [textKeys] at e
theorem rds_texts {Z ρ : List Addr} {H : Hp} : ∀ ts : List Tx, RDs W Z ρ H (ts.map .str) ((ts.map toS).map V.str)
  | [] => .nil
  | t :: ts => .cons (.str t) (rds_texts ts)
theorem cl_sortedK (hc : X.calm = true) : CallR X (.builtin "sorted") (r1 W sortedK) := by
  intro pins s σ H xs us Q I rv ⟨Z, ρ, h, d, r, v, hx, S, rd, e, hA⟩
  subst hx
  simp only [sortedK, Option.bind_eq_some_iff] at e
  obtain ⟨kvs, e1, e2⟩ := e
  obtain ⟨a, vs, rfl, q, t⟩ := asDct_ok S rd e1
  split at e2
  · rename_i h64
    cases ei : intKeys kvs with
    | some is =>
      rw [ei] at e2
      cases e2
      have hk := intKeys_ok t ei
      have hl : is.length < 64 := by
        have := congrArg List.length hk
        simp only [List.length_map] at this
        rw [← this, ← t.len]; exact h64
      refine call_sortedDI hc pins s σ H _ us Q I rv ⟨a, vs, is, rfl, q, hk, hl, fun ys p hp hs n => ?_⟩
      rw [sortI_eq hp hs]
      exact hA.lst S (rds_ints _) p n
    | none =>
      rw [ei] at e2
      simp only [Option.map_eq_some_iff] at e2
      obtain ⟨ts, e3, rfl⟩ := e2
      have hk := textKeys_ok t e3
      have hl : (ts.map toS).length < 64 := by
        have := congrArg List.length hk
        simp only [List.length_map] at this ⊢
        rw [← this, ← t.len]; exact h64
      refine call_sortedD hc pins s σ H _ us Q I rv ⟨a, vs, ts.map toS, rfl, q, hk, hl, fun ys p hp hs n => ?_⟩
      rw [sortT_eq hp hs]
      exact hA.lst S (rds_texts _) p n
  · cases e2
end
end Fw
end
section
set_option Elab.async false
set_option linter.all false
set_option maxRecDepth 100000
set_option autoImplicit false
set_option maxHeartbeats 1000000
/-! Fw14: callees by what they promise; the context of a body. -/
namespace Fw
open PySem PySem.Spec PyProof.Rows L2
/-- a def that may be called: r what it computes, dds its defaults -/
def Callee (X : Cx) (W : Wd) (k : Nat) (f : Addr) (ps : List Str) (dvs : List V) (r : List D → Hh → R D) : Prop :=
  ∃ (fd : FuncData) (ds : List Value), FnOk X.prog X.w X.K X.mg X.base (L2.CX X.prog X.w) k f fd ps (spF W r) ∧ PySem.W.keepIn X.K (.ref f) = true ∧ Binds X.K fd ps ds ∧ Vals dvs ds
def Maker (X : Cx) (W : Wd) (k cls : Nat) (ps : List Str) (dvs : List V) (r : List D → Hh → R D) : Prop :=
  ∃ (f : Addr) (fd : FuncData) (ds : List Value), Mk X.K (W.ca cls) f ∧ FnOk X.prog X.w X.K X.mg X.base (L2.CX X.prog X.w) k f fd ps (spM W cls r) ∧ Binds X.K fd ps ds ∧ Vals dvs ds
section
variable {X : Cx} {W : Wd} {wx : WX} {k cls n : Nat} {f : Addr} {ps : List Str} {r : List D → Hh → R D} {x m : Str} {p pos apos : Pos} {e o : Expr} {es : List Expr} {fs fk : AM} {fo : TM} {dds : List D} {dvs : List V}
theorem ec_call (J : Jc X W wx) (C : Callee X W k f ps dvs r) (hr : Room k X.A) (hdd : Dfl W dds dvs) (hm : X.mg x = some (.ref f)) (ha : AJ X W wx (e :: es) fs) (hg : Gl X x := by rfl)
    (hdb : (x == ("__debug__" : Str)) = false := by decide) (he : starEach (e :: es) X.env = (false, eval e X.env) :: starEach es X.env := by rfl) (hpl : (backTo pos (starEach es X.env)).any (·.1) = false := by rfl) :
    EJ X W wx (.Call (.Name x p) (e :: es) [] pos) (eCall (fun ds h => r (ds ++ dds) h) fs) := by
  obtain ⟨fd, ds, F, hk, hb, hd⟩ := C
  exact ej_call J F hr hg hm hk hb hd hdd ha hdb he hpl
theorem ec_call0 (J : Jc X W wx) (C : Callee X W k f ps dvs r) (hr : Room k X.A) (hdd : Dfl W dds dvs) (hm : X.mg x = some (.ref f)) (hg : Gl X x := by rfl) (hdb : (x == ("__debug__" : Str)) = false := by decide) :
    EJ X W wx (.Call (.Name x p) [] [] pos) (eCall (fun ds h => r (ds ++ dds) h) aNil) := by
  obtain ⟨fd, ds, F, hk, hb, hd⟩ := C
  exact ej_call0 J F hr hg hm hk hb hd hdd hdb
theorem ec_meth {pl : Sem Bool} (J : Jc X W wx) (C : Callee X W k f ps dvs r) (hr : Room k X.A) (hdd : Dfl W dds dvs) (c : Cls X.K (W.ca cls)) (hm : Meth X.K (W.ca cls) m f) (hnm : ∀ k, W.an k ≠ m) (ho : EJ X W wx o fo) (ha : AJ X W wx (e :: es) fs)
    (hst : starEach (e :: es) X.env = (false, eval e X.env) :: starEach es X.env := by rfl) (hpl : (backTo pos (starEach es X.env)).any (·.1) = false := by rfl)
    (ht : eval (.Call (.Attribute o m apos) (e :: es) [] pos) X.env = (do
      let ov ← eval o X.env
      standAt apos.atName
      let (f, first) ← holding [ov] (getMethod ov m pl)
      callWith pos f first (backTo pos (starEach (e :: es) X.env)) (backToKw pos (keywordEach [] X.env))) := by rfl) :
    EJ X W wx (.Call (.Attribute o m apos) (e :: es) [] pos) (eMeth (fun ds h => r (ds ++ dds) h) cls fo fs) := by
  obtain ⟨fd, ds, F, hk, hb, hd⟩ := C
  exact ej_meth J ho c hm hnm F hr hb hd hdd ha hst hpl ht
theorem ec_meth0 {pl : Sem Bool} (J : Jc X W wx) (C : Callee X W k f ps dvs r) (hr : Room k X.A) (hdd : Dfl W dds dvs) (c : Cls X.K (W.ca cls)) (hm : Meth X.K (W.ca cls) m f) (hnm : ∀ k, W.an k ≠ m) (ho : EJ X W wx o fo)
    (ht : eval (.Call (.Attribute o m apos) [] [] pos) X.env = (do
      let ov ← eval o X.env
      standAt apos.atName
      let (f, first) ← holding [ov] (getMethod ov m pl)
      callWith pos f first (backTo pos (starEach [] X.env)) (backToKw pos (keywordEach [] X.env))) := by rfl) :
    EJ X W wx (.Call (.Attribute o m apos) [] [] pos) (eMeth (fun ds h => r (ds ++ dds) h) cls fo aNil) := by
  obtain ⟨fd, ds, F, hk, hb, hd⟩ := C
  exact ej_meth0 J ho c hm hnm F hr hb hd hdd ht
theorem ec_make (J : Jc X W wx) (C : Maker X W k cls ps dvs r) (hr : Room (k + 1) X.A) (hdd : Dfl W dds dvs) (hm : X.mg x = some (.ref (W.ca cls))) (ha : AJ X W wx (e :: es) fs) (hg : Gl X x := by rfl)
    (hdb : (x == ("__debug__" : Str)) = false := by decide) (he : starEach (e :: es) X.env = (false, eval e X.env) :: starEach es X.env := by rfl) (hpl : (backTo pos (starEach es X.env)).any (·.1) = false := by rfl) :
    EJ X W wx (.Call (.Name x p) (e :: es) [] pos) (eCall (fun ds h => r (ds ++ dds) h) fs) := by
  obtain ⟨f, fd, ds, M, F, hb, hd⟩ := C
  exact ej_make J M F hr hg hm hb hd hdd ha hdb he hpl
/-- .. with keywords -/
def MakerK (X : Cx) (W : Wd) (k cls n : Nat) (ps ks : List Str) (gV : List V → List V → List V) (r : List D → Hh → R D) : Prop :=
  ∃ (f : Addr) (fd : FuncData) (g : List Value → List Value → List Value), Mk X.K (W.ca cls) f ∧ FnOk X.prog X.w X.K X.mg X.base (L2.CX X.prog X.w) k f fd ps (spM W cls r) ∧ KBn X.K fd ps (n + 1) ks g gV
/-- a list of so many values -/
def Len (fs : AM) (n : Nat) : Prop := ∀ {σ h ds h'}, fs σ h = .ok ds h' → ds.length = n
theorem len_nil : Len aNil 0 := fun e => by cases e; rfl
theorem len_cons {f : TM} (h : Len fs n) : Len (aCons f fs) (n + 1) := fun {σ h0 ds h'} e => by
  unfold aCons at e
  cases hf : f σ h0 with
  | ok d h1 =>
    rw [hf] at e
    simp only [R.bind_ok] at e
    cases hg : fs σ h1 with
    | ok es h2 => rw [hg] at e; cases e; simp [h hg]
    | xn x h2 => rw [hg] at e; cases e
    | bad => rw [hg] at e; cases e
  | xn x h1 => rw [hf] at e; cases e
  | bad => rw [hf] at e; cases e
theorem Len.post {fs : AM} {σd : Sg} {h : Hh} {n : Nat} {Z ρ : List Addr} {H : Hp} {P : List D → List Addr → Hh → Hp → Prop} {E : XK} (hl : Len fs n) (p : Post W Z ρ H (fs σd h) P E) : Post W Z ρ H (fs σd h) (fun ds ρ h H => ds.length = n ∧ P ds ρ h H) E := by
  cases hf : fs σd h with
  | ok ds h1 => rw [hf] at p; exact fun ρ' H' x S => ⟨hl hf, p ρ' H' x S⟩
  | xn e h1 => rw [hf] at p; exact p
  | bad => rw [hf] at p; exact p
/-- C(e, .., k = v, ..): gD puts the values behind self in order -/
theorem ec_makeK {kws : List Keyword} {ks : List Str} {gV : List V → List V → List V} {gD : List D → List D → List D} (J : Jc X W wx) (C : MakerK X W k cls n ps ks gV r) (hr : Room (k + 1) X.A)
    (hgd : ∀ (v : V) {Z ρ : List Addr} {H : Hp} {ds es : List D} {vs zs : List V}, RDs W Z ρ H ds vs → RDs W Z ρ H es zs → ∃ us, gV (v :: vs) zs = v :: us ∧ RDs W Z ρ H (gD ds es) us)
    (hm : X.mg x = some (.ref (W.ca cls))) (ha : AJ X W wx (e :: es) fs) (hkw : KJ X W wx kws fk) (hl : Len fs n) (hl2 : Len fk ks.length) (hg : Gl X x := by rfl)
    (hall : (backToKw pos (keywordEach kws X.env)).all (·.1.isSome) = true := by rfl) (hks : (backToKw pos (keywordEach kws X.env)).filterMap (·.1) = ks := by rfl)
    (hdb : (x == ("__debug__" : Str)) = false := by decide) (he : starEach (e :: es) X.env = (false, eval e X.env) :: starEach es X.env := by rfl)
    (hpl : ((backTo pos (starEach (e :: es) X.env)).any (·.1) || (backToKw pos (keywordEach kws X.env)).any (·.1.isNone)) = false := by rfl) :
    EJ X W wx (.Call (.Name x p) (e :: es) kws pos) (eCallK r gD fs fk) := by
  obtain ⟨f, fd, g, M, F, hb⟩ := C
  refine ⟨fun pins s σ H Q I ⟨Z, ρ, σd, h0, S, rs, pp⟩ => ?_⟩
  refine wpAny_Call_Name_kw (ld_glob I hg hm ?_ hdb)
  refine PySem.W.callWith_KW (h₀ := X.base) I.ok.mod.kin M.kp hall (thn (ha.run pos pins s σ H (fun vs H1 => vs.length = n ∧ tA W wx fk σ H1 fun zs H2 => zs.length = ks.length ∧
      ∀ x dx, H2 x = none → H2 dx = none → dx ≠ x → spM W cls r (gV (.ref x :: vs) zs) (upd (upd H2 dx (.own x)) x (.ins (W.ca cls) dx [])) (fun v H2 => v = .non ∧ Q (.ref x) H2) fun cls dd H => wx cls dd σ H) I
    ⟨Z, ρ, σd, h0, S, rs, (hl.post (Post.bind pp)).imp fun ds1 ρ1 h1 H1 x1 S1 p1 vs rvs => ?_⟩) fun us s1 ⟨vs, H1, I1, r, hln, q⟩ => ?_) hpl he
  · refine ⟨by rw [← rvs.length]; exact p1.1, Z, ρ1, σd, h1, S1, rs.mono x1, (hl2.post (Post.bind p1.2)).imp fun es2 ρ2 h2 H2 x2 S2 p2 zs rzs => ⟨by rw [← rzs.length]; exact p2.1, fun x dx hx hdx hne => ?_⟩⟩
    obtain ⟨us, e1, ru⟩ := hgd (.ref x) (rvs.mono x2) rzs
    rw [e1]
    exact spM_of S2 ru p2.2 x dx hx hdx hne
  · refine thn (hkw.run pos pins s1 σ H1 _ I1 q) fun ws s2 ⟨zs, H2, I2, rz, hl2', q2⟩ => ⟨I2.kIn, ?_⟩
    rw [hks]
    have hq := q2 (s2.heap.objs.size + 1) s2.heap.objs.size (I2.hok.fresh (Nat.le_succ _)) (I2.hok.fresh (Nat.le_refl _)) (Nat.ne_of_lt (Nat.lt_succ_self _))
    have I3 := Inv.made (C := W.ca cls) I2
    have rr : RelV (.ref (s2.heap.objs.size + 1)) (Value.ref (s2.heap.objs.size + 1)) := rfl
    refine wpAny_call (make_map (f := f) I2.kIn M.makes M.init (beq_iff_eq.mp M.fn) (codeAny_mono (F.run _ X.stack _ _ ⟨Value.ref (s2.heap.objs.size + 1) :: us, ks.zip ws⟩ (g (Value.ref (s2.heap.objs.size + 1) :: us) ws) _ _ _ (hr.make _ us (ks.zip ws))
      (I3.env0.make _ us (ks.zip ws)) (hb.to _ (Value.ref (s2.heap.objs.size + 1) :: us) ws I3.kIn (by rw [List.length_cons, ← r.length, hln]) (by rw [← rz.length]; exact hl2')) (hb.rel (Paired.cons rr r) rz) hq) fun r s' hq' => ?_))
    cases r with
    | error e => exact passAt J.tk σ pins _ _ e s' I3 hq'
    | ok fl =>
      cases fl with
      | ret u =>
        obtain ⟨v, H', I4, rv, ev, q3⟩ := I3.after hq'
        subst ev
        exact ⟨rv, ⟨V.ref (s2.heap.objs.size + 1), H', I4, rfl, q3⟩⟩
      | next => exact False.elim hq'
      | brk => exact False.elim hq'
      | cont => exact False.elim hq'
end
end Fw
end
section
set_option Elab.async false
set_option linter.all false
set_option maxRecDepth 100000
set_option autoImplicit false
set_option maxHeartbeats 1000000
/-! Fw15: small helps for the printed derivations. -/
namespace Fw
open PySem PySem.Spec PyProof.Rows L2
/-- a + b of lists, a new list of one's own -/
def eNewCat (a b : TM) : TM := fun σ h => (a σ h).bind fun d h => (b σ h).bind fun e h => match asLst h d, asLst h e with
  | some xs, some ys => if xs.length + ys.length ≤ line then .ok (.ref h.length) (h ++ [.lst (xs ++ ys)]) else .bad
  | _, _ => .bad
section
variable {X : Cx} {W : Wd} {wx : WX} {a b e : Expr} {fa fb : TM} {pos : Pos} {x : Str}
theorem ej_newCat (ha : EJ X W wx a fa) (hb : EJ X W wx b fb) : EJ X W wx (.BinOp a .Add b pos) (eNewCat fa fb) :=
  ⟨fun pins s σ H Q I ⟨Z, ρ, σd, h0, S, rs, p⟩ => (pe_op op_cat ha hb).run pins s σ H Q I
    ⟨Z, ρ, σd, h0, S, rs, (Post.bind p).imp fun d ρ1 h1 H1 x1 S1 p1 v rv =>
      ⟨Z, ρ1, σd, h1, S1, rs.mono x1, (Post.bind p1).imp fun e ρ2 h2 H2 x2 S2 p2 u ru => by
        cases e1 : asLst h2 d with
        | none => rw [e1] at p2; exact p2.elim
        | some xs =>
          cases e2 : asLst h2 e with
          | none => rw [e1, e2] at p2; exact p2.elim
          | some ys =>
            rw [e1, e2] at p2
            dsimp only at p2
            split at p2
            · rename_i hl
              obtain ⟨ad, vs, rfl, qa, ra⟩ := asLst_ok S2 (rv.mono x2) e1
              obtain ⟨bd, us, rfl, qb, rb⟩ := asLst_ok S2 ru e2
              refine ⟨ad, bd, vs, us, rfl, rfl, qa, qb, by rw [← ra.length, ← rb.length, ← line_eq]; exact hl, fun q n => ?_⟩
              exact p2 (ρ2 ++ [q]) _ (Ext.own n) (S2.own (o := .lst (vs ++ us)) (ob := .lst (xs ++ ys)) n (.lst upd_same ((ra.append rb).mono (Ext.own n)))) (.ref q) (.ref (by rw [← S2.len]; simp))
            · exact p2.elim⟩⟩⟩
/-- a number, a text of the module -/
theorem ej_gi {i : Int} (hm : ∃ t, X.mg x = some (.int i t)) (hg : Gl X x := by rfl) (hd : (x == ("__debug__" : Str)) = false := by decide) : EJ X W wx (.Name x pos) (eC (.int i)) := by
  obtain ⟨t, e⟩ := hm
  exact ej_c (pe_glob (v := .int i) hg e ⟨t, rfl⟩ hd) fun _ _ _ => .int i
theorem ej_gs {s : Tx} (hm : ∃ t, X.mg x = some (.str (toS s) t)) (hg : Gl X x := by rfl) (hd : (x == ("__debug__" : Str)) = false := by decide) : EJ X W wx (.Name x pos) (eC (.str s)) := by
  obtain ⟨t, e⟩ := hm
  exact ej_c (pe_glob (v := .str (toS s)) hg e ⟨t, rfl⟩ hd) fun _ _ _ => .str s
end
/-! ### built-in classes for isinstance -/
section
variable {K : PySem.W.Frag} {W : Wd}
theorem kit_of {u : String} {T : T1} (h : kitB "NoneType" u = some (decide (T1.non = T)) ∧ kitB "bool" u = some (decide (T = .bl) || decide (T = .int)) ∧ kitB "int" u = some (decide (T1.int = T)) ∧ kitB "str" u = some (decide (T1.str = T)) ∧
    kitB "tuple" u = some (decide (T1.tup = T)) ∧ kitB "list" u = some (decide (T1.lst = T)) ∧ kitB "dict" u = some (decide (T1.dct = T))) : KitOk K W (.type u) (isOf T) := by
  obtain ⟨h1, h2, h3, h4, h5, h6, h7⟩ := h
  refine ⟨?_, ?_, ?_, ?_, ?_, ?_, ?_, ?_⟩
  · intro b e; simp only [isOf, Option.some.injEq] at e; subst e; exact kit_ty h1
  · intro b e; simp only [isOf, Option.some.injEq] at e; subst e; exact kit_ty h2
  · intro b e; simp only [isOf, Option.some.injEq] at e; subst e; exact kit_ty h3
  · intro b e; simp only [isOf, Option.some.injEq] at e; subst e; exact kit_ty h4
  · intro b e; simp only [isOf, Option.some.injEq] at e; subst e; exact kit_ty h5
  · intro b e; simp only [isOf, Option.some.injEq] at e; subst e; exact kit_ty h6
  · intro b e; simp only [isOf, Option.some.injEq] at e; subst e; exact kit_ty h7
  · intro c b e; simp [isOf] at e
theorem kit_int : KitOk K W (.type "int") (isOf .int) := kit_of (by decide +kernel)
theorem kit_bool : KitOk K W (.type "bool") (isOf .bl) := kit_of (by decide +kernel)
theorem kit_str : KitOk K W (.type "str") (isOf .str) := kit_of (by decide +kernel)
theorem kit_tuple : KitOk K W (.type "tuple") (isOf .tup) := kit_of (by decide +kernel)
theorem kit_list : KitOk K W (.type "list") (isOf .lst) := kit_of (by decide +kernel)
theorem kit_dict : KitOk K W (.type "dict") (isOf .dct) := kit_of (by decide +kernel)
end
/-! ### names of attributes by number -/
def anOf (l : List Str) (k : Nat) : Str := match l[k]? with
  | some s => s
  | none => ⟨#[3000000 + k]⟩
theorem anOf_inj {l : List Str} (nd : l.Nodup) (hs : (l.all fun s => s.cps.toList.all fun c => decide (c < 3000000)) = true) : ∀ j k, anOf l j = anOf l k → j = k := by
  have big : ∀ (s : Str) (n : Nat), s ∈ l → s ≠ ⟨#[3000000 + n]⟩ := by
    intro s n hm e
    have h1 := List.all_eq_true.mp hs s hm
    rw [e] at h1
    simp at h1
    omega
  intro j k e
  unfold anOf at e
  cases hj : l[j]? with
  | some s =>
    cases hk : l[k]? with
    | some t =>
      rw [hj, hk] at e
      simp only at e
      subst e
      exact (List.getElem?_inj (List.getElem?_eq_some_iff.mp hj).1 nd).mp (hj.trans hk.symm)
    | none => rw [hj, hk] at e; exact absurd e (big s k (List.mem_of_getElem? hj))
  | none =>
    cases hk : l[k]? with
    | some t => rw [hj, hk] at e; exact absurd e.symm (big t j (List.mem_of_getElem? hk))
    | none =>
      rw [hj, hk] at e
      simp at e
      omega
theorem anOf_ne {l : List Str} {m : Str} (h : (l.all fun s => decide (s ≠ m)) = true) (h2 : (m.cps.toList.all fun c => decide (c < 3000000)) = true) : ∀ k, anOf l k ≠ m := by
  intro k e
  unfold anOf at e
  cases hk : l[k]? with
  | some s =>
    rw [hk] at e
    have := List.all_eq_true.mp h s (List.mem_of_getElem? hk)
    simp at this
    exact this e
  | none =>
    rw [hk] at e
    subst e
    simp at h2
    omega
/-! ### a def by name -/
abbrev FnD (K : PySem.W.Frag) (d : He.DefD) (fd : FuncData) : Prop := FunD K d.name d.qual d.params d.body d.scope (d.dvs K) (d.kws K) (He.fAd K d.at_) fd
/-- what a def promises, whatever the context -/
def CalleeB (P : Program) (w : World) (K : PySem.W.Frag) (mg : Str → Option Value) (base : Heap) (W : Wd) (k : Nat) (f : Addr) (ps : List Str) (dvs : List V) (r : List D → Hh → R D) : Prop :=
  ∃ (fd : FuncData) (ds : List Value), FnOk P w K mg base (L2.CX P w) k f fd ps (spF W r) ∧ PySem.W.keepIn K (.ref f) = true ∧ Binds K fd ps ds ∧ Vals dvs ds
def MakerB (P : Program) (w : World) (K : PySem.W.Frag) (mg : Str → Option Value) (base : Heap) (W : Wd) (k cls : Nat) (ps : List Str) (dvs : List V) (r : List D → Hh → R D) : Prop :=
  ∃ (f : Addr) (fd : FuncData) (ds : List Value), Mk K (W.ca cls) f ∧ FnOk P w K mg base (L2.CX P w) k f fd ps (spM W cls r) ∧ Binds K fd ps ds ∧ Vals dvs ds
def MakerKB (P : Program) (w : World) (K : PySem.W.Frag) (mg : Str → Option Value) (base : Heap) (W : Wd) (k cls n : Nat) (ps ks : List Str) (gV : List V → List V → List V) (r : List D → Hh → R D) : Prop :=
  ∃ (f : Addr) (fd : FuncData) (g : List Value → List Value → List Value), Mk K (W.ca cls) f ∧ FnOk P w K mg base (L2.CX P w) k f fd ps (spM W cls r) ∧ KBn K fd ps (n + 1) ks g gV
/-- the object that the keyword-only default x of a def is -/
def kwA (p : Str × Option Str) (x : Str) (K : PySem.W.Frag) : Addr := match K.lookup (He.fAd K p) with
  | some ⟨_, _, .func fd, _⟩ => (match fd.kwdefaults with
    | .ref D => (match PySem.W.nsIn K D x with
      | some (some (.ref a)) => a
      | _ => 0)
    | _ => 0)
  | _ => 0
/-- no promise at all -/
theorem spF_bad {W : Wd} {vs : List V} {H : Hp} {Q : VK} {E : XK} (p : spF W (fun _ _ => .bad) vs H Q E) : False := by
  obtain ⟨Z, ρ, h, ds, S, r, p⟩ := p
  exact p
theorem spM_bad {W : Wd} {c : Nat} {vs : List V} {H : Hp} {Q : VK} {E : XK} (p : spM W c (fun _ _ => .bad) vs H Q E) : False := by
  obtain ⟨x, dx, us, H0, _, _, _, _, _, Z, ρ, h, ds, S, r, p⟩ := p
  exact p
theorem fn_bad {P : Program} {w : World} {K : PySem.W.Frag} {mg : Str → Option Value} {base : Heap} {W : Wd} {k : Nat} {f : Addr} {fd : FuncData} {ps : List Str} : FnOk P w K mg base (L2.CX P w) k f fd ps (spF W fun _ _ => .bad) :=
  ⟨fun _ _ _ _ p => (spF_bad p).elim, fun _ _ _ _ _ _ _ _ _ _ _ _ _ p => (spF_bad p).elim⟩
theorem fn_badM {P : Program} {w : World} {K : PySem.W.Frag} {mg : Str → Option Value} {base : Heap} {W : Wd} {k c : Nat} {f : Addr} {fd : FuncData} {ps : List Str} : FnOk P w K mg base (L2.CX P w) k f fd ps (spM W c fun _ _ => .bad) :=
  ⟨fun _ _ _ _ p => (spM_bad p).elim, fun _ _ _ _ _ _ _ _ _ _ _ _ _ p => (spM_bad p).elim⟩
end Fw
end
section
set_option Elab.async false
set_option linter.all false
set_option maxRecDepth 100000
set_option autoImplicit false
set_option maxHeartbeats 0
namespace Lw
open PySem PySem.Spec PyProof.Rows L2 Fw
def top (i : Nat) : Stmt := PySem.Challenge.pw_appendedbook_k15_what_is_met.main.body.getD i (.Pass ⟨0, 0, 0, 0⟩)
def inC (s : Stmt) (j : Nat) : Stmt := match s with
  | .ClassDef _ _ _ b _ _ _ _ _ _ _ => b.getD j (.Pass ⟨0, 0, 0, 0⟩)
  | _ => s
def empA : PySem.W.Frag → Addr := kwA ("Book", some "__init__") "free"
abbrev st0 : Stmt := top 3
def d0 : He.DefD := ⟨("is_whole", none), "is_whole", "is_whole", defArgs st0, defBody st0, defScope st0, [], []⟩
abbrev N0 : List Str := ["thing"]
abbrev ps0 : List Str := ["thing"]
theorem sc0 : FnScope N0 ps0 (defScope st0) := ⟨rfl, rfl, rfl, by decide +kernel, rfl, by decide +kernel, by decide +kernel⟩
abbrev st1 : Stmt := top 4
def d1 : He.DefD := ⟨("is_from", none), "is_from", "is_from", defArgs st1, defBody st1, defScope st1, [], []⟩
abbrev N1 : List Str := ["thing", "least", "most"]
abbrev ps1 : List Str := ["thing", "least", "most"]
theorem sc1 : FnScope N1 ps1 (defScope st1) := ⟨rfl, rfl, rfl, by decide +kernel, rfl, by decide +kernel, by decide +kernel⟩
abbrev st2 : Stmt := top 5
def d2 : He.DefD := ⟨("is_number", none), "is_number", "is_number", defArgs st2, defBody st2, defScope st2, [], []⟩
abbrev N2 : List Str := ["thing"]
abbrev ps2 : List Str := ["thing"]
theorem sc2 : FnScope N2 ps2 (defScope st2) := ⟨rfl, rfl, rfl, by decide +kernel, rfl, by decide +kernel, by decide +kernel⟩
abbrev st3 : Stmt := top 6
def d3 : He.DefD := ⟨("is_edition", none), "is_edition", "is_edition", defArgs st3, defBody st3, defScope st3, [], []⟩
abbrev N3 : List Str := ["thing"]
abbrev ps3 : List Str := ["thing"]
theorem sc3 : FnScope N3 ps3 (defScope st3) := ⟨rfl, rfl, rfl, by decide +kernel, rfl, by decide +kernel, by decide +kernel⟩
abbrev st4 : Stmt := top 7
def d4 : He.DefD := ⟨("is_reference", none), "is_reference", "is_reference", defArgs st4, defBody st4, defScope st4, [], []⟩
abbrev N4 : List Str := ["thing"]
abbrev ps4 : List Str := ["thing"]
theorem sc4 : FnScope N4 ps4 (defScope st4) := ⟨rfl, rfl, rfl, by decide +kernel, rfl, by decide +kernel, by decide +kernel⟩
abbrev st5 : Stmt := top 8
def d5 : He.DefD := ⟨("is_kind", none), "is_kind", "is_kind", defArgs st5, defBody st5, defScope st5, [], []⟩
abbrev N5 : List Str := ["thing", "word"]
abbrev ps5 : List Str := ["thing", "word"]
theorem sc5 : FnScope N5 ps5 (defScope st5) := ⟨rfl, rfl, rfl, by decide +kernel, rfl, by decide +kernel, by decide +kernel⟩
abbrev st6 : Stmt := top 9
def d6 : He.DefD := ⟨("parts_of", none), "parts_of", "parts_of", defArgs st6, defBody st6, defScope st6, [], []⟩
abbrev N6 : List Str := ["value", "word", "part"]
abbrev ps6 : List Str := ["value"]
theorem sc6 : FnScope N6 ps6 (defScope st6) := ⟨rfl, rfl, rfl, by decide +kernel, rfl, by decide +kernel, by decide +kernel⟩
abbrev st7 : Stmt := top 10
def d7 : He.DefD := ⟨("references", none), "references", "references", defArgs st7, defBody st7, defScope st7, [], []⟩
abbrev N7 : List Str := ["value", "part", "found"]
abbrev ps7 : List Str := ["value"]
theorem sc7 : FnScope N7 ps7 (defScope st7) := ⟨rfl, rfl, rfl, by decide +kernel, rfl, by decide +kernel, by decide +kernel⟩
abbrev st8 : Stmt := inC (top 12) 0
def d8 : He.DefD := ⟨("Book", some "__init__"), "__init__", "Book.__init__", defArgs st8, defBody st8, defScope st8, [], [("root", .non), ("free", .adr empA)]⟩
abbrev N8 : List Str := ["self", "things", "root", "free"]
abbrev ps8 : List Str := ["self", "things", "root", "free"]
theorem sc8 : FnScope N8 ps8 (defScope st8) := ⟨rfl, rfl, rfl, by decide +kernel, rfl, by decide +kernel, by decide +kernel⟩
abbrev st9 : Stmt := inC (top 12) 6
def d9 : He.DefD := ⟨("Book", some "edition"), "edition", "Book.edition", defArgs st9, defBody st9, defScope st9, [], []⟩
abbrev N9 : List Str := ["self", "number"]
abbrev ps9 : List Str := ["self", "number"]
theorem sc9 : FnScope N9 ps9 (defScope st9) := ⟨rfl, rfl, rfl, by decide +kernel, rfl, by decide +kernel, by decide +kernel⟩
abbrev st10 : Stmt := inC (top 12) 8
def d10 : He.DefD := ⟨("Book", some "leads"), "leads", "Book.leads", defArgs st10, defBody st10, defScope st10, [], []⟩
abbrev N10 : List Str := ["self", "reference"]
abbrev ps10 : List Str := ["self", "reference"]
theorem sc10 : FnScope N10 ps10 (defScope st10) := ⟨rfl, rfl, rfl, by decide +kernel, rfl, by decide +kernel, by decide +kernel⟩
abbrev st11 : Stmt := inC (top 12) 10
def d11 : He.DefD := ⟨("Book", some "met"), "met", "Book.met", defArgs st11, defBody st11, defScope st11, [], []⟩
abbrev N11 : List Str := ["self", "found", "at"]
abbrev ps11 : List Str := ["self"]
theorem sc11 : FnScope N11 ps11 (defScope st11) := ⟨rfl, rfl, rfl, by decide +kernel, rfl, by decide +kernel, by decide +kernel⟩
abbrev st12 : Stmt := inC (top 12) 11
def d12 : He.DefD := ⟨("Book", some "meet"), "meet", "Book.meet", defArgs st12, defBody st12, defScope st12, [], []⟩
abbrev N12 : List Str := ["self", "some", "found", "reference"]
abbrev ps12 : List Str := ["self", "some", "found"]
theorem sc12 : FnScope N12 ps12 (defScope st12) := ⟨rfl, rfl, rfl, by decide +kernel, rfl, by decide +kernel, by decide +kernel⟩
abbrev st13 : Stmt := top 14
def d13 : He.DefD := ⟨("_law_room", none), "_law_room", "_law_room", defArgs st13, defBody st13, defScope st13, [], []⟩
abbrev N13 : List Str := ["_law_script", "_law_k", "_law_cell", "_law_left"]
abbrev ps13 : List Str := ["_law_script", "_law_k"]
theorem sc13 : FnScope N13 ps13 (defScope st13) := ⟨rfl, rfl, rfl, by decide +kernel, rfl, by decide +kernel, by decide +kernel⟩
abbrev st14 : Stmt := top 15
def d14 : He.DefD := ⟨("_law_take", none), "_law_take", "_law_take", defArgs st14, defBody st14, defScope st14, [], []⟩
abbrev N14 : List Str := ["_law_room_here", "_law_many", "_law_found"]
abbrev ps14 : List Str := ["_law_room_here", "_law_many"]
theorem sc14 : FnScope N14 ps14 (defScope st14) := ⟨rfl, rfl, rfl, by decide +kernel, rfl, by decide +kernel, by decide +kernel⟩
abbrev st15 : Stmt := top 16
def d15 : He.DefD := ⟨("_law_word", none), "_law_word", "_law_word", defArgs st15, defBody st15, defScope st15, [], []⟩
abbrev N15 : List Str := ["_law_room_here", "_law_letters", "_law_many", "_law_turn"]
abbrev ps15 : List Str := ["_law_room_here"]
theorem sc15 : FnScope N15 ps15 (defScope st15) := ⟨rfl, rfl, rfl, by decide +kernel, rfl, by decide +kernel, by decide +kernel⟩
abbrev st16 : Stmt := top 17
def d16 : He.DefD := ⟨("_law_text", none), "_law_text", "_law_text", defArgs st16, defBody st16, defScope st16, [], []⟩
abbrev N16 : List Str := ["_law_room_here", "_law_signs", "_law_turn"]
abbrev ps16 : List Str := ["_law_room_here"]
theorem sc16 : FnScope N16 ps16 (defScope st16) := ⟨rfl, rfl, rfl, by decide +kernel, rfl, by decide +kernel, by decide +kernel⟩
abbrev st17 : Stmt := top 18
def d17 : He.DefD := ⟨("_law_reference", none), "_law_reference", "_law_reference", defArgs st17, defBody st17, defScope st17, [], []⟩
abbrev N17 : List Str := ["_law_room_here", "_law_number"]
abbrev ps17 : List Str := ["_law_room_here"]
theorem sc17 : FnScope N17 ps17 (defScope st17) := ⟨rfl, rfl, rfl, by decide +kernel, rfl, by decide +kernel, by decide +kernel⟩
abbrev st18 : Stmt := top 19
def d18 : He.DefD := ⟨("_law_entries", none), "_law_entries", "_law_entries", defArgs st18, defBody st18, defScope st18, [], []⟩
abbrev N18 : List Str := ["_law_room_here", "_law_deep", "_law_found", "_law_turn", "_law_word_here"]
abbrev ps18 : List Str := ["_law_room_here", "_law_deep"]
theorem sc18 : FnScope N18 ps18 (defScope st18) := ⟨rfl, rfl, rfl, by decide +kernel, rfl, by decide +kernel, by decide +kernel⟩
abbrev st19 : Stmt := top 20
def d19 : He.DefD := ⟨("_law_plain", none), "_law_plain", "_law_plain", defArgs st19, defBody st19, defScope st19, [], []⟩
abbrev N19 : List Str := ["_law_room_here", "_law_deep", "_law_way", "_law_turn"]
abbrev ps19 : List Str := ["_law_room_here", "_law_deep"]
theorem sc19 : FnScope N19 ps19 (defScope st19) := ⟨rfl, rfl, rfl, by decide +kernel, rfl, by decide +kernel, by decide +kernel⟩
abbrev st20 : Stmt := top 23
def d20 : He.DefD := ⟨("_law_references", none), "_law_references", "_law_references", defArgs st20, defBody st20, defScope st20, [], []⟩
abbrev N20 : List Str := ["_law_value_here", "_law_some", "_law_found", "_law_one", "_law_word_here"]
abbrev ps20 : List Str := ["_law_value_here"]
theorem sc20 : FnScope N20 ps20 (defScope st20) := ⟨rfl, rfl, rfl, by decide +kernel, rfl, by decide +kernel, by decide +kernel⟩
abbrev st21 : Stmt := top 24
def d21 : He.DefD := ⟨("_law_holding", none), "_law_holding", "_law_holding", defArgs st21, defBody st21, defScope st21, [], []⟩
abbrev N21 : List Str := ["_law_room_here", "_law_many", "_law_some", "_law_way", "_law_words", "_law_entries_here", "_law_turn", "_law_word_here", "_law_one"]
abbrev ps21 : List Str := ["_law_room_here", "_law_many"]
theorem sc21 : FnScope N21 ps21 (defScope st21) := ⟨rfl, rfl, rfl, by decide +kernel, rfl, by decide +kernel, by decide +kernel⟩
abbrev st22 : Stmt := top 25
def d22 : He.DefD := ⟨("_law_due", none), "_law_due", "_law_due", defArgs st22, defBody st22, defScope st22, [], []⟩
abbrev N22 : List Str := ["_law_things", "_law_top", "_law_found", "_law_waits", "_law_one"]
abbrev ps22 : List Str := ["_law_things", "_law_top"]
theorem sc22 : FnScope N22 ps22 (defScope st22) := ⟨rfl, rfl, rfl, by decide +kernel, rfl, by decide +kernel, by decide +kernel⟩
abbrev st23 : Stmt := top 26
def d23 : He.DefD := ⟨("law", none), "law", "law", defArgs st23, defBody st23, defScope st23, [], []⟩
abbrev N23 : List Str := ["_law_script", "_law_k", "_law_room_here", "_law_many", "_law_things", "_law_spot", "_law_top", "_law_book", "_law_due_here"]
abbrev ps23 : List Str := ["_law_script"]
theorem sc23 : FnScope N23 ps23 (defScope st23) := ⟨rfl, rfl, rfl, by decide +kernel, rfl, by decide +kernel, by decide +kernel⟩
abbrev flds : List Str := ["own_things", "own_free", "own_root"]
def Wk (K : PySem.W.Frag) : Wd where
  K := K
  fa := fun _ => empA K
  ca := fun c => match c with
    | 0 => He.ga K "Book"
    | _ => 0
  an := anOf flds
  inj := anOf_inj (by decide +kernel) (by decide +kernel)
def df_Book_init : List D := [.non, .fn empT]
def dv8 (K : PySem.W.Frag) : List V := [.non, .ref (empA K)]
theorem dfl8 {K : PySem.W.Frag} : Dfl (Wk K) df_Book_init (dv8 K) := fun _ _ _ => (.cons .non (.cons (.fn empT) .nil))
def kd_Book_init_root (ds es : List D) : List D := match ds, es with
  | [u0], [z0] => [u0, z0, (.fn empT)]
  | _, _ => []
def gg8_root {α : Type} (us ms zs : List α) : List α := match us, ms, zs with
  | [u0, u1], [m0], [z0] => [u0, u1, z0, m0]
  | u :: _, _, _ => [u]
  | _, _, _ => []
def lk8_root (K : PySem.W.Frag) : List (Str × V) := [("free", .ref (empA K))]
def kv8_root (K : PySem.W.Frag) (vs zs : List V) : List V := gg8_root vs ((lk8_root K).map (·.2)) zs
theorem kg8_root {K : PySem.W.Frag} (v : V) {Z ρ : List Addr} {H : Hp} {ds es : List D} {vs zs : List V} (r : RDs (Wk K) Z ρ H ds vs) (t : RDs (Wk K) Z ρ H es zs) : ∃ us, kv8_root K (v :: vs) zs = v :: us ∧ RDs (Wk K) Z ρ H (kd_Book_init_root ds es) us := by
  cases r with
  | nil => exact ⟨[], rfl, .nil⟩
  | cons r0 rr0 =>
    cases rr0 with
    | cons _ _ => exact ⟨[], rfl, .nil⟩
    | nil =>
      cases t with
      | nil => exact ⟨[], rfl, .nil⟩
      | cons t0 tt0 =>
        cases tt0 with
        | cons _ _ => exact ⟨[], rfl, .nil⟩
        | nil => exact ⟨_, rfl, (.cons r0 (.cons t0 (.cons (.fn empT) .nil)))⟩

def ix_is_whole : Nat := 0
def ix_is_from : Nat := 1
def ix_is_number : Nat := 2
def ix_is_edition : Nat := 3
def ix_is_reference : Nat := 4
def ix_is_kind : Nat := 5
def ix_parts_of : Nat := 6
def ix_references : Nat := 7
def ix_Book_init : Nat := 8
def ix_Book_edition : Nat := 9
def ix_Book_leads : Nat := 10
def ix_Book_met : Nat := 11
def ix_Book_met_full : Nat := 511
def ix_Book_meet : Nat := 12
def ix__law_room : Nat := 13
def ix__law_take : Nat := 14
def ix__law_word : Nat := 15
def ix__law_text : Nat := 16
def ix__law_reference : Nat := 17
def ix__law_entries : Nat := 18
def ix__law_plain : Nat := 19
def ix__law_references : Nat := 20
def ix__law_holding : Nat := 21
def ix__law_due : Nat := 22
def ix_law : Nat := 23
def b_is_whole (c : Nat → List D → Hh → R D) (F : Nat) : SM := (sCons (sRet (eAnd (eU (isT (isOf .int)) (eV 0)) (eNot (eU (isT (isOf .bl)) (eV 0)))))
 sNil)
def b_is_from (c : Nat → List D → Hh → R D) (F : Nat) : SM := (sCons (sRet (eAnd (eCall (fun ds h => c ix_is_whole (ds ++ []) h) (aCons (eV 0) aNil)) (eCh .le .le (eV 1) (eV 0) (eV 2))))
 sNil)
def b_is_number (c : Nat → List D → Hh → R D) (F : Nat) : SM := (sCons (sRet (eCall (fun ds h => c ix_is_from (ds ++ []) h) (aCons (eV 0) (aCons (eC (.int 1)) (aCons (eC (.int 200)) aNil)))))
 sNil)
def b_is_edition (c : Nat → List D → Hh → R D) (F : Nat) : SM := (sCons (sRet (eCall (fun ds h => c ix_is_from (ds ++ []) h) (aCons (eV 0) (aCons (eC (.int 0)) (aCons (eC (.int 99)) aNil)))))
 sNil)
def b_is_reference (c : Nat → List D → Hh → R D) (F : Nat) : SM := (sCons (sIf (bOr (bNot (bT (eU (isT (isOf .tup)) (eV 0)))) (bOr (bCmp .ne (eU lenD (eV 0)) (eC (.int 3))) (bNot (bT (eCall (fun ds h => c ix_is_kind (ds ++ []) h) (aCons (eV 0) (aCons (eC (.str [116, 111])) aNil))))))) (sCons (sRet (eC (.bl false)))
 sNil) sNil)
 (sCons (sRet (eAnd (eCall (fun ds h => c ix_is_number (ds ++ []) h) (aCons (eIx (eV 0) (eC (.int 1))) aNil)) (eCall (fun ds h => c ix_is_edition (ds ++ []) h) (aCons (eIx (eV 0) (eC (.int 2))) aNil))))
 sNil))
def b_is_kind (c : Nat → List D → Hh → R D) (F : Nat) : SM := (sCons (sRet (eAnd (eU (isT (isOf .str)) (eIx (eV 0) (eC (.int 0)))) (eCmp .eq (eIx (eV 0) (eC (.int 0))) (eV 1))))
 sNil)
def b_parts_of (c : Nat → List D → Hh → R D) (F : Nat) : SM := (sCons (sIf (bNot (bT (eU (isT (isOf .tup)) (eV 0)))) (sCons (sRet (eLst aNil))
 sNil) sNil)
 (sCons (sIf (bCmp .eq (eIx (eV 0) (eC (.int 0))) (eC (.str [114, 111, 119]))) (sCons (sRet (eU listD (eIx (eV 0) (eC (.int 1)))))
 sNil) sNil)
 (sCons (sIf (bCmp .in_ (eIx (eV 0) (eC (.int 0))) (eTup (aCons (eC (.str [116, 97, 98, 108, 101])) (aCons (eC (.str [115, 116, 114, 101, 97, 109])) aNil)))) (sCons (sRet (eLc (eV 2) (.tp [(.nm 1), (.nm 2)]) .e (aCons (eIx (eV 0) (eC (.int 1))) aNil) bYes [1, 2]))
 sNil) sNil)
 (sCons (sRet (eLst aNil))
 sNil))))
def b_references (c : Nat → List D → Hh → R D) (F : Nat) : SM := (sCons (sIf (bAnd (bT (eU (isT (isOf .tup)) (eV 0))) (bCmp .eq (eIx (eV 0) (eC (.int 0))) (eC (.str [116, 111])))) (sCons (sRet (eLst (aCons (eV 0) aNil)))
 sNil) sNil)
 (sCons (sRet (eLc2 (eV 2) (.nm 1) .e (aCons (eCall (fun ds h => c ix_parts_of (ds ++ []) h) (aCons (eV 0) aNil)) aNil) bYes (.nm 2) .e (aCons (eCall (fun ds h => c ix_references (ds ++ []) h) (aCons (eV 1) aNil)) aNil) bYes [1, 2] [2]))
 sNil))
def b_Book_init (c : Nat → List D → Hh → R D) (F : Nat) : SM := (sCons (sSetF 0 (eV 0) 0 (eU dictD (eV 1)))
 (sCons (sSetF 0 (eV 0) 1 (eU dictD (eV 3)))
 (sCons (sSetF 0 (eV 0) 2 (eV 2))
 sNil)))
def b_Book_edition (c : Nat → List D → Hh → R D) (F : Nat) : SM := (sCons (sIf (bOr (bNot (bT (eCall (fun ds h => c ix_is_number (ds ++ []) h) (aCons (eV 1) aNil)))) (bCmp .notin (eV 1) (eFld 0 0 (eV 0)))) (sCons (sRet (eC .non))
 sNil) sNil)
 (sCons (sRet (eIx (eIx (eFld 0 0 (eV 0)) (eV 1)) (eC (.int 0))))
 sNil))
def b_Book_leads (c : Nat → List D → Hh → R D) (F : Nat) : SM := (sCons (sRet (eAnd (eCall (fun ds h => c ix_is_reference (ds ++ []) h) (aCons (eV 1) aNil)) (eCmp .eq (eMeth (fun ds h => c ix_Book_edition (ds ++ []) h) 0 (eV 0) (aCons (eIx (eV 1) (eC (.int 1))) aNil)) (eIx (eV 1) (eC (.int 2))))))
 sNil)
def b_Book_met (c : Nat → List D → Hh → R D) (F : Nat) : SM := (sCons (sSet 1 (eNewL aNil))
 (sCons (sEx (eMeth (fun ds h => c ix_Book_meet (ds ++ []) h) 0 (eV 0) (aCons (eLst (aCons (eFld 0 2 (eV 0)) aNil)) (aCons (eV 1) aNil))))
 (sCons (sSet 2 (eC (.int 0)))
 (sCons (sWh F (bCmp .lt (eV 2) (eU lenD (eV 1))) (sCons (sEx (eMeth (fun ds h => c ix_Book_meet (ds ++ []) h) 0 (eV 0) (aCons (eCall (fun ds h => c ix_references (ds ++ []) h) (aCons (eIx (eIx (eFld 0 0 (eV 0)) (eIx (eV 1) (eV 2))) (eC (.int 1))) aNil)) (aCons (eV 1) aNil))))
 (sCons (sAug 2 .add (eC (.int 1)))
 sNil)))
 (sCons (sRet (eV 1))
 sNil)))))
def b_Book_meet (c : Nat → List D → Hh → R D) (F : Nat) : SM := (sCons (sFor (.nm 3) .e (aCons (eV 1) aNil) (sCons (sIf (bAnd (bT (eMeth (fun ds h => c ix_Book_leads (ds ++ []) h) 0 (eV 0) (aCons (eV 3) aNil))) (bCmp .notin (eIx (eV 3) (eC (.int 1))) (eV 2))) (sCons (sEx (eM isLst appD (eV 2) (eIx (eV 3) (eC (.int 1)))))
 sNil) sNil)
 sNil))
 sNil)
def b__law_room (c : Nat → List D → Hh → R D) (F : Nat) : SM := (sCons (sSet 2 (eC (.int 0)))
 (sCons (sIf (bCmp .lt (eV 1) (eU lenD (eV 0))) (sCons (sSet 2 (eIx (eV 0) (eV 1)))
 sNil) sNil)
 (sCons (sSet 3 (eC (.int 0)))
 (sCons (sIf (bCmp .ge (eV 2) (eBin .pow (eC (.int 10)) (eC (.int 18)))) (sCons (sSet 3 (eV 2))
 sNil) sNil)
 (sCons (sRet (eNewL (aCons (eV 3) (aCons (eBin .mod (eBin .mul (eBin .add (eBin .add (eBin .mod (eV 2) (eC (.int 2147483629))) (eBin .mul (eBin .mul (eC (.int 104729)) (eV 1)) (eV 1))) (eC (.int 7))) (eC (.int 48271))) (eC (.int 2147483647))) aNil))))
 sNil)))))
def b__law_take (c : Nat → List D → Hh → R D) (F : Nat) : SM := (sCons (sIf (bCmp .gt (eIx (eV 0) (eC (.int 0))) (eC (.int 0))) (sCons (sSet 2 (eBin .mod (eIx (eV 0) (eC (.int 0))) (eV 1)))
 (sCons (sSetI (eV 0) (eC (.int 0)) (eBin .fdiv (eIx (eV 0) (eC (.int 0))) (eV 1)))
 (sCons (sRet (eV 2))
 sNil))) sNil)
 (sCons (sSetI (eV 0) (eC (.int 1)) (eBin .mod (eBin .add (eBin .mul (eIx (eV 0) (eC (.int 1))) (eC (.int 48271))) (eC (.int 39373))) (eC (.int 2147483647))))
 (sCons (sSet 2 (eBin .fdiv (eBin .mod (eBin .mul (eIx (eV 0) (eC (.int 1))) (eIx (eV 0) (eC (.int 1)))) (eC (.int 2147483629))) (eC (.int 16))))
 (sCons (sIf (bCmp .gt (eV 1) (eBin .pow (eC (.int 10)) (eC (.int 6)))) (sCons (sSetI (eV 0) (eC (.int 1)) (eBin .mod (eBin .add (eBin .mul (eIx (eV 0) (eC (.int 1))) (eC (.int 48271))) (eC (.int 39373))) (eC (.int 2147483647))))
 (sCons (sSet 2 (eBin .add (eBin .mul (eV 2) (eC (.int 2147483629))) (eBin .mod (eBin .mul (eIx (eV 0) (eC (.int 1))) (eIx (eV 0) (eC (.int 1)))) (eC (.int 2147483587)))))
 sNil)) sNil)
 (sCons (sRet (eBin .mod (eV 2) (eV 1)))
 sNil)))))
def b__law_word (c : Nat → List D → Hh → R D) (F : Nat) : SM := (sCons (sSet 1 (eC (.str [97, 98, 99, 100, 101, 102, 103, 104, 105, 106, 107, 108, 109, 110, 111, 112, 113, 114, 115, 116, 117, 118, 119, 120, 121, 122])))
 (sCons (sSet 2 (eIx (eLst (aCons (eC (.int 1)) (aCons (eC (.int 2)) (aCons (eC (.int 8)) (aCons (eC (.int 3)) aNil))))) (eCall (fun ds h => c ix__law_take (ds ++ []) h) (aCons (eV 0) (aCons (eC (.int 4)) aNil)))))
 (sCons (sRet (eM isStr joinD (eC (.str [])) (eLc (eIx (eV 1) (eCall (fun ds h => c ix__law_take (ds ++ []) h) (aCons (eV 0) (aCons (eC (.int 26)) aNil)))) (.nm 3) .range (aCons (eV 2) aNil) bYes [3])))
 sNil)))
def b__law_text (c : Nat → List D → Hh → R D) (F : Nat) : SM := (sCons (sSet 1 (eC (.str [97, 98, 40, 41, 92, 47, 60, 62, 91, 93, 58, 126, 45, 48, 32, 49, 110])))
 (sCons (sRet (eM isStr joinD (eC (.str [])) (eLc (eIx (eV 1) (eCall (fun ds h => c ix__law_take (ds ++ []) h) (aCons (eV 0) (aCons (eC (.int 17)) aNil)))) (.nm 2) .range (aCons (eCall (fun ds h => c ix__law_take (ds ++ []) h) (aCons (eV 0) (aCons (eC (.int 7)) aNil))) aNil) bYes [2])))
 sNil))
def b__law_reference (c : Nat → List D → Hh → R D) (F : Nat) : SM := (sCons (sSet 1 (eIx (eLst (aCons (eBin .add (eC (.int 1)) (eCall (fun ds h => c ix__law_take (ds ++ []) h) (aCons (eV 0) (aCons (eC (.int 9)) aNil)))) (aCons (eC (.int 200)) (aCons (eBin .add (eC (.int 1)) (eCall (fun ds h => c ix__law_take (ds ++ []) h) (aCons (eV 0) (aCons (eC (.int 200)) aNil)))) aNil)))) (eCall (fun ds h => c ix__law_take (ds ++ []) h) (aCons (eV 0) (aCons (eC (.int 3)) aNil)))))
 (sCons (sRet (eTup (aCons (eC (.str [116, 111])) (aCons (eV 1) (aCons (eIx (eLst (aCons (eC (.int 0)) (aCons (eC (.int 0)) (aCons (eC (.int 1)) (aCons (eC (.int 99)) aNil))))) (eCall (fun ds h => c ix__law_take (ds ++ []) h) (aCons (eV 0) (aCons (eC (.int 4)) aNil)))) aNil)))))
 sNil))
def b__law_entries (c : Nat → List D → Hh → R D) (F : Nat) : SM := (sCons (sSet 2 eNewD)
 (sCons (sFor (.nm 3) .range (aCons (eCall (fun ds h => c ix__law_take (ds ++ []) h) (aCons (eV 0) (aCons (eC (.int 4)) aNil))) aNil) (sCons (sSetI (eV 2) (eCall (fun ds h => c ix__law_word (ds ++ []) h) (aCons (eV 0) aNil)) (eCall (fun ds h => c ix__law_plain (ds ++ []) h) (aCons (eV 0) (aCons (eV 1) aNil))))
 sNil))
 (sCons (sRet (eU tupleD (eLc (eTup (aCons (eV 4) (aCons (eIx (eV 2) (eV 4)) aNil))) (.nm 4) .e (aCons (eU sortedK (eV 2)) aNil) bYes [4])))
 sNil)))
def b__law_plain (c : Nat → List D → Hh → R D) (F : Nat) : SM := (sCons (sSet 2 (eCall (fun ds h => c ix__law_take (ds ++ []) h) (aCons (eV 0) (aCons (eIx (eLst (aCons (eC (.int 7)) (aCons (eC (.int 11)) aNil))) (eU intD (eCmp .gt (eV 1) (eC (.int 0))))) aNil))))
 (sCons (sIf (bCmp .lt (eV 2) (eC (.int 2))) (sCons (sRet (eIx (eLst (aCons (eC (.int 0)) (aCons (eNeg (eC (.int 1))) (aCons (eC (.int 5)) (aCons (eBin .sub (eCall (fun ds h => c ix__law_take (ds ++ []) h) (aCons (eV 0) (aCons (eC (.int 1000)) aNil))) (eC (.int 500))) (aCons (eBin .sub (eBin .pow (eC (.int 10)) (eC (.int 30))) (eC (.int 1))) (aCons (eBin .sub (eC (.int 1)) (eBin .pow (eC (.int 10)) (eC (.int 30)))) aNil))))))) (eCall (fun ds h => c ix__law_take (ds ++ []) h) (aCons (eV 0) (aCons (eC (.int 6)) aNil)))))
 sNil) sNil)
 (sCons (sIf (bCmp .eq (eV 2) (eC (.int 2))) (sCons (sRet (eC .non))
 sNil) sNil)
 (sCons (sIf (bCmp .eq (eV 2) (eC (.int 3))) (sCons (sRet (eCall (fun ds h => c ix__law_text (ds ++ []) h) (aCons (eV 0) aNil)))
 sNil) sNil)
 (sCons (sIf (bCmp .eq (eV 2) (eC (.int 4))) (sCons (sRet (eTup (aCons (eC (.str [110, 97, 109, 101])) (aCons (eCall (fun ds h => c ix__law_word (ds ++ []) h) (aCons (eV 0) aNil)) aNil))))
 sNil) sNil)
 (sCons (sIf (bCmp .lt (eV 2) (eC (.int 7))) (sCons (sRet (eCall (fun ds h => c ix__law_reference (ds ++ []) h) (aCons (eV 0) aNil)))
 sNil) sNil)
 (sCons (sIf (bCmp .lt (eV 2) (eC (.int 9))) (sCons (sRet (eTup (aCons (eC (.str [114, 111, 119])) (aCons (eU tupleD (eLc (eCall (fun ds h => c ix__law_plain (ds ++ []) h) (aCons (eV 0) (aCons (eBin .sub (eV 1) (eC (.int 1))) aNil))) (.nm 3) .range (aCons (eCall (fun ds h => c ix__law_take (ds ++ []) h) (aCons (eV 0) (aCons (eC (.int 4)) aNil))) aNil) bYes [3])) aNil))))
 sNil) sNil)
 (sCons (sRet (eTup (aCons (eC (.str [116, 97, 98, 108, 101])) (aCons (eCall (fun ds h => c ix__law_entries (ds ++ []) h) (aCons (eV 0) (aCons (eBin .sub (eV 1) (eC (.int 1))) aNil))) aNil))))
 sNil))))))))
def b__law_references (c : Nat → List D → Hh → R D) (F : Nat) : SM := (sCons (sIf (bNot (bT (eU (isT (isOf .tup)) (eV 0)))) (sCons (sRet (eLst aNil))
 sNil) sNil)
 (sCons (sIf (bCmp .eq (eIx (eV 0) (eC (.int 0))) (eC (.str [116, 111]))) (sCons (sRet (eLst (aCons (eV 0) aNil)))
 sNil) sNil)
 (sCons (sIf (bCmp .eq (eIx (eV 0) (eC (.int 0))) (eC (.str [110, 97, 109, 101]))) (sCons (sRet (eLst aNil))
 sNil) sNil)
 (sCons (sSet 1 (eU listD (eIx (eV 0) (eC (.int 1)))))
 (sCons (sIf (bCmp .ne (eIx (eV 0) (eC (.int 0))) (eC (.str [114, 111, 119]))) (sCons (sSet 1 (eLc (eV 3) (.tp [(.nm 4), (.nm 3)]) .e (aCons (eIx (eV 0) (eC (.int 1))) aNil) bYes [4, 3]))
 sNil) sNil)
 (sCons (sSet 2 (eLst aNil))
 (sCons (sFor (.nm 3) .e (aCons (eV 1) aNil) (sCons (sSet 2 (eBin .add (eV 2) (eCall (fun ds h => c ix__law_references (ds ++ []) h) (aCons (eV 3) aNil))))
 sNil))
 (sCons (sRet (eV 2))
 sNil))))))))
def b__law_holding (c : Nat → List D → Hh → R D) (F : Nat) : SM := (sCons (sSet 2 (eLc (eTup (aCons (eC (.str [116, 111])) (aCons (eBin .add (eC (.int 1)) (eCall (fun ds h => c ix__law_take (ds ++ []) h) (aCons (eV 0) (aCons (eBin .add (eV 1) (eC (.int 1))) aNil)))) (aCons (eIx (eLst (aCons (eC (.int 0)) (aCons (eC (.int 0)) (aCons (eC (.int 1)) aNil)))) (eCall (fun ds h => c ix__law_take (ds ++ []) h) (aCons (eV 0) (aCons (eC (.int 3)) aNil)))) aNil)))) (.nm 6) .range (aCons (eCall (fun ds h => c ix__law_take (ds ++ []) h) (aCons (eV 0) (aCons (eC (.int 4)) aNil))) aNil) bYes [6]))
 (sCons (sSet 3 (eCall (fun ds h => c ix__law_take (ds ++ []) h) (aCons (eV 0) (aCons (eC (.int 4)) aNil))))
 (sCons (sIf (bCmp .eq (eV 3) (eC (.int 0))) (sCons (sRet (eTup (aCons (eC (.str [114, 111, 119])) (aCons (eBin .add (eU tupleD (eV 2)) (eTup (aCons (eC (.int 5)) (aCons (eC (.str [97])) aNil)))) aNil))))
 sNil) sNil)
 (sCons (sIf (bCmp .eq (eV 3) (eC (.int 1))) (sCons (sRet (eTup (aCons (eC (.str [114, 111, 119])) (aCons (eBin .add (eTup (aCons (eTup (aCons (eC (.str [114, 111, 119])) (aCons (eU tupleD (eV 2)) aNil))) (aCons (eC .non) aNil))) (eU tupleD (eSl (eV 2) oN (oS (eC (.int 1)))))) aNil))))
 sNil) sNil)
 (sCons (sSet 4 (eLst (aCons (eC (.str [97])) (aCons (eC (.str [98])) (aCons (eC (.str [99])) aNil)))))
 (sCons (sSet 5 (eU tupleD (eLc (eTup (aCons (eV 7) (aCons (eV 8) aNil))) (.tp [(.nm 7), (.nm 8)]) .zip (aCons (eV 4) (aCons (eV 2) aNil)) bYes [7, 8])))
 (sCons (sRet (eIx (eLst (aCons (eTup (aCons (eC (.str [116, 97, 98, 108, 101])) (aCons (eV 5) aNil))) (aCons (eTup (aCons (eC (.str [115, 116, 114, 101, 97, 109])) (aCons (eV 5) (aCons (eC (.str [49, 58, 48])) aNil)))) aNil))) (eBin .sub (eV 3) (eC (.int 2)))))
 sNil)))))))
def b__law_due (c : Nat → List D → Hh → R D) (F : Nat) : SM := (sCons (sSet 2 (eNewL aNil))
 (sCons (sSet 3 (eNewL (aCons (eV 1) aNil)))
 (sCons (sWh F (bCmp .ne (eV 3) (eLst aNil)) (sCons (sSet 4 (eM isLst popD (eV 3) (eC (.int 0))))
 (sCons (sIf (bAnd (bCmp .isnt (eV 4) (eC .non)) (bAnd (bCmp .in_ (eIx (eV 4) (eC (.int 1))) (eV 0)) (bAnd (bCmp .eq (eIx (eIx (eV 0) (eIx (eV 4) (eC (.int 1)))) (eC (.int 0))) (eIx (eV 4) (eC (.int 2)))) (bCmp .notin (eIx (eV 4) (eC (.int 1))) (eV 2))))) (sCons (sEx (eM isLst appD (eV 2) (eIx (eV 4) (eC (.int 1)))))
 (sCons (sSet 3 (eNewCat (eV 3) (eCall (fun ds h => c ix__law_references (ds ++ []) h) (aCons (eIx (eIx (eV 0) (eIx (eV 4) (eC (.int 1)))) (eC (.int 1))) aNil))))
 sNil)) sNil)
 sNil)))
 (sCons (sRet (eV 2))
 sNil))))
def b_law (c : Nat → List D → Hh → R D) (F : Nat) : SM := (sCons (sFor (.nm 1) .range (aCons (eU2 maxD (eC (.int 1)) (eU2 minD (eU lenD (eV 0)) (eC (.int 20)))) aNil) (sCons (sSet 2 (eCall (fun ds h => c ix__law_room (ds ++ []) h) (aCons (eV 0) (aCons (eV 1) aNil))))
 (sCons (sSet 3 (eBin .add (eC (.int 1)) (eCall (fun ds h => c ix__law_take (ds ++ []) h) (aCons (eV 2) (aCons (eC (.int 9)) aNil)))))
 (sCons (sSet 4 eNewD)
 (sCons (sFor (.nm 5) .range (aCons (eC (.int 1)) (aCons (eBin .add (eV 3) (eC (.int 1))) aNil)) (sCons (sIf (bCmp .gt (eCall (fun ds h => c ix__law_take (ds ++ []) h) (aCons (eV 2) (aCons (eC (.int 8)) aNil))) (eC (.int 0))) (sCons (sSetI (eV 4) (eV 5) (eTup (aCons (eCall (fun ds h => c ix__law_take (ds ++ []) h) (aCons (eV 2) (aCons (eC (.int 2)) aNil))) (aCons (eIx (eLst (aCons (eCall (fun ds h => c ix__law_holding (ds ++ []) h) (aCons (eV 2) (aCons (eV 3) aNil))) (aCons (eCall (fun ds h => c ix__law_plain (ds ++ []) h) (aCons (eV 2) (aCons (eC (.int 1)) aNil))) aNil))) (eCall (fun ds h => c ix__law_take (ds ++ []) h) (aCons (eV 2) (aCons (eC (.int 2)) aNil)))) aNil))))
 sNil) sNil)
 sNil))
 (sCons (sSet 6 (eIx (eLst (aCons (eC .non) (aCons (eTup (aCons (eC (.str [116, 111])) (aCons (eC (.int 1)) (aCons (eC (.int 0)) aNil)))) (aCons (eTup (aCons (eC (.str [116, 111])) (aCons (eBin .add (eC (.int 1)) (eCall (fun ds h => c ix__law_take (ds ++ []) h) (aCons (eV 2) (aCons (eV 3) aNil)))) (aCons (eCall (fun ds h => c ix__law_take (ds ++ []) h) (aCons (eV 2) (aCons (eC (.int 2)) aNil))) aNil)))) aNil)))) (eCall (fun ds h => c ix__law_take (ds ++ []) h) (aCons (eV 2) (aCons (eC (.int 3)) aNil)))))
 (sCons (sSet 7 (eCallK (c ix_Book_init) kd_Book_init_root (aCons (eV 4) aNil) (aCons (eV 6) aNil)))
 (sCons (sSet 8 (eCall (fun ds h => c ix__law_due (ds ++ []) h) (aCons (eV 4) (aCons (eV 6) aNil))))
 (sCons (sIf (bCmp .ne (eMeth (fun ds h => c ix_Book_met (ds ++ []) h) 0 (eV 7) aNil) (eV 8)) (sCons (sRet (eC (.bl false)))
 sNil) sNil)
 (sCons (sEx (eM isLst appD (eMeth (fun ds h => c ix_Book_met_full (ds ++ []) h) 0 (eV 7) aNil) (eC (.int 5))))
 (sCons (sIf (bCmp .ne (eMeth (fun ds h => c ix_Book_met (ds ++ []) h) 0 (eV 7) aNil) (eV 8)) (sCons (sRet (eC (.bl false)))
 sNil) sNil)
 sNil)))))))))))
 (sCons (sRet (eCmp .eq (eMeth (fun ds h => c ix_Book_met (ds ++ []) h) 0 (eCall (fun ds h => c ix_Book_init (ds ++ df_Book_init) h) (aCons eDct0 aNil)) aNil) (eLst aNil)))
 sNil))
def run (F : Nat) : Nat → Nat → List D → Hh → R D
  | 0 => fun _ _ _ => .bad
  | n + 1 => fun i => match i with
    | 0 => own 1 1 (b_is_whole (run F n) F)
    | 1 => own 3 3 (b_is_from (run F n) F)
    | 2 => own 1 1 (b_is_number (run F n) F)
    | 3 => own 1 1 (b_is_edition (run F n) F)
    | 4 => own 1 1 (b_is_reference (run F n) F)
    | 5 => own 2 2 (b_is_kind (run F n) F)
    | 6 => own 1 3 (b_parts_of (run F n) F)
    | 7 => own 1 3 (b_references (run F n) F)
    | 8 => make 0 4 4 (b_Book_init (run F n) F)
    | 9 => own 2 2 (b_Book_edition (run F n) F)
    | 10 => own 2 2 (b_Book_leads (run F n) F)
    | 11 => own 1 3 (b_Book_met (run F n) F)
    | 12 => own 3 4 (b_Book_meet (run F n) F)
    | 13 => full 2 4 (b__law_room (run F n) F)
    | 14 => own 2 3 (b__law_take (run F n) F)
    | 15 => own 1 4 (b__law_word (run F n) F)
    | 16 => own 1 3 (b__law_text (run F n) F)
    | 17 => own 1 2 (b__law_reference (run F n) F)
    | 18 => own 2 5 (b__law_entries (run F n) F)
    | 19 => own 2 4 (b__law_plain (run F n) F)
    | 20 => own 1 5 (b__law_references (run F n) F)
    | 21 => own 2 9 (b__law_holding (run F n) F)
    | 22 => own 2 5 (b__law_due (run F n) F)
    | 23 => full 1 9 (b_law (run F n) F)
    | 511 => full 1 3 (b_Book_met (run F n) F)
    | _ => fun _ _ => .bad
theorem run_is_whole (F n : Nat) : run F (n + 1) ix_is_whole = own 1 1 (b_is_whole (run F n) F) := rfl
theorem run_is_from (F n : Nat) : run F (n + 1) ix_is_from = own 3 3 (b_is_from (run F n) F) := rfl
theorem run_is_number (F n : Nat) : run F (n + 1) ix_is_number = own 1 1 (b_is_number (run F n) F) := rfl
theorem run_is_edition (F n : Nat) : run F (n + 1) ix_is_edition = own 1 1 (b_is_edition (run F n) F) := rfl
theorem run_is_reference (F n : Nat) : run F (n + 1) ix_is_reference = own 1 1 (b_is_reference (run F n) F) := rfl
theorem run_is_kind (F n : Nat) : run F (n + 1) ix_is_kind = own 2 2 (b_is_kind (run F n) F) := rfl
theorem run_parts_of (F n : Nat) : run F (n + 1) ix_parts_of = own 1 3 (b_parts_of (run F n) F) := rfl
theorem run_references (F n : Nat) : run F (n + 1) ix_references = own 1 3 (b_references (run F n) F) := rfl
theorem run_Book_init (F n : Nat) : run F (n + 1) ix_Book_init = make 0 4 4 (b_Book_init (run F n) F) := rfl
theorem run_Book_edition (F n : Nat) : run F (n + 1) ix_Book_edition = own 2 2 (b_Book_edition (run F n) F) := rfl
theorem run_Book_leads (F n : Nat) : run F (n + 1) ix_Book_leads = own 2 2 (b_Book_leads (run F n) F) := rfl
theorem run_Book_met (F n : Nat) : run F (n + 1) ix_Book_met = own 1 3 (b_Book_met (run F n) F) := rfl
theorem run_Book_met_full (F n : Nat) : run F (n + 1) ix_Book_met_full = full 1 3 (b_Book_met (run F n) F) := rfl
theorem run_Book_meet (F n : Nat) : run F (n + 1) ix_Book_meet = own 3 4 (b_Book_meet (run F n) F) := rfl
theorem run__law_room (F n : Nat) : run F (n + 1) ix__law_room = full 2 4 (b__law_room (run F n) F) := rfl
theorem run__law_take (F n : Nat) : run F (n + 1) ix__law_take = own 2 3 (b__law_take (run F n) F) := rfl
theorem run__law_word (F n : Nat) : run F (n + 1) ix__law_word = own 1 4 (b__law_word (run F n) F) := rfl
theorem run__law_text (F n : Nat) : run F (n + 1) ix__law_text = own 1 3 (b__law_text (run F n) F) := rfl
theorem run__law_reference (F n : Nat) : run F (n + 1) ix__law_reference = own 1 2 (b__law_reference (run F n) F) := rfl
theorem run__law_entries (F n : Nat) : run F (n + 1) ix__law_entries = own 2 5 (b__law_entries (run F n) F) := rfl
theorem run__law_plain (F n : Nat) : run F (n + 1) ix__law_plain = own 2 4 (b__law_plain (run F n) F) := rfl
theorem run__law_references (F n : Nat) : run F (n + 1) ix__law_references = own 1 5 (b__law_references (run F n) F) := rfl
theorem run__law_holding (F n : Nat) : run F (n + 1) ix__law_holding = own 2 9 (b__law_holding (run F n) F) := rfl
theorem run__law_due (F n : Nat) : run F (n + 1) ix__law_due = own 2 5 (b__law_due (run F n) F) := rfl
theorem run_law (F n : Nat) : run F (n + 1) ix_law = full 1 9 (b_law (run F n) F) := rfl
structure Mg (K : PySem.W.Frag) (mg : Str → Option Value) : Prop where
  g_Book : mg "Book" = some (.ref (He.ga K "Book"))
  g__law_due : mg "_law_due" = some (.ref (He.ga K "_law_due"))
  g__law_entries : mg "_law_entries" = some (.ref (He.ga K "_law_entries"))
  g__law_holding : mg "_law_holding" = some (.ref (He.ga K "_law_holding"))
  g__law_plain : mg "_law_plain" = some (.ref (He.ga K "_law_plain"))
  g__law_reference : mg "_law_reference" = some (.ref (He.ga K "_law_reference"))
  g__law_references : mg "_law_references" = some (.ref (He.ga K "_law_references"))
  g__law_room : mg "_law_room" = some (.ref (He.ga K "_law_room"))
  g__law_take : mg "_law_take" = some (.ref (He.ga K "_law_take"))
  g__law_text : mg "_law_text" = some (.ref (He.ga K "_law_text"))
  g__law_word : mg "_law_word" = some (.ref (He.ga K "_law_word"))
  g_is_edition : mg "is_edition" = some (.ref (He.ga K "is_edition"))
  g_is_from : mg "is_from" = some (.ref (He.ga K "is_from"))
  g_is_kind : mg "is_kind" = some (.ref (He.ga K "is_kind"))
  g_is_number : mg "is_number" = some (.ref (He.ga K "is_number"))
  g_is_reference : mg "is_reference" = some (.ref (He.ga K "is_reference"))
  g_is_whole : mg "is_whole" = some (.ref (He.ga K "is_whole"))
  g_parts_of : mg "parts_of" = some (.ref (He.ga K "parts_of"))
  g_references : mg "references" = some (.ref (He.ga K "references"))
  f_bool : mg "bool" = none
  f_dict : mg "dict" = none
  f_int : mg "int" = none
  f_isinstance : mg "isinstance" = none
  f_len : mg "len" = none
  f_list : mg "list" = none
  f_max : mg "max" = none
  f_min : mg "min" = none
  f_range : mg "range" = none
  f_sorted : mg "sorted" = none
  f_str : mg "str" = none
  f_tuple : mg "tuple" = none
  f_zip : mg "zip" = none
  MOST_EDITION : ∃ t, mg "MOST_EDITION" = some (.int 99 t)
  MOST_NUMBER : ∃ t, mg "MOST_NUMBER" = some (.int 200 t)
  cls0 : Cls K (He.ga K "Book")
  mk0 : Mk K (He.ga K "Book") (He.ma K (He.ga K "Book") "__init__")
  no0_own_free : NoAttr K (He.ga K "Book") "own_free"
  no0_own_root : NoAttr K (He.ga K "Book") "own_root"
  no0_own_things : NoAttr K (He.ga K "Book") "own_things"
  m0_edition : Meth K (He.ga K "Book") "edition" (He.ma K (He.ga K "Book") "edition")
  m0_leads : Meth K (He.ga K "Book") "leads" (He.ma K (He.ga K "Book") "leads")
  m0_meet : Meth K (He.ga K "Book") "meet" (He.ma K (He.ga K "Book") "meet")
  m0_met : Meth K (He.ga K "Book") "met" (He.ma K (He.ga K "Book") "met")
  emp : KEmp K (empA K)
theorem nm_edition (k : Nat) : anOf flds k ≠ "edition" := anOf_ne (by decide +kernel) (by decide +kernel) k
theorem nm_leads (k : Nat) : anOf flds k ≠ "leads" := anOf_ne (by decide +kernel) (by decide +kernel) k
theorem nm_meet (k : Nat) : anOf flds k ≠ "meet" := anOf_ne (by decide +kernel) (by decide +kernel) k
theorem nm_met (k : Nat) : anOf flds k ≠ "met" := anOf_ne (by decide +kernel) (by decide +kernel) k
structure Ok (P : Program) (w : World) (K : PySem.W.Frag) (mg : Str → Option Value) (base : Heap) (F n : Nat) : Prop where
  c0 : CalleeB P w K mg base (Wk K) (2 * n) (He.fAd K d0.at_) ps0 [] (run F n ix_is_whole)
  c1 : CalleeB P w K mg base (Wk K) (2 * n) (He.fAd K d1.at_) ps1 [] (run F n ix_is_from)
  c2 : CalleeB P w K mg base (Wk K) (2 * n) (He.fAd K d2.at_) ps2 [] (run F n ix_is_number)
  c3 : CalleeB P w K mg base (Wk K) (2 * n) (He.fAd K d3.at_) ps3 [] (run F n ix_is_edition)
  c4 : CalleeB P w K mg base (Wk K) (2 * n) (He.fAd K d4.at_) ps4 [] (run F n ix_is_reference)
  c5 : CalleeB P w K mg base (Wk K) (2 * n) (He.fAd K d5.at_) ps5 [] (run F n ix_is_kind)
  c6 : CalleeB P w K mg base (Wk K) (2 * n) (He.fAd K d6.at_) ps6 [] (run F n ix_parts_of)
  c7 : CalleeB P w K mg base (Wk K) (2 * n) (He.fAd K d7.at_) ps7 [] (run F n ix_references)
  c8 : MakerB P w K mg base (Wk K) (2 * n) 0 ps8 (dv8 K) (run F n ix_Book_init)
  c9 : CalleeB P w K mg base (Wk K) (2 * n) (He.fAd K d9.at_) ps9 [] (run F n ix_Book_edition)
  c10 : CalleeB P w K mg base (Wk K) (2 * n) (He.fAd K d10.at_) ps10 [] (run F n ix_Book_leads)
  c11 : CalleeB P w K mg base (Wk K) (2 * n) (He.fAd K d11.at_) ps11 [] (run F n ix_Book_met)
  c12 : CalleeB P w K mg base (Wk K) (2 * n) (He.fAd K d12.at_) ps12 [] (run F n ix_Book_meet)
  c13 : CalleeB P w K mg base (Wk K) (2 * n) (He.fAd K d13.at_) ps13 [] (run F n ix__law_room)
  c14 : CalleeB P w K mg base (Wk K) (2 * n) (He.fAd K d14.at_) ps14 [] (run F n ix__law_take)
  c15 : CalleeB P w K mg base (Wk K) (2 * n) (He.fAd K d15.at_) ps15 [] (run F n ix__law_word)
  c16 : CalleeB P w K mg base (Wk K) (2 * n) (He.fAd K d16.at_) ps16 [] (run F n ix__law_text)
  c17 : CalleeB P w K mg base (Wk K) (2 * n) (He.fAd K d17.at_) ps17 [] (run F n ix__law_reference)
  c18 : CalleeB P w K mg base (Wk K) (2 * n) (He.fAd K d18.at_) ps18 [] (run F n ix__law_entries)
  c19 : CalleeB P w K mg base (Wk K) (2 * n) (He.fAd K d19.at_) ps19 [] (run F n ix__law_plain)
  c20 : CalleeB P w K mg base (Wk K) (2 * n) (He.fAd K d20.at_) ps20 [] (run F n ix__law_references)
  c21 : CalleeB P w K mg base (Wk K) (2 * n) (He.fAd K d21.at_) ps21 [] (run F n ix__law_holding)
  c22 : CalleeB P w K mg base (Wk K) (2 * n) (He.fAd K d22.at_) ps22 [] (run F n ix__law_due)
  c23 : CalleeB P w K mg base (Wk K) (2 * n) (He.fAd K d23.at_) ps23 [] (run F n ix_law)
  c511 : CalleeB P w K mg base (Wk K) (2 * n) (He.fAd K d11.at_) ps11 [] (run F n ix_Book_met_full)
  k8_root : MakerKB P w K mg base (Wk K) (2 * n) 0 1 ps8 ["root"] (kv8_root K) (run F n ix_Book_init)
section
variable {P : Program} {w : World} {K : PySem.W.Frag} {mg : Str → Option Value} {base : Heap} {F n : Nat} {cdv : Value} {A : Around} {outer : List Env} {s : Shared} {H : Hp} {E : XK}
theorem s0 (O : Ok P w K mg base F n) (M : Mg K mg) (hr : Room (2 * n + 1) (A.deeper (envOfC d0.qual (defScope st0) s.heap.objs.size (He.fAd K d0.at_) cdv))) :
    SsJ (cxOf (L2.CX P w) P w K mg base N0 d0.qual (defScope st0) (He.fAd K d0.at_) cdv A outer s H E) (Wk K) (fun cls d _ H => E cls d H) (defBody st0) (b_is_whole (run F n) F) := by
  have J : Js (cxOf (L2.CX P w) P w K mg base N0 d0.qual (defScope st0) (He.fAd K d0.at_) cdv A outer s H E) (Wk K) (fun cls d _ H => E cls d H) := js_of rfl sc0.nd hr
  have hr0 := hr.mono (Nat.le_succ (2 * n))
  exact (ss_cons (sj_ret (ej_and J.toJc (ej_isin J.toJc (ej_v rfl (.inl rfl)) (pe_bltn rfl M.f_int (by rfl) (v := .ty "int") rfl) (.ty _) kit_int rfl M.f_isinstance) (ej_one (ej_not J.toJc (ej_isin J.toJc (ej_v rfl (.inl rfl)) (pe_bltn rfl M.f_bool (by rfl) (v := .ty "bool") rfl) (.ty _) kit_bool rfl M.f_isinstance)))))
 ss_nil)
theorem s1 (O : Ok P w K mg base F n) (M : Mg K mg) (hr : Room (2 * n + 1) (A.deeper (envOfC d1.qual (defScope st1) s.heap.objs.size (He.fAd K d1.at_) cdv))) :
    SsJ (cxOf (L2.CX P w) P w K mg base N1 d1.qual (defScope st1) (He.fAd K d1.at_) cdv A outer s H E) (Wk K) (fun cls d _ H => E cls d H) (defBody st1) (b_is_from (run F n) F) := by
  have J : Js (cxOf (L2.CX P w) P w K mg base N1 d1.qual (defScope st1) (He.fAd K d1.at_) cdv A outer s H E) (Wk K) (fun cls d _ H => E cls d H) := js_of rfl sc1.nd hr
  have hr0 := hr.mono (Nat.le_succ (2 * n))
  exact (ss_cons (sj_ret (ej_and J.toJc (ec_call J.toJc O.c0 hr0 dfl_nil M.g_is_whole (aj_cons (ej_v rfl (.inl rfl)) aj_nil)) (ej_one (ej_ch J.toJc (op := .le) (op' := .le) rfl rfl (ej_v rfl (.inl rfl)) (ej_v rfl (.inl rfl)) (ej_v rfl (.inl rfl))))))
 ss_nil)
theorem s2 (O : Ok P w K mg base F n) (M : Mg K mg) (hr : Room (2 * n + 1) (A.deeper (envOfC d2.qual (defScope st2) s.heap.objs.size (He.fAd K d2.at_) cdv))) :
    SsJ (cxOf (L2.CX P w) P w K mg base N2 d2.qual (defScope st2) (He.fAd K d2.at_) cdv A outer s H E) (Wk K) (fun cls d _ H => E cls d H) (defBody st2) (b_is_number (run F n) F) := by
  have J : Js (cxOf (L2.CX P w) P w K mg base N2 d2.qual (defScope st2) (He.fAd K d2.at_) cdv A outer s H E) (Wk K) (fun cls d _ H => E cls d H) := js_of rfl sc2.nd hr
  have hr0 := hr.mono (Nat.le_succ (2 * n))
  exact (ss_cons (sj_ret (ec_call J.toJc O.c1 hr0 dfl_nil M.g_is_from (aj_cons (ej_v rfl (.inl rfl)) (aj_cons ej_int (aj_cons (ej_gi M.MOST_NUMBER) aj_nil)))))
 ss_nil)
theorem s3 (O : Ok P w K mg base F n) (M : Mg K mg) (hr : Room (2 * n + 1) (A.deeper (envOfC d3.qual (defScope st3) s.heap.objs.size (He.fAd K d3.at_) cdv))) :
    SsJ (cxOf (L2.CX P w) P w K mg base N3 d3.qual (defScope st3) (He.fAd K d3.at_) cdv A outer s H E) (Wk K) (fun cls d _ H => E cls d H) (defBody st3) (b_is_edition (run F n) F) := by
  have J : Js (cxOf (L2.CX P w) P w K mg base N3 d3.qual (defScope st3) (He.fAd K d3.at_) cdv A outer s H E) (Wk K) (fun cls d _ H => E cls d H) := js_of rfl sc3.nd hr
  have hr0 := hr.mono (Nat.le_succ (2 * n))
  exact (ss_cons (sj_ret (ec_call J.toJc O.c1 hr0 dfl_nil M.g_is_from (aj_cons (ej_v rfl (.inl rfl)) (aj_cons ej_int (aj_cons (ej_gi M.MOST_EDITION) aj_nil)))))
 ss_nil)
theorem s4 (O : Ok P w K mg base F n) (M : Mg K mg) (hr : Room (2 * n + 1) (A.deeper (envOfC d4.qual (defScope st4) s.heap.objs.size (He.fAd K d4.at_) cdv))) :
    SsJ (cxOf (L2.CX P w) P w K mg base N4 d4.qual (defScope st4) (He.fAd K d4.at_) cdv A outer s H E) (Wk K) (fun cls d _ H => E cls d H) (defBody st4) (b_is_reference (run F n) F) := by
  have J : Js (cxOf (L2.CX P w) P w K mg base N4 d4.qual (defScope st4) (He.fAd K d4.at_) cdv A outer s H E) (Wk K) (fun cls d _ H => E cls d H) := js_of rfl sc4.nd hr
  have hr0 := hr.mono (Nat.le_succ (2 * n))
  exact (ss_cons (sj_if (bj_w (wj_or (bj_not (bj_t J.toJc (ej_isin J.toJc (ej_v rfl (.inl rfl)) (pe_bltn rfl M.f_tuple (by rfl) (v := .ty "tuple") rfl) (.ty _) kit_tuple rfl M.f_isinstance))) (wj_or (bj_cmp J.toJc (op := .ne) rfl (ej_b1 (cl_len J.toJc.hK) (ej_v rfl (.inl rfl)) (by decide +kernel) rfl M.f_len) ej_int) (wj_or1 (bj_not (bj_t J.toJc (ec_call J.toJc O.c5 hr0 dfl_nil M.g_is_kind (aj_cons (ej_v rfl (.inl rfl)) (aj_cons (ej_str (t := [116, 111])) aj_nil))))))))) (ss_cons (sj_ret ej_bl)
 ss_nil) ss_nil)
 (ss_cons (sj_ret (ej_and J.toJc (ec_call J.toJc O.c2 hr0 dfl_nil M.g_is_number (aj_cons (ej_ix J.toJc (ej_v rfl (.inl rfl)) ej_int) aj_nil)) (ej_one (ec_call J.toJc O.c3 hr0 dfl_nil M.g_is_edition (aj_cons (ej_ix J.toJc (ej_v rfl (.inl rfl)) ej_int) aj_nil)))))
 ss_nil))
theorem s5 (O : Ok P w K mg base F n) (M : Mg K mg) (hr : Room (2 * n + 1) (A.deeper (envOfC d5.qual (defScope st5) s.heap.objs.size (He.fAd K d5.at_) cdv))) :
    SsJ (cxOf (L2.CX P w) P w K mg base N5 d5.qual (defScope st5) (He.fAd K d5.at_) cdv A outer s H E) (Wk K) (fun cls d _ H => E cls d H) (defBody st5) (b_is_kind (run F n) F) := by
  have J : Js (cxOf (L2.CX P w) P w K mg base N5 d5.qual (defScope st5) (He.fAd K d5.at_) cdv A outer s H E) (Wk K) (fun cls d _ H => E cls d H) := js_of rfl sc5.nd hr
  have hr0 := hr.mono (Nat.le_succ (2 * n))
  exact (ss_cons (sj_ret (ej_and J.toJc (ej_isin J.toJc (ej_ix J.toJc (ej_v rfl (.inl rfl)) ej_int) (pe_bltn rfl M.f_str (by rfl) (v := .ty "str") rfl) (.ty _) kit_str rfl M.f_isinstance) (ej_one (ej_cmp J.toJc (op := .eq) rfl (ej_ix J.toJc (ej_v rfl (.inl rfl)) ej_int) (ej_v rfl (.inl rfl))))))
 ss_nil)
theorem s6 (O : Ok P w K mg base F n) (M : Mg K mg) (hr : Room (2 * n + 1) (A.deeper (envOfC d6.qual (defScope st6) s.heap.objs.size (He.fAd K d6.at_) cdv))) :
    SsJ (cxOf (L2.CX P w) P w K mg base N6 d6.qual (defScope st6) (He.fAd K d6.at_) cdv A outer s H E) (Wk K) (fun cls d _ H => E cls d H) (defBody st6) (b_parts_of (run F n) F) := by
  have J : Js (cxOf (L2.CX P w) P w K mg base N6 d6.qual (defScope st6) (He.fAd K d6.at_) cdv A outer s H E) (Wk K) (fun cls d _ H => E cls d H) := js_of rfl sc6.nd hr
  have hr0 := hr.mono (Nat.le_succ (2 * n))
  exact (ss_cons (sj_if (bj_not (bj_t J.toJc (ej_isin J.toJc (ej_v rfl (.inl rfl)) (pe_bltn rfl M.f_tuple (by rfl) (v := .ty "tuple") rfl) (.ty _) kit_tuple rfl M.f_isinstance))) (ss_cons (sj_ret (ej_lst aj_nil))
 ss_nil) ss_nil)
 (ss_cons (sj_if (bj_cmp J.toJc (op := .eq) rfl (ej_ix J.toJc (ej_v rfl (.inl rfl)) ej_int) (ej_str (t := [114, 111, 119]))) (ss_cons (sj_ret (ej_t1 (cl_list J.toJc.hK) (ej_ix J.toJc (ej_v rfl (.inl rfl)) ej_int) (by decide +kernel) rfl M.f_list))
 ss_nil) ss_nil)
 (ss_cons (sj_if (bj_cmp J.toJc (op := .in_) rfl (ej_ix J.toJc (ej_v rfl (.inl rfl)) ej_int) (ej_tup (aj_cons (ej_str (t := [116, 97, 98, 108, 101])) (aj_cons (ej_str (t := [115, 116, 114, 101, 97, 109])) aj_nil)))) (ss_cons (sj_ret (ej_lc J (ij_e J.toJc (ej_ix J.toJc (ej_v rfl (.inl rfl)) ej_int)) (own := [("word", 1), ("part", 2)]) (blkOk_by (N := N6) (sc := defScope st6) (by decide +kernel)) (by decide) (fun s1 H1 C1 cl1 fp1 => (gj_tp (jc_blk J s1 H1 _ _ fp1).hc (gsj_cons (gj_nm (jc_blk J s1 H1 _ _ fp1).hN rfl (.inl rfl) (.inr rfl)) (gsj_cons (gj_nm (jc_blk J s1 H1 _ _ fp1).hN rfl (.inl rfl) (.inr rfl)) gsj_nil)))) (fun s1 H1 C1 cl1 fp1 => cj_nil) (fun s1 H1 C1 cl1 fp1 => (ej_v rfl (.inl rfl)))))
 ss_nil) ss_nil)
 (ss_cons (sj_ret (ej_lst aj_nil))
 ss_nil))))
theorem s7 (O : Ok P w K mg base F n) (M : Mg K mg) (hr : Room (2 * n + 1) (A.deeper (envOfC d7.qual (defScope st7) s.heap.objs.size (He.fAd K d7.at_) cdv))) :
    SsJ (cxOf (L2.CX P w) P w K mg base N7 d7.qual (defScope st7) (He.fAd K d7.at_) cdv A outer s H E) (Wk K) (fun cls d _ H => E cls d H) (defBody st7) (b_references (run F n) F) := by
  have J : Js (cxOf (L2.CX P w) P w K mg base N7 d7.qual (defScope st7) (He.fAd K d7.at_) cdv A outer s H E) (Wk K) (fun cls d _ H => E cls d H) := js_of rfl sc7.nd hr
  have hr0 := hr.mono (Nat.le_succ (2 * n))
  exact (ss_cons (sj_if (bj_w (wj_and (bj_t J.toJc (ej_isin J.toJc (ej_v rfl (.inl rfl)) (pe_bltn rfl M.f_tuple (by rfl) (v := .ty "tuple") rfl) (.ty _) kit_tuple rfl M.f_isinstance)) (wj_and1 (bj_cmp J.toJc (op := .eq) rfl (ej_ix J.toJc (ej_v rfl (.inl rfl)) ej_int) (ej_str (t := [116, 111])))))) (ss_cons (sj_ret (ej_lst (aj_cons (ej_v rfl (.inl rfl)) aj_nil)))
 ss_nil) ss_nil)
 (ss_cons (sj_ret (ej_lc2 (own1 := [2]) J (ij_e J.toJc (ec_call J.toJc O.c6 hr0 dfl_nil M.g_parts_of (aj_cons (ej_v rfl (.inl rfl)) aj_nil))) (own := [("part", 1), ("found", 2)]) (blkOk_by (N := N7) (sc := defScope st7) (by decide +kernel)) (by decide) (by decide) (by decide) (fun s1 H1 C1 cl1 fp1 => (gj_nm (jc_blk J s1 H1 _ _ fp1).hN rfl (.inl rfl) (.inr rfl))) (fun s1 H1 C1 cl1 fp1 => cj_nil) (fun s1 H1 C1 cl1 fp1 => (ij_e (jc_blk J s1 H1 _ _ fp1).toJc (ec_call (jc_blk J s1 H1 _ _ fp1).toJc O.c7 hr0 dfl_nil M.g_references (aj_cons (ej_v rfl (.inl rfl)) aj_nil)))) (fun s1 H1 C1 cl1 fp1 => (gj_nm (jc_blk J s1 H1 _ _ fp1).hN rfl (.inl rfl) (.inr rfl))) (fun s1 H1 C1 cl1 fp1 => cj_nil) (fun s1 H1 C1 cl1 fp1 => (ej_v rfl (.inl rfl)))))
 ss_nil))
theorem s8 (O : Ok P w K mg base F n) (M : Mg K mg) (hr : Room (2 * n + 1) (A.deeper (envOfC d8.qual (defScope st8) s.heap.objs.size (He.fAd K d8.at_) cdv))) :
    SsJ (cxOf (L2.CX P w) P w K mg base N8 d8.qual (defScope st8) (He.fAd K d8.at_) cdv A outer s H E) (Wk K) (fun cls d _ H => E cls d H) (defBody st8) (b_Book_init (run F n) F) := by
  have J : Js (cxOf (L2.CX P w) P w K mg base N8 d8.qual (defScope st8) (He.fAd K d8.at_) cdv A outer s H E) (Wk K) (fun cls d _ H => E cls d H) := js_of rfl sc8.nd hr
  have hr0 := hr.mono (Nat.le_succ (2 * n))
  exact (ss_cons (sj_setF (cls := 0) (k := 0) J (ej_v rfl (.inl rfl)) (ej_t1 (cl_dict J.toJc.hK J.hc M.emp) (ej_v rfl (.inl rfl)) (by decide +kernel) rfl M.f_dict) M.cls0 M.no0_own_things)
 (ss_cons (sj_setF (cls := 0) (k := 1) J (ej_v rfl (.inl rfl)) (ej_t1 (cl_dict J.toJc.hK J.hc M.emp) (ej_v rfl (.inl rfl)) (by decide +kernel) rfl M.f_dict) M.cls0 M.no0_own_free)
 (ss_cons (sj_setF (cls := 0) (k := 2) J (ej_v rfl (.inl rfl)) (ej_v rfl (.inl rfl)) M.cls0 M.no0_own_root)
 ss_nil)))
theorem s9 (O : Ok P w K mg base F n) (M : Mg K mg) (hr : Room (2 * n + 1) (A.deeper (envOfC d9.qual (defScope st9) s.heap.objs.size (He.fAd K d9.at_) cdv))) :
    SsJ (cxOf (L2.CX P w) P w K mg base N9 d9.qual (defScope st9) (He.fAd K d9.at_) cdv A outer s H E) (Wk K) (fun cls d _ H => E cls d H) (defBody st9) (b_Book_edition (run F n) F) := by
  have J : Js (cxOf (L2.CX P w) P w K mg base N9 d9.qual (defScope st9) (He.fAd K d9.at_) cdv A outer s H E) (Wk K) (fun cls d _ H => E cls d H) := js_of rfl sc9.nd hr
  have hr0 := hr.mono (Nat.le_succ (2 * n))
  exact (ss_cons (sj_if (bj_w (wj_or (bj_not (bj_t J.toJc (ec_call J.toJc O.c2 hr0 dfl_nil M.g_is_number (aj_cons (ej_v rfl (.inl rfl)) aj_nil)))) (wj_or1 (bj_cmp J.toJc (op := .notin) rfl (ej_v rfl (.inl rfl)) (ej_fld (cls := 0) (k := 0) (ej_v rfl (.inl rfl)) M.cls0 M.no0_own_things))))) (ss_cons (sj_ret ej_non)
 ss_nil) ss_nil)
 (ss_cons (sj_ret (ej_ix J.toJc (ej_ix J.toJc (ej_fld (cls := 0) (k := 0) (ej_v rfl (.inl rfl)) M.cls0 M.no0_own_things) (ej_v rfl (.inl rfl))) ej_int))
 ss_nil))
theorem s10 (O : Ok P w K mg base F n) (M : Mg K mg) (hr : Room (2 * n + 1) (A.deeper (envOfC d10.qual (defScope st10) s.heap.objs.size (He.fAd K d10.at_) cdv))) :
    SsJ (cxOf (L2.CX P w) P w K mg base N10 d10.qual (defScope st10) (He.fAd K d10.at_) cdv A outer s H E) (Wk K) (fun cls d _ H => E cls d H) (defBody st10) (b_Book_leads (run F n) F) := by
  have J : Js (cxOf (L2.CX P w) P w K mg base N10 d10.qual (defScope st10) (He.fAd K d10.at_) cdv A outer s H E) (Wk K) (fun cls d _ H => E cls d H) := js_of rfl sc10.nd hr
  have hr0 := hr.mono (Nat.le_succ (2 * n))
  exact (ss_cons (sj_ret (ej_and J.toJc (ec_call J.toJc O.c4 hr0 dfl_nil M.g_is_reference (aj_cons (ej_v rfl (.inl rfl)) aj_nil)) (ej_one (ej_cmp J.toJc (op := .eq) rfl (ec_meth (cls := 0) J.toJc O.c9 hr0 dfl_nil M.cls0 M.m0_edition nm_edition (ej_v rfl (.inl rfl)) (aj_cons (ej_ix J.toJc (ej_v rfl (.inl rfl)) ej_int) aj_nil)) (ej_ix J.toJc (ej_v rfl (.inl rfl)) ej_int)))))
 ss_nil)
theorem s11 (O : Ok P w K mg base F n) (M : Mg K mg) (hr : Room (2 * n + 1) (A.deeper (envOfC d11.qual (defScope st11) s.heap.objs.size (He.fAd K d11.at_) cdv))) :
    SsJ (cxOf (L2.CX P w) P w K mg base N11 d11.qual (defScope st11) (He.fAd K d11.at_) cdv A outer s H E) (Wk K) (fun cls d _ H => E cls d H) (defBody st11) (b_Book_met (run F n) F) := by
  have J : Js (cxOf (L2.CX P w) P w K mg base N11 d11.qual (defScope st11) (He.fAd K d11.at_) cdv A outer s H E) (Wk K) (fun cls d _ H => E cls d H) := js_of rfl sc11.nd hr
  have hr0 := hr.mono (Nat.le_succ (2 * n))
  exact (ss_cons (sj_set J rfl (.inl rfl) (ej_newL aj_nil))
 (ss_cons (sj_ex (ec_meth (cls := 0) J.toJc O.c12 hr0 dfl_nil M.cls0 M.m0_meet nm_meet (ej_v rfl (.inl rfl)) (aj_cons (ej_lst (aj_cons (ej_fld (cls := 0) (k := 2) (ej_v rfl (.inl rfl)) M.cls0 M.no0_own_root) aj_nil)) (aj_cons (ej_v rfl (.inl rfl)) aj_nil))))
 (ss_cons (sj_set J rfl (.inl rfl) ej_int)
 (ss_cons (sj_wh J (bj_cmp J.toJc (op := .lt) rfl (ej_v rfl (.inl rfl)) (ej_b1 (cl_len J.toJc.hK) (ej_v rfl (.inl rfl)) (by decide +kernel) rfl M.f_len)) (ss_cons (sj_ex (ec_meth (cls := 0) J.toJc O.c12 hr0 dfl_nil M.cls0 M.m0_meet nm_meet (ej_v rfl (.inl rfl)) (aj_cons (ec_call J.toJc O.c7 hr0 dfl_nil M.g_references (aj_cons (ej_ix J.toJc (ej_ix J.toJc (ej_fld (cls := 0) (k := 0) (ej_v rfl (.inl rfl)) M.cls0 M.no0_own_things) (ej_ix J.toJc (ej_v rfl (.inl rfl)) (ej_v rfl (.inl rfl)))) ej_int) aj_nil)) (aj_cons (ej_v rfl (.inl rfl)) aj_nil))))
 (ss_cons (sj_aug J (op := .add) rfl rfl (.inl rfl) ej_int)
 ss_nil)))
 (ss_cons (sj_ret (ej_v rfl (.inl rfl)))
 ss_nil)))))
theorem s12 (O : Ok P w K mg base F n) (M : Mg K mg) (hr : Room (2 * n + 1) (A.deeper (envOfC d12.qual (defScope st12) s.heap.objs.size (He.fAd K d12.at_) cdv))) :
    SsJ (cxOf (L2.CX P w) P w K mg base N12 d12.qual (defScope st12) (He.fAd K d12.at_) cdv A outer s H E) (Wk K) (fun cls d _ H => E cls d H) (defBody st12) (b_Book_meet (run F n) F) := by
  have J : Js (cxOf (L2.CX P w) P w K mg base N12 d12.qual (defScope st12) (He.fAd K d12.at_) cdv A outer s H E) (Wk K) (fun cls d _ H => E cls d H) := js_of rfl sc12.nd hr
  have hr0 := hr.mono (Nat.le_succ (2 * n))
  exact (ss_cons (sj_for J (ij_e J.toJc (ej_v rfl (.inl rfl))) (gj_nm J.hN rfl (.inl rfl) (.inl rfl)) (ss_cons (sj_if (bj_w (wj_and (bj_t J.toJc (ec_meth (cls := 0) J.toJc O.c10 hr0 dfl_nil M.cls0 M.m0_leads nm_leads (ej_v rfl (.inl rfl)) (aj_cons (ej_v rfl (.inl rfl)) aj_nil))) (wj_and1 (bj_cmp J.toJc (op := .notin) rfl (ej_ix J.toJc (ej_v rfl (.inl rfl)) ej_int) (ej_v rfl (.inl rfl)))))) (ss_cons (sj_ex (ej_app (ej_v rfl (.inl rfl)) (ej_ix J.toJc (ej_v rfl (.inl rfl)) ej_int)))
 ss_nil) ss_nil)
 ss_nil))
 ss_nil)
theorem s13 (O : Ok P w K mg base F n) (M : Mg K mg) (hr : Room (2 * n + 1) (A.deeper (envOfC d13.qual (defScope st13) s.heap.objs.size (He.fAd K d13.at_) cdv))) :
    SsJ (cxOf (L2.CX P w) P w K mg base N13 d13.qual (defScope st13) (He.fAd K d13.at_) cdv A outer s H E) (Wk K) (fun cls d _ H => E cls d H) (defBody st13) (b__law_room (run F n) F) := by
  have J : Js (cxOf (L2.CX P w) P w K mg base N13 d13.qual (defScope st13) (He.fAd K d13.at_) cdv A outer s H E) (Wk K) (fun cls d _ H => E cls d H) := js_of rfl sc13.nd hr
  have hr0 := hr.mono (Nat.le_succ (2 * n))
  exact (ss_cons (sj_set J rfl (.inl rfl) ej_int)
 (ss_cons (sj_if (bj_cmp J.toJc (op := .lt) rfl (ej_v rfl (.inl rfl)) (ej_b1 (cl_len J.toJc.hK) (ej_v rfl (.inl rfl)) (by decide +kernel) rfl M.f_len)) (ss_cons (sj_set J rfl (.inl rfl) (ej_ix J.toJc (ej_v rfl (.inl rfl)) (ej_v rfl (.inl rfl))))
 ss_nil) ss_nil)
 (ss_cons (sj_set J rfl (.inl rfl) ej_int)
 (ss_cons (sj_if (bj_cmp J.toJc (op := .ge) rfl (ej_v rfl (.inl rfl)) (ej_bin J.toJc (op := .pow) rfl ej_int ej_int)) (ss_cons (sj_set J rfl (.inl rfl) (ej_v rfl (.inl rfl)))
 ss_nil) ss_nil)
 (ss_cons (sj_ret (ej_newL (aj_cons (ej_v rfl (.inl rfl)) (aj_cons (ej_bin J.toJc (op := .mod) rfl (ej_bin J.toJc (op := .mul) rfl (ej_bin J.toJc (op := .add) rfl (ej_bin J.toJc (op := .add) rfl (ej_bin J.toJc (op := .mod) rfl (ej_v rfl (.inl rfl)) ej_int) (ej_bin J.toJc (op := .mul) rfl (ej_bin J.toJc (op := .mul) rfl ej_int (ej_v rfl (.inl rfl))) (ej_v rfl (.inl rfl)))) ej_int) ej_int) ej_int) aj_nil))))
 ss_nil)))))
theorem s14 (O : Ok P w K mg base F n) (M : Mg K mg) (hr : Room (2 * n + 1) (A.deeper (envOfC d14.qual (defScope st14) s.heap.objs.size (He.fAd K d14.at_) cdv))) :
    SsJ (cxOf (L2.CX P w) P w K mg base N14 d14.qual (defScope st14) (He.fAd K d14.at_) cdv A outer s H E) (Wk K) (fun cls d _ H => E cls d H) (defBody st14) (b__law_take (run F n) F) := by
  have J : Js (cxOf (L2.CX P w) P w K mg base N14 d14.qual (defScope st14) (He.fAd K d14.at_) cdv A outer s H E) (Wk K) (fun cls d _ H => E cls d H) := js_of rfl sc14.nd hr
  have hr0 := hr.mono (Nat.le_succ (2 * n))
  exact (ss_cons (sj_if (bj_cmp J.toJc (op := .gt) rfl (ej_ix J.toJc (ej_v rfl (.inl rfl)) ej_int) ej_int) (ss_cons (sj_set J rfl (.inl rfl) (ej_bin J.toJc (op := .mod) rfl (ej_ix J.toJc (ej_v rfl (.inl rfl)) ej_int) (ej_v rfl (.inl rfl))))
 (ss_cons (sj_setI J (ej_v rfl (.inl rfl)) ej_int (ej_bin J.toJc (op := .fdiv) rfl (ej_ix J.toJc (ej_v rfl (.inl rfl)) ej_int) (ej_v rfl (.inl rfl))))
 (ss_cons (sj_ret (ej_v rfl (.inl rfl)))
 ss_nil))) ss_nil)
 (ss_cons (sj_setI J (ej_v rfl (.inl rfl)) ej_int (ej_bin J.toJc (op := .mod) rfl (ej_bin J.toJc (op := .add) rfl (ej_bin J.toJc (op := .mul) rfl (ej_ix J.toJc (ej_v rfl (.inl rfl)) ej_int) ej_int) ej_int) ej_int))
 (ss_cons (sj_set J rfl (.inl rfl) (ej_bin J.toJc (op := .fdiv) rfl (ej_bin J.toJc (op := .mod) rfl (ej_bin J.toJc (op := .mul) rfl (ej_ix J.toJc (ej_v rfl (.inl rfl)) ej_int) (ej_ix J.toJc (ej_v rfl (.inl rfl)) ej_int)) ej_int) ej_int))
 (ss_cons (sj_if (bj_cmp J.toJc (op := .gt) rfl (ej_v rfl (.inl rfl)) (ej_bin J.toJc (op := .pow) rfl ej_int ej_int)) (ss_cons (sj_setI J (ej_v rfl (.inl rfl)) ej_int (ej_bin J.toJc (op := .mod) rfl (ej_bin J.toJc (op := .add) rfl (ej_bin J.toJc (op := .mul) rfl (ej_ix J.toJc (ej_v rfl (.inl rfl)) ej_int) ej_int) ej_int) ej_int))
 (ss_cons (sj_set J rfl (.inl rfl) (ej_bin J.toJc (op := .add) rfl (ej_bin J.toJc (op := .mul) rfl (ej_v rfl (.inl rfl)) ej_int) (ej_bin J.toJc (op := .mod) rfl (ej_bin J.toJc (op := .mul) rfl (ej_ix J.toJc (ej_v rfl (.inl rfl)) ej_int) (ej_ix J.toJc (ej_v rfl (.inl rfl)) ej_int)) ej_int)))
 ss_nil)) ss_nil)
 (ss_cons (sj_ret (ej_bin J.toJc (op := .mod) rfl (ej_v rfl (.inl rfl)) (ej_v rfl (.inl rfl))))
 ss_nil)))))
theorem s15 (O : Ok P w K mg base F n) (M : Mg K mg) (hr : Room (2 * n + 1) (A.deeper (envOfC d15.qual (defScope st15) s.heap.objs.size (He.fAd K d15.at_) cdv))) :
    SsJ (cxOf (L2.CX P w) P w K mg base N15 d15.qual (defScope st15) (He.fAd K d15.at_) cdv A outer s H E) (Wk K) (fun cls d _ H => E cls d H) (defBody st15) (b__law_word (run F n) F) := by
  have J : Js (cxOf (L2.CX P w) P w K mg base N15 d15.qual (defScope st15) (He.fAd K d15.at_) cdv A outer s H E) (Wk K) (fun cls d _ H => E cls d H) := js_of rfl sc15.nd hr
  have hr0 := hr.mono (Nat.le_succ (2 * n))
  exact (ss_cons (sj_set J rfl (.inr rfl) (ej_str (t := [97, 98, 99, 100, 101, 102, 103, 104, 105, 106, 107, 108, 109, 110, 111, 112, 113, 114, 115, 116, 117, 118, 119, 120, 121, 122])))
 (ss_cons (sj_set J rfl (.inl rfl) (ej_ix J.toJc (ej_lst (aj_cons ej_int (aj_cons ej_int (aj_cons ej_int (aj_cons ej_int aj_nil))))) (ec_call J.toJc O.c14 hr0 dfl_nil M.g__law_take (aj_cons (ej_v rfl (.inr (.inl rfl))) (aj_cons ej_int aj_nil)))))
 (ss_cons (sj_ret (ej_join J.toJc (ej_str (t := [])) (ej_lc J (ij_range1 (ej_v rfl (.inl rfl)) rfl M.f_range) (own := [("_law_turn", 3)]) (blkOk_by (N := N15) (sc := defScope st15) (by decide +kernel)) (by decide) (fun s1 H1 C1 cl1 fp1 => (gj_nm (jc_blk J s1 H1 _ _ fp1).hN rfl (.inl rfl) (.inr rfl))) (fun s1 H1 C1 cl1 fp1 => cj_nil) (fun s1 H1 C1 cl1 fp1 => (ej_ix (jc_blk J s1 H1 _ _ fp1).toJc (ej_v rfl (.inr (.inl rfl))) (ec_call (jc_blk J s1 H1 _ _ fp1).toJc O.c14 hr0 dfl_nil M.g__law_take (aj_cons (ej_v rfl (.inr (.inl rfl))) (aj_cons ej_int aj_nil))))))))
 ss_nil)))
theorem s16 (O : Ok P w K mg base F n) (M : Mg K mg) (hr : Room (2 * n + 1) (A.deeper (envOfC d16.qual (defScope st16) s.heap.objs.size (He.fAd K d16.at_) cdv))) :
    SsJ (cxOf (L2.CX P w) P w K mg base N16 d16.qual (defScope st16) (He.fAd K d16.at_) cdv A outer s H E) (Wk K) (fun cls d _ H => E cls d H) (defBody st16) (b__law_text (run F n) F) := by
  have J : Js (cxOf (L2.CX P w) P w K mg base N16 d16.qual (defScope st16) (He.fAd K d16.at_) cdv A outer s H E) (Wk K) (fun cls d _ H => E cls d H) := js_of rfl sc16.nd hr
  have hr0 := hr.mono (Nat.le_succ (2 * n))
  exact (ss_cons (sj_set J rfl (.inr rfl) (ej_str (t := [97, 98, 40, 41, 92, 47, 60, 62, 91, 93, 58, 126, 45, 48, 32, 49, 110])))
 (ss_cons (sj_ret (ej_join J.toJc (ej_str (t := [])) (ej_lc J (ij_range1 (ec_call J.toJc O.c14 hr0 dfl_nil M.g__law_take (aj_cons (ej_v rfl (.inr (.inl rfl))) (aj_cons ej_int aj_nil))) rfl M.f_range) (own := [("_law_turn", 2)]) (blkOk_by (N := N16) (sc := defScope st16) (by decide +kernel)) (by decide) (fun s1 H1 C1 cl1 fp1 => (gj_nm (jc_blk J s1 H1 _ _ fp1).hN rfl (.inl rfl) (.inr rfl))) (fun s1 H1 C1 cl1 fp1 => cj_nil) (fun s1 H1 C1 cl1 fp1 => (ej_ix (jc_blk J s1 H1 _ _ fp1).toJc (ej_v rfl (.inr (.inl rfl))) (ec_call (jc_blk J s1 H1 _ _ fp1).toJc O.c14 hr0 dfl_nil M.g__law_take (aj_cons (ej_v rfl (.inr (.inl rfl))) (aj_cons ej_int aj_nil))))))))
 ss_nil))
theorem s17 (O : Ok P w K mg base F n) (M : Mg K mg) (hr : Room (2 * n + 1) (A.deeper (envOfC d17.qual (defScope st17) s.heap.objs.size (He.fAd K d17.at_) cdv))) :
    SsJ (cxOf (L2.CX P w) P w K mg base N17 d17.qual (defScope st17) (He.fAd K d17.at_) cdv A outer s H E) (Wk K) (fun cls d _ H => E cls d H) (defBody st17) (b__law_reference (run F n) F) := by
  have J : Js (cxOf (L2.CX P w) P w K mg base N17 d17.qual (defScope st17) (He.fAd K d17.at_) cdv A outer s H E) (Wk K) (fun cls d _ H => E cls d H) := js_of rfl sc17.nd hr
  have hr0 := hr.mono (Nat.le_succ (2 * n))
  exact (ss_cons (sj_set J rfl (.inl rfl) (ej_ix J.toJc (ej_lst (aj_cons (ej_bin J.toJc (op := .add) rfl ej_int (ec_call J.toJc O.c14 hr0 dfl_nil M.g__law_take (aj_cons (ej_v rfl (.inl rfl)) (aj_cons ej_int aj_nil)))) (aj_cons ej_int (aj_cons (ej_bin J.toJc (op := .add) rfl ej_int (ec_call J.toJc O.c14 hr0 dfl_nil M.g__law_take (aj_cons (ej_v rfl (.inl rfl)) (aj_cons ej_int aj_nil)))) aj_nil)))) (ec_call J.toJc O.c14 hr0 dfl_nil M.g__law_take (aj_cons (ej_v rfl (.inl rfl)) (aj_cons ej_int aj_nil)))))
 (ss_cons (sj_ret (ej_tup (aj_cons (ej_str (t := [116, 111])) (aj_cons (ej_v rfl (.inl rfl)) (aj_cons (ej_ix J.toJc (ej_lst (aj_cons ej_int (aj_cons ej_int (aj_cons ej_int (aj_cons ej_int aj_nil))))) (ec_call J.toJc O.c14 hr0 dfl_nil M.g__law_take (aj_cons (ej_v rfl (.inl rfl)) (aj_cons ej_int aj_nil)))) aj_nil)))))
 ss_nil))
theorem s18 (O : Ok P w K mg base F n) (M : Mg K mg) (hr : Room (2 * n + 1) (A.deeper (envOfC d18.qual (defScope st18) s.heap.objs.size (He.fAd K d18.at_) cdv))) :
    SsJ (cxOf (L2.CX P w) P w K mg base N18 d18.qual (defScope st18) (He.fAd K d18.at_) cdv A outer s H E) (Wk K) (fun cls d _ H => E cls d H) (defBody st18) (b__law_entries (run F n) F) := by
  have J : Js (cxOf (L2.CX P w) P w K mg base N18 d18.qual (defScope st18) (He.fAd K d18.at_) cdv A outer s H E) (Wk K) (fun cls d _ H => E cls d H) := js_of rfl sc18.nd hr
  have hr0 := hr.mono (Nat.le_succ (2 * n))
  exact (ss_cons (sj_set J rfl (.inr rfl) ej_newD)
 (ss_cons (sj_for J (ij_range1 (ec_call J.toJc O.c14 hr0 dfl_nil M.g__law_take (aj_cons (ej_v rfl (.inl rfl)) (aj_cons ej_int aj_nil))) rfl M.f_range) (gj_nm J.hN rfl (.inl rfl) (.inl rfl)) (ss_cons (sj_setI J (ej_v rfl (.inr (.inl rfl))) (ec_call J.toJc O.c15 hr0 dfl_nil M.g__law_word (aj_cons (ej_v rfl (.inl rfl)) aj_nil)) (ec_call J.toJc O.c19 hr0 dfl_nil M.g__law_plain (aj_cons (ej_v rfl (.inl rfl)) (aj_cons (ej_v rfl (.inl rfl)) aj_nil))))
 ss_nil))
 (ss_cons (sj_ret (ej_t1 (cl_tuple J.toJc.hK) (ej_lc J (ij_e J.toJc (ej_b1 (cl_sortedK J.hc) (ej_v rfl (.inr (.inl rfl))) (by decide +kernel) rfl M.f_sorted)) (own := [("_law_word_here", 4)]) (blkOk_by (N := N18) (sc := defScope st18) (by decide +kernel)) (by decide) (fun s1 H1 C1 cl1 fp1 => (gj_nm (jc_blk J s1 H1 _ _ fp1).hN rfl (.inl rfl) (.inr rfl))) (fun s1 H1 C1 cl1 fp1 => cj_nil) (fun s1 H1 C1 cl1 fp1 => (ej_tup (aj_cons (ej_v rfl (.inl rfl)) (aj_cons (ej_ix (jc_blk J s1 H1 _ _ fp1).toJc (ej_v rfl (.inr (.inl rfl))) (ej_v rfl (.inl rfl))) aj_nil))))) (by decide +kernel) rfl M.f_tuple))
 ss_nil)))
theorem s19 (O : Ok P w K mg base F n) (M : Mg K mg) (hr : Room (2 * n + 1) (A.deeper (envOfC d19.qual (defScope st19) s.heap.objs.size (He.fAd K d19.at_) cdv))) :
    SsJ (cxOf (L2.CX P w) P w K mg base N19 d19.qual (defScope st19) (He.fAd K d19.at_) cdv A outer s H E) (Wk K) (fun cls d _ H => E cls d H) (defBody st19) (b__law_plain (run F n) F) := by
  have J : Js (cxOf (L2.CX P w) P w K mg base N19 d19.qual (defScope st19) (He.fAd K d19.at_) cdv A outer s H E) (Wk K) (fun cls d _ H => E cls d H) := js_of rfl sc19.nd hr
  have hr0 := hr.mono (Nat.le_succ (2 * n))
  exact (ss_cons (sj_set J rfl (.inl rfl) (ec_call J.toJc O.c14 hr0 dfl_nil M.g__law_take (aj_cons (ej_v rfl (.inr (.inl rfl))) (aj_cons (ej_ix J.toJc (ej_lst (aj_cons ej_int (aj_cons ej_int aj_nil))) (ej_t1 (cl_int) (ej_cmp J.toJc (op := .gt) rfl (ej_v rfl (.inr (.inl rfl))) ej_int) (by decide +kernel) rfl M.f_int)) aj_nil))))
 (ss_cons (sj_if (bj_cmp J.toJc (op := .lt) rfl (ej_v rfl (.inl rfl)) ej_int) (ss_cons (sj_ret (ej_ix J.toJc (ej_lst (aj_cons ej_int (aj_cons (ej_neg ej_int) (aj_cons ej_int (aj_cons (ej_bin J.toJc (op := .sub) rfl (ec_call J.toJc O.c14 hr0 dfl_nil M.g__law_take (aj_cons (ej_v rfl (.inr (.inl rfl))) (aj_cons ej_int aj_nil))) ej_int) (aj_cons (ej_bin J.toJc (op := .sub) rfl (ej_bin J.toJc (op := .pow) rfl ej_int ej_int) ej_int) (aj_cons (ej_bin J.toJc (op := .sub) rfl ej_int (ej_bin J.toJc (op := .pow) rfl ej_int ej_int)) aj_nil))))))) (ec_call J.toJc O.c14 hr0 dfl_nil M.g__law_take (aj_cons (ej_v rfl (.inr (.inl rfl))) (aj_cons ej_int aj_nil)))))
 ss_nil) ss_nil)
 (ss_cons (sj_if (bj_cmp J.toJc (op := .eq) rfl (ej_v rfl (.inl rfl)) ej_int) (ss_cons (sj_ret ej_non)
 ss_nil) ss_nil)
 (ss_cons (sj_if (bj_cmp J.toJc (op := .eq) rfl (ej_v rfl (.inl rfl)) ej_int) (ss_cons (sj_ret (ec_call J.toJc O.c16 hr0 dfl_nil M.g__law_text (aj_cons (ej_v rfl (.inr (.inl rfl))) aj_nil)))
 ss_nil) ss_nil)
 (ss_cons (sj_if (bj_cmp J.toJc (op := .eq) rfl (ej_v rfl (.inl rfl)) ej_int) (ss_cons (sj_ret (ej_tup (aj_cons (ej_str (t := [110, 97, 109, 101])) (aj_cons (ec_call J.toJc O.c15 hr0 dfl_nil M.g__law_word (aj_cons (ej_v rfl (.inr (.inl rfl))) aj_nil)) aj_nil))))
 ss_nil) ss_nil)
 (ss_cons (sj_if (bj_cmp J.toJc (op := .lt) rfl (ej_v rfl (.inl rfl)) ej_int) (ss_cons (sj_ret (ec_call J.toJc O.c17 hr0 dfl_nil M.g__law_reference (aj_cons (ej_v rfl (.inr (.inl rfl))) aj_nil)))
 ss_nil) ss_nil)
 (ss_cons (sj_if (bj_cmp J.toJc (op := .lt) rfl (ej_v rfl (.inl rfl)) ej_int) (ss_cons (sj_ret (ej_tup (aj_cons (ej_str (t := [114, 111, 119])) (aj_cons (ej_t1 (cl_tuple J.toJc.hK) (ej_lc J (ij_range1 (ec_call J.toJc O.c14 hr0 dfl_nil M.g__law_take (aj_cons (ej_v rfl (.inr (.inl rfl))) (aj_cons ej_int aj_nil))) rfl M.f_range) (own := [("_law_turn", 3)]) (blkOk_by (N := N19) (sc := defScope st19) (by decide +kernel)) (by decide) (fun s1 H1 C1 cl1 fp1 => (gj_nm (jc_blk J s1 H1 _ _ fp1).hN rfl (.inl rfl) (.inr rfl))) (fun s1 H1 C1 cl1 fp1 => cj_nil) (fun s1 H1 C1 cl1 fp1 => (ec_call (jc_blk J s1 H1 _ _ fp1).toJc O.c19 hr0 dfl_nil M.g__law_plain (aj_cons (ej_v rfl (.inr (.inl rfl))) (aj_cons (ej_bin (jc_blk J s1 H1 _ _ fp1).toJc (op := .sub) rfl (ej_v rfl (.inr (.inl rfl))) ej_int) aj_nil))))) (by decide +kernel) rfl M.f_tuple) aj_nil))))
 ss_nil) ss_nil)
 (ss_cons (sj_ret (ej_tup (aj_cons (ej_str (t := [116, 97, 98, 108, 101])) (aj_cons (ec_call J.toJc O.c18 hr0 dfl_nil M.g__law_entries (aj_cons (ej_v rfl (.inr (.inl rfl))) (aj_cons (ej_bin J.toJc (op := .sub) rfl (ej_v rfl (.inr (.inl rfl))) ej_int) aj_nil))) aj_nil))))
 ss_nil))))))))
theorem s20 (O : Ok P w K mg base F n) (M : Mg K mg) (hr : Room (2 * n + 1) (A.deeper (envOfC d20.qual (defScope st20) s.heap.objs.size (He.fAd K d20.at_) cdv))) :
    SsJ (cxOf (L2.CX P w) P w K mg base N20 d20.qual (defScope st20) (He.fAd K d20.at_) cdv A outer s H E) (Wk K) (fun cls d _ H => E cls d H) (defBody st20) (b__law_references (run F n) F) := by
  have J : Js (cxOf (L2.CX P w) P w K mg base N20 d20.qual (defScope st20) (He.fAd K d20.at_) cdv A outer s H E) (Wk K) (fun cls d _ H => E cls d H) := js_of rfl sc20.nd hr
  have hr0 := hr.mono (Nat.le_succ (2 * n))
  exact (ss_cons (sj_if (bj_not (bj_t J.toJc (ej_isin J.toJc (ej_v rfl (.inl rfl)) (pe_bltn rfl M.f_tuple (by rfl) (v := .ty "tuple") rfl) (.ty _) kit_tuple rfl M.f_isinstance))) (ss_cons (sj_ret (ej_lst aj_nil))
 ss_nil) ss_nil)
 (ss_cons (sj_if (bj_cmp J.toJc (op := .eq) rfl (ej_ix J.toJc (ej_v rfl (.inl rfl)) ej_int) (ej_str (t := [116, 111]))) (ss_cons (sj_ret (ej_lst (aj_cons (ej_v rfl (.inl rfl)) aj_nil)))
 ss_nil) ss_nil)
 (ss_cons (sj_if (bj_cmp J.toJc (op := .eq) rfl (ej_ix J.toJc (ej_v rfl (.inl rfl)) ej_int) (ej_str (t := [110, 97, 109, 101]))) (ss_cons (sj_ret (ej_lst aj_nil))
 ss_nil) ss_nil)
 (ss_cons (sj_set J rfl (.inl rfl) (ej_t1 (cl_list J.toJc.hK) (ej_ix J.toJc (ej_v rfl (.inl rfl)) ej_int) (by decide +kernel) rfl M.f_list))
 (ss_cons (sj_if (bj_cmp J.toJc (op := .ne) rfl (ej_ix J.toJc (ej_v rfl (.inl rfl)) ej_int) (ej_str (t := [114, 111, 119]))) (ss_cons (sj_setLc J (ij_e J.toJc (ej_ix J.toJc (ej_v rfl (.inl rfl)) ej_int)) (own := [("_law_word_here", 4), ("_law_one", 3)]) (blkOk_by (N := N20) (sc := defScope st20) (by decide +kernel)) (by decide) rfl rfl (sw_true rfl rfl (by decide) (by decide +kernel)) (fun s1 H1 C1 cl1 fp1 => (gj_tp (jc_blk J s1 H1 _ _ fp1).hc (gsj_cons (gj_nm (jc_blk J s1 H1 _ _ fp1).hN rfl (.inl rfl) (.inr rfl)) (gsj_cons (gj_nm (jc_blk J s1 H1 _ _ fp1).hN rfl (.inl rfl) (.inr rfl)) gsj_nil)))) (fun s1 H1 C1 cl1 fp1 => cj_nil) (fun s1 H1 C1 cl1 fp1 => (ej_v rfl (.inl rfl))))
 ss_nil) ss_nil)
 (ss_cons (sj_set J rfl (.inl rfl) (ej_lst aj_nil))
 (ss_cons (sj_for J (ij_e J.toJc (ej_v rfl (.inl rfl))) (gj_nm J.hN rfl (.inl rfl) (.inl rfl)) (ss_cons (sj_set J rfl (.inl rfl) (ej_bin J.toJc (op := .add) rfl (ej_v rfl (.inl rfl)) (ec_call J.toJc O.c20 hr0 dfl_nil M.g__law_references (aj_cons (ej_v rfl (.inl rfl)) aj_nil))))
 ss_nil))
 (ss_cons (sj_ret (ej_v rfl (.inl rfl)))
 ss_nil))))))))
theorem s21 (O : Ok P w K mg base F n) (M : Mg K mg) (hr : Room (2 * n + 1) (A.deeper (envOfC d21.qual (defScope st21) s.heap.objs.size (He.fAd K d21.at_) cdv))) :
    SsJ (cxOf (L2.CX P w) P w K mg base N21 d21.qual (defScope st21) (He.fAd K d21.at_) cdv A outer s H E) (Wk K) (fun cls d _ H => E cls d H) (defBody st21) (b__law_holding (run F n) F) := by
  have J : Js (cxOf (L2.CX P w) P w K mg base N21 d21.qual (defScope st21) (He.fAd K d21.at_) cdv A outer s H E) (Wk K) (fun cls d _ H => E cls d H) := js_of rfl sc21.nd hr
  have hr0 := hr.mono (Nat.le_succ (2 * n))
  exact (ss_cons (sj_setLc J (ij_range1 (ec_call J.toJc O.c14 hr0 dfl_nil M.g__law_take (aj_cons (ej_v rfl (.inr (.inl rfl))) (aj_cons ej_int aj_nil))) rfl M.f_range) (own := [("_law_turn", 6)]) (blkOk_by (N := N21) (sc := defScope st21) (by decide +kernel)) (by decide) rfl rfl (sw_true rfl rfl (by decide) (by decide +kernel)) (fun s1 H1 C1 cl1 fp1 => (gj_nm (jc_blk J s1 H1 _ _ fp1).hN rfl (.inl rfl) (.inr rfl))) (fun s1 H1 C1 cl1 fp1 => cj_nil) (fun s1 H1 C1 cl1 fp1 => (ej_tup (aj_cons (ej_str (t := [116, 111])) (aj_cons (ej_bin (jc_blk J s1 H1 _ _ fp1).toJc (op := .add) rfl ej_int (ec_call (jc_blk J s1 H1 _ _ fp1).toJc O.c14 hr0 dfl_nil M.g__law_take (aj_cons (ej_v rfl (.inr (.inl rfl))) (aj_cons (ej_bin (jc_blk J s1 H1 _ _ fp1).toJc (op := .add) rfl (ej_v rfl (.inr (.inl rfl))) ej_int) aj_nil)))) (aj_cons (ej_ix (jc_blk J s1 H1 _ _ fp1).toJc (ej_lst (aj_cons ej_int (aj_cons ej_int (aj_cons ej_int aj_nil)))) (ec_call (jc_blk J s1 H1 _ _ fp1).toJc O.c14 hr0 dfl_nil M.g__law_take (aj_cons (ej_v rfl (.inr (.inl rfl))) (aj_cons ej_int aj_nil)))) aj_nil))))))
 (ss_cons (sj_set J rfl (.inl rfl) (ec_call J.toJc O.c14 hr0 dfl_nil M.g__law_take (aj_cons (ej_v rfl (.inr (.inl rfl))) (aj_cons ej_int aj_nil))))
 (ss_cons (sj_if (bj_cmp J.toJc (op := .eq) rfl (ej_v rfl (.inl rfl)) ej_int) (ss_cons (sj_ret (ej_tup (aj_cons (ej_str (t := [114, 111, 119])) (aj_cons (ej_bin J.toJc (op := .add) rfl (ej_t1 (cl_tuple J.toJc.hK) (ej_v rfl (.inl rfl)) (by decide +kernel) rfl M.f_tuple) (ej_tup (aj_cons ej_int (aj_cons (ej_str (t := [97])) aj_nil)))) aj_nil))))
 ss_nil) ss_nil)
 (ss_cons (sj_if (bj_cmp J.toJc (op := .eq) rfl (ej_v rfl (.inl rfl)) ej_int) (ss_cons (sj_ret (ej_tup (aj_cons (ej_str (t := [114, 111, 119])) (aj_cons (ej_bin J.toJc (op := .add) rfl (ej_tup (aj_cons (ej_tup (aj_cons (ej_str (t := [114, 111, 119])) (aj_cons (ej_t1 (cl_tuple J.toJc.hK) (ej_v rfl (.inl rfl)) (by decide +kernel) rfl M.f_tuple) aj_nil))) (aj_cons ej_non aj_nil))) (ej_t1 (cl_tuple J.toJc.hK) (ej_sl J.toJc (ej_v rfl (.inl rfl)) oj_n (oj_s ej_int)) (by decide +kernel) rfl M.f_tuple)) aj_nil))))
 ss_nil) ss_nil)
 (ss_cons (sj_set J rfl (.inl rfl) (ej_lst (aj_cons (ej_str (t := [97])) (aj_cons (ej_str (t := [98])) (aj_cons (ej_str (t := [99])) aj_nil)))))
 (ss_cons (sj_set J rfl (.inl rfl) (ej_t1 (cl_tuple J.toJc.hK) (ej_lc J (ij_zip J.toJc (ej_v rfl (.inl rfl)) (ej_v rfl (.inl rfl)) rfl M.f_zip) (own := [("_law_word_here", 7), ("_law_one", 8)]) (blkOk_by (N := N21) (sc := defScope st21) (by decide +kernel)) (by decide) (fun s1 H1 C1 cl1 fp1 => (gj_tp (jc_blk J s1 H1 _ _ fp1).hc (gsj_cons (gj_nm (jc_blk J s1 H1 _ _ fp1).hN rfl (.inl rfl) (.inr rfl)) (gsj_cons (gj_nm (jc_blk J s1 H1 _ _ fp1).hN rfl (.inl rfl) (.inr rfl)) gsj_nil)))) (fun s1 H1 C1 cl1 fp1 => cj_nil) (fun s1 H1 C1 cl1 fp1 => (ej_tup (aj_cons (ej_v rfl (.inl rfl)) (aj_cons (ej_v rfl (.inl rfl)) aj_nil))))) (by decide +kernel) rfl M.f_tuple))
 (ss_cons (sj_ret (ej_ix J.toJc (ej_lst (aj_cons (ej_tup (aj_cons (ej_str (t := [116, 97, 98, 108, 101])) (aj_cons (ej_v rfl (.inl rfl)) aj_nil))) (aj_cons (ej_tup (aj_cons (ej_str (t := [115, 116, 114, 101, 97, 109])) (aj_cons (ej_v rfl (.inl rfl)) (aj_cons (ej_str (t := [49, 58, 48])) aj_nil)))) aj_nil))) (ej_bin J.toJc (op := .sub) rfl (ej_v rfl (.inl rfl)) ej_int)))
 ss_nil)))))))
theorem s22 (O : Ok P w K mg base F n) (M : Mg K mg) (hr : Room (2 * n + 1) (A.deeper (envOfC d22.qual (defScope st22) s.heap.objs.size (He.fAd K d22.at_) cdv))) :
    SsJ (cxOf (L2.CX P w) P w K mg base N22 d22.qual (defScope st22) (He.fAd K d22.at_) cdv A outer s H E) (Wk K) (fun cls d _ H => E cls d H) (defBody st22) (b__law_due (run F n) F) := by
  have J : Js (cxOf (L2.CX P w) P w K mg base N22 d22.qual (defScope st22) (He.fAd K d22.at_) cdv A outer s H E) (Wk K) (fun cls d _ H => E cls d H) := js_of rfl sc22.nd hr
  have hr0 := hr.mono (Nat.le_succ (2 * n))
  exact (ss_cons (sj_set J rfl (.inl rfl) (ej_newL aj_nil))
 (ss_cons (sj_set J rfl (.inl rfl) (ej_newL (aj_cons (ej_v rfl (.inl rfl)) aj_nil)))
 (ss_cons (sj_wh J (bj_cmp J.toJc (op := .ne) rfl (ej_v rfl (.inl rfl)) (ej_lst aj_nil)) (ss_cons (sj_set J rfl (.inl rfl) (ej_pop (ej_v rfl (.inl rfl)) ej_int))
 (ss_cons (sj_if (bj_w (wj_and (bj_cmp J.toJc (op := .isnt) rfl (ej_v rfl (.inl rfl)) ej_non) (wj_and (bj_cmp J.toJc (op := .in_) rfl (ej_ix J.toJc (ej_v rfl (.inl rfl)) ej_int) (ej_v rfl (.inl rfl))) (wj_and (bj_cmp J.toJc (op := .eq) rfl (ej_ix J.toJc (ej_ix J.toJc (ej_v rfl (.inl rfl)) (ej_ix J.toJc (ej_v rfl (.inl rfl)) ej_int)) ej_int) (ej_ix J.toJc (ej_v rfl (.inl rfl)) ej_int)) (wj_and1 (bj_cmp J.toJc (op := .notin) rfl (ej_ix J.toJc (ej_v rfl (.inl rfl)) ej_int) (ej_v rfl (.inl rfl)))))))) (ss_cons (sj_ex (ej_app (ej_v rfl (.inl rfl)) (ej_ix J.toJc (ej_v rfl (.inl rfl)) ej_int)))
 (ss_cons (sj_set J rfl (.inl rfl) (ej_newCat (ej_v rfl (.inl rfl)) (ec_call J.toJc O.c20 hr0 dfl_nil M.g__law_references (aj_cons (ej_ix J.toJc (ej_ix J.toJc (ej_v rfl (.inl rfl)) (ej_ix J.toJc (ej_v rfl (.inl rfl)) ej_int)) ej_int) aj_nil))))
 ss_nil)) ss_nil)
 ss_nil)))
 (ss_cons (sj_ret (ej_v rfl (.inl rfl)))
 ss_nil))))
theorem s23 (O : Ok P w K mg base F n) (M : Mg K mg) (hr : Room (2 * n + 1) (A.deeper (envOfC d23.qual (defScope st23) s.heap.objs.size (He.fAd K d23.at_) cdv))) :
    SsJ (cxOf (L2.CX P w) P w K mg base N23 d23.qual (defScope st23) (He.fAd K d23.at_) cdv A outer s H E) (Wk K) (fun cls d _ H => E cls d H) (defBody st23) (b_law (run F n) F) := by
  have J : Js (cxOf (L2.CX P w) P w K mg base N23 d23.qual (defScope st23) (He.fAd K d23.at_) cdv A outer s H E) (Wk K) (fun cls d _ H => E cls d H) := js_of rfl sc23.nd hr
  have hr0 := hr.mono (Nat.le_succ (2 * n))
  exact (ss_cons (sj_for J (ij_range1 (ej_b2 (cl_max J.hc) ej_int (ej_b2 (cl_min J.hc) (ej_b1 (cl_len J.toJc.hK) (ej_v rfl (.inl rfl)) (by decide +kernel) rfl M.f_len) ej_int (by decide +kernel) rfl M.f_min) (by decide +kernel) rfl M.f_max) rfl M.f_range) (gj_nm J.hN rfl (.inl rfl) (.inl rfl)) (ss_cons (sj_set J rfl (.inl rfl) (ec_call J.toJc O.c13 hr0 dfl_nil M.g__law_room (aj_cons (ej_v rfl (.inl rfl)) (aj_cons (ej_v rfl (.inl rfl)) aj_nil))))
 (ss_cons (sj_set J rfl (.inl rfl) (ej_bin J.toJc (op := .add) rfl ej_int (ec_call J.toJc O.c14 hr0 dfl_nil M.g__law_take (aj_cons (ej_v rfl (.inl rfl)) (aj_cons ej_int aj_nil)))))
 (ss_cons (sj_set J rfl (.inl rfl) ej_newD)
 (ss_cons (sj_for J (ij_range2 ej_int (ej_bin J.toJc (op := .add) rfl (ej_v rfl (.inl rfl)) ej_int) rfl M.f_range) (gj_nm J.hN rfl (.inl rfl) (.inl rfl)) (ss_cons (sj_if (bj_cmp J.toJc (op := .gt) rfl (ec_call J.toJc O.c14 hr0 dfl_nil M.g__law_take (aj_cons (ej_v rfl (.inl rfl)) (aj_cons ej_int aj_nil))) ej_int) (ss_cons (sj_setI J (ej_v rfl (.inl rfl)) (ej_v rfl (.inl rfl)) (ej_tup (aj_cons (ec_call J.toJc O.c14 hr0 dfl_nil M.g__law_take (aj_cons (ej_v rfl (.inl rfl)) (aj_cons ej_int aj_nil))) (aj_cons (ej_ix J.toJc (ej_lst (aj_cons (ec_call J.toJc O.c21 hr0 dfl_nil M.g__law_holding (aj_cons (ej_v rfl (.inl rfl)) (aj_cons (ej_v rfl (.inl rfl)) aj_nil))) (aj_cons (ec_call J.toJc O.c19 hr0 dfl_nil M.g__law_plain (aj_cons (ej_v rfl (.inl rfl)) (aj_cons ej_int aj_nil))) aj_nil))) (ec_call J.toJc O.c14 hr0 dfl_nil M.g__law_take (aj_cons (ej_v rfl (.inl rfl)) (aj_cons ej_int aj_nil)))) aj_nil))))
 ss_nil) ss_nil)
 ss_nil))
 (ss_cons (sj_set J rfl (.inl rfl) (ej_ix J.toJc (ej_lst (aj_cons ej_non (aj_cons (ej_tup (aj_cons (ej_str (t := [116, 111])) (aj_cons ej_int (aj_cons ej_int aj_nil)))) (aj_cons (ej_tup (aj_cons (ej_str (t := [116, 111])) (aj_cons (ej_bin J.toJc (op := .add) rfl ej_int (ec_call J.toJc O.c14 hr0 dfl_nil M.g__law_take (aj_cons (ej_v rfl (.inl rfl)) (aj_cons (ej_v rfl (.inl rfl)) aj_nil)))) (aj_cons (ec_call J.toJc O.c14 hr0 dfl_nil M.g__law_take (aj_cons (ej_v rfl (.inl rfl)) (aj_cons ej_int aj_nil))) aj_nil)))) aj_nil)))) (ec_call J.toJc O.c14 hr0 dfl_nil M.g__law_take (aj_cons (ej_v rfl (.inl rfl)) (aj_cons ej_int aj_nil)))))
 (ss_cons (sj_set J rfl (.inl rfl) (ec_makeK J.toJc (O.k8_root) hr kg8_root M.g_Book (aj_cons (ej_v rfl (.inl rfl)) aj_nil) (kj_cons (ej_v rfl (.inl rfl)) kj_nil) (len_cons len_nil) (len_cons len_nil)))
 (ss_cons (sj_set J rfl (.inl rfl) (ec_call J.toJc O.c22 hr0 dfl_nil M.g__law_due (aj_cons (ej_v rfl (.inl rfl)) (aj_cons (ej_v rfl (.inl rfl)) aj_nil))))
 (ss_cons (sj_if (bj_cmp J.toJc (op := .ne) rfl (ec_meth0 (cls := 0) J.toJc O.c11 hr0 dfl_nil M.cls0 M.m0_met nm_met (ej_v rfl (.inl rfl))) (ej_v rfl (.inl rfl))) (ss_cons (sj_ret ej_bl)
 ss_nil) ss_nil)
 (ss_cons (sj_ex (ej_app (ec_meth0 (cls := 0) J.toJc O.c511 hr0 dfl_nil M.cls0 M.m0_met nm_met (ej_v rfl (.inl rfl))) ej_int))
 (ss_cons (sj_if (bj_cmp J.toJc (op := .ne) rfl (ec_meth0 (cls := 0) J.toJc O.c11 hr0 dfl_nil M.cls0 M.m0_met nm_met (ej_v rfl (.inl rfl))) (ej_v rfl (.inl rfl))) (ss_cons (sj_ret ej_bl)
 ss_nil) ss_nil)
 ss_nil)))))))))))
 (ss_cons (sj_ret (ej_cmp J.toJc (op := .eq) rfl (ec_meth0 (cls := 0) J.toJc O.c11 hr0 dfl_nil M.cls0 M.m0_met nm_met (ec_make J.toJc O.c8 hr dfl8 M.g_Book (aj_cons ej_dct0 aj_nil))) (ej_lst aj_nil)))
 ss_nil))
end
structure Fd (K : PySem.W.Frag) : Prop where
  D0 : ∃ fd, FnD K d0 fd
  D1 : ∃ fd, FnD K d1 fd
  D2 : ∃ fd, FnD K d2 fd
  D3 : ∃ fd, FnD K d3 fd
  D4 : ∃ fd, FnD K d4 fd
  D5 : ∃ fd, FnD K d5 fd
  D6 : ∃ fd, FnD K d6 fd
  D7 : ∃ fd, FnD K d7 fd
  D8 : ∃ fd, FnD K d8 fd
  D9 : ∃ fd, FnD K d9 fd
  D10 : ∃ fd, FnD K d10 fd
  D11 : ∃ fd, FnD K d11 fd
  D12 : ∃ fd, FnD K d12 fd
  D13 : ∃ fd, FnD K d13 fd
  D14 : ∃ fd, FnD K d14 fd
  D15 : ∃ fd, FnD K d15 fd
  D16 : ∃ fd, FnD K d16 fd
  D17 : ∃ fd, FnD K d17 fd
  D18 : ∃ fd, FnD K d18 fd
  D19 : ∃ fd, FnD K d19 fd
  D20 : ∃ fd, FnD K d20 fd
  D21 : ∃ fd, FnD K d21 fd
  D22 : ∃ fd, FnD K d22 fd
  D23 : ∃ fd, FnD K d23 fd
section
variable {P : Program} {w : World} {K : PySem.W.Frag} {mg : Str → Option Value} {base : Heap} {F n : Nat}
theorem bd0 {fd : FuncData} (D : FnD K d0 fd) : Binds K fd ps0 [] := FunD.bindsN D fun _ _ _ _ _ _ us hl => match us, hl with | [_], _ => rfl
theorem bd1 {fd : FuncData} (D : FnD K d1 fd) : Binds K fd ps1 [] := FunD.bindsN D fun _ _ _ _ _ _ us hl => match us, hl with | [_, _, _], _ => rfl
theorem bd2 {fd : FuncData} (D : FnD K d2 fd) : Binds K fd ps2 [] := FunD.bindsN D fun _ _ _ _ _ _ us hl => match us, hl with | [_], _ => rfl
theorem bd3 {fd : FuncData} (D : FnD K d3 fd) : Binds K fd ps3 [] := FunD.bindsN D fun _ _ _ _ _ _ us hl => match us, hl with | [_], _ => rfl
theorem bd4 {fd : FuncData} (D : FnD K d4 fd) : Binds K fd ps4 [] := FunD.bindsN D fun _ _ _ _ _ _ us hl => match us, hl with | [_], _ => rfl
theorem bd5 {fd : FuncData} (D : FnD K d5 fd) : Binds K fd ps5 [] := FunD.bindsN D fun _ _ _ _ _ _ us hl => match us, hl with | [_, _], _ => rfl
theorem bd6 {fd : FuncData} (D : FnD K d6 fd) : Binds K fd ps6 [] := FunD.bindsN D fun _ _ _ _ _ _ us hl => match us, hl with | [_], _ => rfl
theorem bd7 {fd : FuncData} (D : FnD K d7 fd) : Binds K fd ps7 [] := FunD.bindsN D fun _ _ _ _ _ _ us hl => match us, hl with | [_], _ => rfl
theorem bd8 {fd : FuncData} (D : FnD K d8 fd) : ∃ ds, Vals (dv8 K) ds ∧ Binds K fd ps8 ds := FunD.binds0 D 2 (fun h => by cases h) rfl fun _ _ _ _ _ _ us ks h1 h2 => match us, ks, h1, h2 with | [_, _], [_, _], _, _ => ⟨_, _, _, _, _, _, rfl, rfl, ⟨_, _, _, _, _, _, rfl, rfl, rfl⟩⟩
theorem bd9 {fd : FuncData} (D : FnD K d9 fd) : Binds K fd ps9 [] := FunD.bindsN D fun _ _ _ _ _ _ us hl => match us, hl with | [_, _], _ => rfl
theorem bd10 {fd : FuncData} (D : FnD K d10 fd) : Binds K fd ps10 [] := FunD.bindsN D fun _ _ _ _ _ _ us hl => match us, hl with | [_, _], _ => rfl
theorem bd11 {fd : FuncData} (D : FnD K d11 fd) : Binds K fd ps11 [] := FunD.bindsN D fun _ _ _ _ _ _ us hl => match us, hl with | [_], _ => rfl
theorem bd12 {fd : FuncData} (D : FnD K d12 fd) : Binds K fd ps12 [] := FunD.bindsN D fun _ _ _ _ _ _ us hl => match us, hl with | [_, _, _], _ => rfl
theorem bd13 {fd : FuncData} (D : FnD K d13 fd) : Binds K fd ps13 [] := FunD.bindsN D fun _ _ _ _ _ _ us hl => match us, hl with | [_, _], _ => rfl
theorem bd14 {fd : FuncData} (D : FnD K d14 fd) : Binds K fd ps14 [] := FunD.bindsN D fun _ _ _ _ _ _ us hl => match us, hl with | [_, _], _ => rfl
theorem bd15 {fd : FuncData} (D : FnD K d15 fd) : Binds K fd ps15 [] := FunD.bindsN D fun _ _ _ _ _ _ us hl => match us, hl with | [_], _ => rfl
theorem bd16 {fd : FuncData} (D : FnD K d16 fd) : Binds K fd ps16 [] := FunD.bindsN D fun _ _ _ _ _ _ us hl => match us, hl with | [_], _ => rfl
theorem bd17 {fd : FuncData} (D : FnD K d17 fd) : Binds K fd ps17 [] := FunD.bindsN D fun _ _ _ _ _ _ us hl => match us, hl with | [_], _ => rfl
theorem bd18 {fd : FuncData} (D : FnD K d18 fd) : Binds K fd ps18 [] := FunD.bindsN D fun _ _ _ _ _ _ us hl => match us, hl with | [_, _], _ => rfl
theorem bd19 {fd : FuncData} (D : FnD K d19 fd) : Binds K fd ps19 [] := FunD.bindsN D fun _ _ _ _ _ _ us hl => match us, hl with | [_, _], _ => rfl
theorem bd20 {fd : FuncData} (D : FnD K d20 fd) : Binds K fd ps20 [] := FunD.bindsN D fun _ _ _ _ _ _ us hl => match us, hl with | [_], _ => rfl
theorem bd21 {fd : FuncData} (D : FnD K d21 fd) : Binds K fd ps21 [] := FunD.bindsN D fun _ _ _ _ _ _ us hl => match us, hl with | [_, _], _ => rfl
theorem bd22 {fd : FuncData} (D : FnD K d22 fd) : Binds K fd ps22 [] := FunD.bindsN D fun _ _ _ _ _ _ us hl => match us, hl with | [_, _], _ => rfl
theorem bd23 {fd : FuncData} (D : FnD K d23 fd) : Binds K fd ps23 [] := FunD.bindsN D fun _ _ _ _ _ _ us hl => match us, hl with | [_], _ => rfl
theorem gr8_root {vs mz zs : List V} {us mv ws : List Value} (r0 : Vals vs us) (r1 : Vals mz mv) (r2 : Vals zs ws) : Vals (gg8_root vs mz zs) (gg8_root us mv ws) := by
  cases r0 with
  | nil => exact .nil
  | cons a0 q0_0 =>
    cases q0_0 with
    | nil => exact .cons a0 .nil
    | cons a1 q0_1 =>
      cases q0_1 with
      | cons _ _ => exact .cons a0 .nil
      | nil =>
        cases r1 with
        | nil => exact .cons a0 .nil
        | cons m0 q1_0 =>
          cases q1_0 with
          | cons _ _ => exact .cons a0 .nil
          | nil =>
            cases r2 with
            | nil => exact .cons a0 .nil
            | cons z0 q2_0 =>
              cases q2_0 with
              | cons _ _ => exact .cons a0 .nil
              | nil =>
                exact (.cons a0 (.cons a1 (.cons z0 (.cons m0 .nil))))

theorem kb8_root {fd : FuncData} (D : FnD K d8 fd) : ∃ g, KBn K fd ps8 2 ["root"] g (kv8_root K) := by
  obtain ⟨mv, h⟩ := FunD.kbinds0 (ps := ps8) D 2 ["root"] (lk8_root K) gg8_root (fun h => by cases h) (fun q hq => by
     simp [lk8_root] at hq; subst hq; exact List.mem_of_getElem? (i := 1) rfl) gr8_root (fun _ _ _ _ _ _ us mv ws h1 h2 h3 => match us, mv, ws, h1, h2, h3 with | [_, _], [_], [_], _, _, _ => ⟨_, _, _, _, _, _, rfl, rfl, rfl⟩)
  exact ⟨_, h⟩
theorem ok_zero (D : Fd K) (M : Mg K mg) : Ok P w K mg base F 0 where
  c0 := by
    obtain ⟨fd, D⟩ := D.D0
    exact ⟨fd, [], fn_bad, D.kp, bd0 D, .nil⟩
  c1 := by
    obtain ⟨fd, D⟩ := D.D1
    exact ⟨fd, [], fn_bad, D.kp, bd1 D, .nil⟩
  c2 := by
    obtain ⟨fd, D⟩ := D.D2
    exact ⟨fd, [], fn_bad, D.kp, bd2 D, .nil⟩
  c3 := by
    obtain ⟨fd, D⟩ := D.D3
    exact ⟨fd, [], fn_bad, D.kp, bd3 D, .nil⟩
  c4 := by
    obtain ⟨fd, D⟩ := D.D4
    exact ⟨fd, [], fn_bad, D.kp, bd4 D, .nil⟩
  c5 := by
    obtain ⟨fd, D⟩ := D.D5
    exact ⟨fd, [], fn_bad, D.kp, bd5 D, .nil⟩
  c6 := by
    obtain ⟨fd, D⟩ := D.D6
    exact ⟨fd, [], fn_bad, D.kp, bd6 D, .nil⟩
  c7 := by
    obtain ⟨fd, D⟩ := D.D7
    exact ⟨fd, [], fn_bad, D.kp, bd7 D, .nil⟩
  c8 := by
    obtain ⟨fd, D⟩ := D.D8
    obtain ⟨ds, v, b⟩ := bd8 D
    exact ⟨_, fd, ds, M.mk0, fn_badM, b, v⟩
  c9 := by
    obtain ⟨fd, D⟩ := D.D9
    exact ⟨fd, [], fn_bad, D.kp, bd9 D, .nil⟩
  c10 := by
    obtain ⟨fd, D⟩ := D.D10
    exact ⟨fd, [], fn_bad, D.kp, bd10 D, .nil⟩
  c11 := by
    obtain ⟨fd, D⟩ := D.D11
    exact ⟨fd, [], fn_bad, D.kp, bd11 D, .nil⟩
  c12 := by
    obtain ⟨fd, D⟩ := D.D12
    exact ⟨fd, [], fn_bad, D.kp, bd12 D, .nil⟩
  c13 := by
    obtain ⟨fd, D⟩ := D.D13
    exact ⟨fd, [], fn_bad, D.kp, bd13 D, .nil⟩
  c14 := by
    obtain ⟨fd, D⟩ := D.D14
    exact ⟨fd, [], fn_bad, D.kp, bd14 D, .nil⟩
  c15 := by
    obtain ⟨fd, D⟩ := D.D15
    exact ⟨fd, [], fn_bad, D.kp, bd15 D, .nil⟩
  c16 := by
    obtain ⟨fd, D⟩ := D.D16
    exact ⟨fd, [], fn_bad, D.kp, bd16 D, .nil⟩
  c17 := by
    obtain ⟨fd, D⟩ := D.D17
    exact ⟨fd, [], fn_bad, D.kp, bd17 D, .nil⟩
  c18 := by
    obtain ⟨fd, D⟩ := D.D18
    exact ⟨fd, [], fn_bad, D.kp, bd18 D, .nil⟩
  c19 := by
    obtain ⟨fd, D⟩ := D.D19
    exact ⟨fd, [], fn_bad, D.kp, bd19 D, .nil⟩
  c20 := by
    obtain ⟨fd, D⟩ := D.D20
    exact ⟨fd, [], fn_bad, D.kp, bd20 D, .nil⟩
  c21 := by
    obtain ⟨fd, D⟩ := D.D21
    exact ⟨fd, [], fn_bad, D.kp, bd21 D, .nil⟩
  c22 := by
    obtain ⟨fd, D⟩ := D.D22
    exact ⟨fd, [], fn_bad, D.kp, bd22 D, .nil⟩
  c23 := by
    obtain ⟨fd, D⟩ := D.D23
    exact ⟨fd, [], fn_bad, D.kp, bd23 D, .nil⟩
  c511 := by
    obtain ⟨fd, D⟩ := D.D11
    exact ⟨fd, [], fn_bad, D.kp, bd11 D, .nil⟩
  k8_root := by
    obtain ⟨fd, D⟩ := D.D8
    obtain ⟨g, b⟩ := kb8_root D
    exact ⟨_, fd, g, M.mk0, fn_badM, b⟩
theorem ok_succ (O : Ok P w K mg base F n) (M : Mg K mg) (D : Fd K) : Ok P w K mg base F (n + 1) where
  c0 := by
    obtain ⟨fd, D⟩ := D.D0
    exact ⟨fd, [], fn_own D sc0 rfl (fun cdv A outer s H E hr => s0 O M hr), D.kp, bd0 D, .nil⟩
  c1 := by
    obtain ⟨fd, D⟩ := D.D1
    exact ⟨fd, [], fn_own D sc1 rfl (fun cdv A outer s H E hr => s1 O M hr), D.kp, bd1 D, .nil⟩
  c2 := by
    obtain ⟨fd, D⟩ := D.D2
    exact ⟨fd, [], fn_own D sc2 rfl (fun cdv A outer s H E hr => s2 O M hr), D.kp, bd2 D, .nil⟩
  c3 := by
    obtain ⟨fd, D⟩ := D.D3
    exact ⟨fd, [], fn_own D sc3 rfl (fun cdv A outer s H E hr => s3 O M hr), D.kp, bd3 D, .nil⟩
  c4 := by
    obtain ⟨fd, D⟩ := D.D4
    exact ⟨fd, [], fn_own D sc4 rfl (fun cdv A outer s H E hr => s4 O M hr), D.kp, bd4 D, .nil⟩
  c5 := by
    obtain ⟨fd, D⟩ := D.D5
    exact ⟨fd, [], fn_own D sc5 rfl (fun cdv A outer s H E hr => s5 O M hr), D.kp, bd5 D, .nil⟩
  c6 := by
    obtain ⟨fd, D⟩ := D.D6
    exact ⟨fd, [], fn_own D sc6 rfl (fun cdv A outer s H E hr => s6 O M hr), D.kp, bd6 D, .nil⟩
  c7 := by
    obtain ⟨fd, D⟩ := D.D7
    exact ⟨fd, [], fn_own D sc7 rfl (fun cdv A outer s H E hr => s7 O M hr), D.kp, bd7 D, .nil⟩
  c8 := by
    obtain ⟨fd, D⟩ := D.D8
    obtain ⟨ds, v, b⟩ := bd8 D
    exact ⟨_, fd, ds, M.mk0, fn_make D sc8 rfl (fun cdv A outer s H E hr => s8 O M hr), b, v⟩
  c9 := by
    obtain ⟨fd, D⟩ := D.D9
    exact ⟨fd, [], fn_own D sc9 rfl (fun cdv A outer s H E hr => s9 O M hr), D.kp, bd9 D, .nil⟩
  c10 := by
    obtain ⟨fd, D⟩ := D.D10
    exact ⟨fd, [], fn_own D sc10 rfl (fun cdv A outer s H E hr => s10 O M hr), D.kp, bd10 D, .nil⟩
  c11 := by
    obtain ⟨fd, D⟩ := D.D11
    exact ⟨fd, [], fn_own D sc11 rfl (fun cdv A outer s H E hr => s11 O M hr), D.kp, bd11 D, .nil⟩
  c12 := by
    obtain ⟨fd, D⟩ := D.D12
    exact ⟨fd, [], fn_own D sc12 rfl (fun cdv A outer s H E hr => s12 O M hr), D.kp, bd12 D, .nil⟩
  c13 := by
    obtain ⟨fd, D⟩ := D.D13
    exact ⟨fd, [], fn_full D sc13 rfl (fun cdv A outer s H E hr => s13 O M hr), D.kp, bd13 D, .nil⟩
  c14 := by
    obtain ⟨fd, D⟩ := D.D14
    exact ⟨fd, [], fn_own D sc14 rfl (fun cdv A outer s H E hr => s14 O M hr), D.kp, bd14 D, .nil⟩
  c15 := by
    obtain ⟨fd, D⟩ := D.D15
    exact ⟨fd, [], fn_own D sc15 rfl (fun cdv A outer s H E hr => s15 O M hr), D.kp, bd15 D, .nil⟩
  c16 := by
    obtain ⟨fd, D⟩ := D.D16
    exact ⟨fd, [], fn_own D sc16 rfl (fun cdv A outer s H E hr => s16 O M hr), D.kp, bd16 D, .nil⟩
  c17 := by
    obtain ⟨fd, D⟩ := D.D17
    exact ⟨fd, [], fn_own D sc17 rfl (fun cdv A outer s H E hr => s17 O M hr), D.kp, bd17 D, .nil⟩
  c18 := by
    obtain ⟨fd, D⟩ := D.D18
    exact ⟨fd, [], fn_own D sc18 rfl (fun cdv A outer s H E hr => s18 O M hr), D.kp, bd18 D, .nil⟩
  c19 := by
    obtain ⟨fd, D⟩ := D.D19
    exact ⟨fd, [], fn_own D sc19 rfl (fun cdv A outer s H E hr => s19 O M hr), D.kp, bd19 D, .nil⟩
  c20 := by
    obtain ⟨fd, D⟩ := D.D20
    exact ⟨fd, [], fn_own D sc20 rfl (fun cdv A outer s H E hr => s20 O M hr), D.kp, bd20 D, .nil⟩
  c21 := by
    obtain ⟨fd, D⟩ := D.D21
    exact ⟨fd, [], fn_own D sc21 rfl (fun cdv A outer s H E hr => s21 O M hr), D.kp, bd21 D, .nil⟩
  c22 := by
    obtain ⟨fd, D⟩ := D.D22
    exact ⟨fd, [], fn_own D sc22 rfl (fun cdv A outer s H E hr => s22 O M hr), D.kp, bd22 D, .nil⟩
  c23 := by
    obtain ⟨fd, D⟩ := D.D23
    exact ⟨fd, [], fn_full D sc23 rfl (fun cdv A outer s H E hr => s23 O M hr), D.kp, bd23 D, .nil⟩
  c511 := by
    obtain ⟨fd, D⟩ := D.D11
    exact ⟨fd, [], fn_full D sc11 rfl (fun cdv A outer s H E hr => s11 O M hr), D.kp, bd11 D, .nil⟩
  k8_root := by
    obtain ⟨fd, D⟩ := D.D8
    obtain ⟨g, b⟩ := kb8_root D
    exact ⟨_, fd, g, M.mk0, fn_make D sc8 rfl (fun cdv A outer s H E hr => s8 O M hr), b⟩
theorem ok_all (M : Mg K mg) (D : Fd K) : ∀ n, Ok P w K mg base F n
  | 0 => ok_zero D M
  | n + 1 => ok_succ (ok_all M D n) M D
end
end Lw
end
section
set_option Elab.async false
set_option linter.all false
set_option maxRecDepth 100000
set_option maxHeartbeats 0
namespace Lw
open PySem PySem.Spec PyProof.Rows L2 Fw
abbrev Rw : PySem.W.OpenRow := PySem.W.OpenLaw.row PySem.Challenge.rw_appendedbook_k15_what_is_met
def lawIx : List Stmt → Nat → Nat
  | [], _ => 0
  | .FunctionDef n _ _ _ _ _ _ _ _ _ :: r, i => if n = ("law" : Str) then i else lawIx r (i + 1)
  | _ :: r, i => lawIx r (i + 1)
def ix : Nat := lawIx Rw.prog.main.body 0
def namesOf (ss : List Stmt) : List Str := (ss.filterMap fun s => match s with
  | .FunctionDef n _ _ _ _ _ _ _ _ _ => if n = ("law" : Str) then none else some n
  | .Assign [.Name n _] _ _ => if n = ("__name__" : Str) then none else some n
  | .ClassDef n _ _ _ _ _ _ _ _ _ _ => some n
  | _ => none)
def names : List Str := namesOf Rw.prog.main.body
def fas : List He.Fa := [.glo "Book", .glo "_law_due", .glo "_law_entries", .glo "_law_holding", .glo "_law_plain", .glo "_law_reference", .glo "_law_references", .glo "_law_room", .glo "_law_take", .glo "_law_text", .glo "_law_word", .glo "is_edition", .glo "is_from", .glo "is_kind", .glo "is_number", .glo "is_reference", .glo "is_whole", .glo "law", .glo "parts_of", .glo "references", .free "bool", .free "dict", .free "int", .free "isinstance", .free "len", .free "list", .free "max", .free "min", .free "range", .free "sorted", .free "str", .free "tuple", .free "zip", .int "MOST_EDITION" 99, .int "MOST_NUMBER" 200, .cls "Book", .mkr "Book", .noat "Book" "own_free", .noat "Book" "own_root", .noat "Book" "own_things", .meth "Book" "edition", .meth "Book" "leads", .meth "Book" "meet", .meth "Book" "met"]
def fns : List He.DefD := [d0, d1, d2, d3, d4, d5, d6, d7, d8, d9, d10, d11, d12, d13, d14, d15, d16, d17, d18, d19, d20, d21, d22, d23]
def exB (K : PySem.W.Frag) : Bool := match K.lookup (empA K) with
  | some ⟨.type c, none, .seq its _, _⟩ => decide (c = "tuple") && its.isEmpty
  | _ => false
abbrev hk : PySem.W.Hook := He.hookX 5 fas fns [] [] exB
def ob (s : PySem.W.SharedT) : He.AlX := He.obsX 5 fas fns [] [] exB (HandSHeadRun.getT s)
theorem ob_eq (s : PySem.W.SharedT) : ob s = hk.obs s.abs := He.obsX_eq (HandSHeadRun.getT_eq s)
theorem runEq (w : World) : HandSHeadRun.RunEq Rw (PySem.W.view Rw.prog [ix]) hk ob 6000 names w := by
  intro os
  kernel_rfl
theorem exB_ok {K : PySem.W.Frag} (h : exB K = true) : KEmp K (empA K) := by
  unfold exB at h
  split at h
  · rename_i c its n sl e
    simp only [Bool.and_eq_true, decide_eq_true_eq] at h
    obtain ⟨rfl, h2⟩ := h
    have : its = #[] := Array.isEmpty_iff.mp h2
    subst this
    exact ⟨n, sl, e⟩
  · cases h
section
variable {K : PySem.W.Frag} {h : Heap} {mg : Str → Option Value} {w : World}
theorem mg_ok (X : K.In h) (G : h.Ns mainGlobals mg) (c : He.SaysD fas fns K) (e : exB K = true) : Mg K mg where
  g_Book := He.glo_ok X G (c.fact 0 rfl)
  g__law_due := He.glo_ok X G (c.fact 1 rfl)
  g__law_entries := He.glo_ok X G (c.fact 2 rfl)
  g__law_holding := He.glo_ok X G (c.fact 3 rfl)
  g__law_plain := He.glo_ok X G (c.fact 4 rfl)
  g__law_reference := He.glo_ok X G (c.fact 5 rfl)
  g__law_references := He.glo_ok X G (c.fact 6 rfl)
  g__law_room := He.glo_ok X G (c.fact 7 rfl)
  g__law_take := He.glo_ok X G (c.fact 8 rfl)
  g__law_text := He.glo_ok X G (c.fact 9 rfl)
  g__law_word := He.glo_ok X G (c.fact 10 rfl)
  g_is_edition := He.glo_ok X G (c.fact 11 rfl)
  g_is_from := He.glo_ok X G (c.fact 12 rfl)
  g_is_kind := He.glo_ok X G (c.fact 13 rfl)
  g_is_number := He.glo_ok X G (c.fact 14 rfl)
  g_is_reference := He.glo_ok X G (c.fact 15 rfl)
  g_is_whole := He.glo_ok X G (c.fact 16 rfl)
  g_parts_of := He.glo_ok X G (c.fact 18 rfl)
  g_references := He.glo_ok X G (c.fact 19 rfl)
  f_bool := He.free_ok X G (c.fact 20 rfl)
  f_dict := He.free_ok X G (c.fact 21 rfl)
  f_int := He.free_ok X G (c.fact 22 rfl)
  f_isinstance := He.free_ok X G (c.fact 23 rfl)
  f_len := He.free_ok X G (c.fact 24 rfl)
  f_list := He.free_ok X G (c.fact 25 rfl)
  f_max := He.free_ok X G (c.fact 26 rfl)
  f_min := He.free_ok X G (c.fact 27 rfl)
  f_range := He.free_ok X G (c.fact 28 rfl)
  f_sorted := He.free_ok X G (c.fact 29 rfl)
  f_str := He.free_ok X G (c.fact 30 rfl)
  f_tuple := He.free_ok X G (c.fact 31 rfl)
  f_zip := He.free_ok X G (c.fact 32 rfl)
  MOST_EDITION := He.int_ok X G (c.fact 33 rfl)
  MOST_NUMBER := He.int_ok X G (c.fact 34 rfl)
  cls0 := He.cls_ok (c.fact 35 rfl)
  mk0 := He.mkr_ok (c.fact 36 rfl)
  no0_own_free := He.noat_ok (c.fact 37 rfl)
  no0_own_root := He.noat_ok (c.fact 38 rfl)
  no0_own_things := He.noat_ok (c.fact 39 rfl)
  m0_edition := He.meth_ok (c.fact 40 rfl)
  m0_leads := He.meth_ok (c.fact 41 rfl)
  m0_meet := He.meth_ok (c.fact 42 rfl)
  m0_met := He.meth_ok (c.fact 43 rfl)
  emp := exB_ok e
theorem fd_ok (c : He.SaysD fas fns K) : Fd K where
  D0 := c.def_ 0 rfl
  D1 := c.def_ 1 rfl
  D2 := c.def_ 2 rfl
  D3 := c.def_ 3 rfl
  D4 := c.def_ 4 rfl
  D5 := c.def_ 5 rfl
  D6 := c.def_ 6 rfl
  D7 := c.def_ 7 rfl
  D8 := c.def_ 8 rfl
  D9 := c.def_ 9 rfl
  D10 := c.def_ 10 rfl
  D11 := c.def_ 11 rfl
  D12 := c.def_ 12 rfl
  D13 := c.def_ 13 rfl
  D14 := c.def_ 14 rfl
  D15 := c.def_ 15 rfl
  D16 := c.def_ 16 rfl
  D17 := c.def_ 17 rfl
  D18 := c.def_ 18 rfl
  D19 := c.def_ 19 rfl
  D20 := c.def_ 20 rfl
  D21 := c.def_ 21 rfl
  D22 := c.def_ 22 rfl
  D23 := c.def_ 23 rfl
end
end Lw
end
section
set_option Elab.async false
set_option linter.all false
set_option maxRecDepth 100000
set_option maxHeartbeats 0
namespace Lw
open PySem PySem.Spec PyProof.Rows L2 Fw
/-- the plain law -/
def Plain : Prop := ∀ ns : List Int, ns.length ≤ 63 → ∃ h', run 1000000 100 ix_law [.roi ns] [] = .ok (.bl true) h'
def spLaw (K : PySem.W.Frag) : Sp := fun vs H Q _ => ∃ (a : Addr) (ns : List Int), vs = [.ref a] ∧ ns.length ≤ 63 ∧ SqL K H a (ns.map V.int) ∧ ∀ H', Q (.bl true) H'
theorem sp_law (hp : Plain) {K : PySem.W.Frag} {vs : List V} {H : Hp} {Q : VK} {E : XK} (p : spLaw K vs H Q E) : spF (Wk K) (run 1000000 100 ix_law) vs H Q E := by
  obtain ⟨a, ns, rfl, hl, hs, hq⟩ := p
  obtain ⟨h', e⟩ := hp ns hl
  refine ⟨[], [], [], [.roi ns], ⟨rfl, .nil, (fun z hz => by cases hz), (fun n o a e => by simp at e)⟩, .cons (.roi ?_) .nil, ?_⟩
  · rcases hs with hs | hs
    · exact .inl ⟨by simp, by simp, hs⟩
    · exact .inr hs
  · rw [e]
    intro ρ' H' x S v rv
    cases rv
    exact hq H'
/-- an exception that left, whatever the program -/
def CXs : CXT := fun outer H s E e s' => ∃ P w, L2.CX P w outer H s E e s'
theorem fn_cx {CX CX' : CXT} {P : Program} {w : World} {K : PySem.W.Frag} {mg : Str → Option Value} {base : Heap} {k : Nat} {f : Addr} {fd : FuncData} {ps : List Str} {sp : Sp} (F : FnOk P w K mg base CX k f fd ps sp)
    (h : ∀ outer H s E e s', CX outer H s E e s' → CX' outer H s E e s') : FnOk P w K mg base CX' k f fd ps sp :=
  ⟨F.len, fun A outer s H args us vs Q E r e b v p => codeAny_mono (F.run A outer s H args us vs Q E r e b v p) fun r s' q => by
    cases r with
    | error e => exact h _ _ _ _ _ _ q
    | ok fl => cases fl <;> exact q⟩
theorem cxs_no {H : Hp} {s s' : Shared} {e : Value} (h : CXs [] H s (fun _ _ _ => False) e s') : False := by
  obtain ⟨P, w, a, B, H', cls, d, _, _, _, _, _, _, _, q⟩ := h
  exact q
theorem law_fn {P : Program} {w : World} {K : PySem.W.Frag} {h : Heap} {mg : Str → Option Value} {f : Addr} (hp : Plain) (X : K.In h) (G : h.Ns mainGlobals mg) (hfa : mg ("law" : Str) = some (.ref f)) (c : He.SaysD fas fns K) (e : exB K = true) :
    ∃ fd : FuncData, (∀ (s : Shared) (v : Value), BindsTo s fd ⟨[v], []⟩ [("_law_script", v)]) ∧ ∀ base : Heap, K.In base → base.Ns mainGlobals mg → FnOk P w K mg base CXs 200 f fd ["_law_script"] (spLaw K) := by
  have M := mg_ok X G c e
  have D := fd_ok c
  obtain ⟨fd, F⟩ := D.D23
  have e2 := hfa.symm.trans (He.glo_ok X G (c.fact 17 (f := .glo "law") rfl))
  cases e2
  have b := FunD.bindsA (ps := ["_law_script"]) F fun _ _ _ _ _ _ us hl => match us, hl with | [_], _ => rfl
  refine ⟨fd, fun s v => b s [v] rfl, fun base _ _ => ?_⟩
  have O : Ok P w K mg base 1000000 99 := ok_all M D 99
  have k : FnOk P w K mg base (L2.CX P w) (2 * 99 + 1 + 1) (He.fAd K d23.at_) fd ps23 (spF (Wk K) (run 1000000 100 ix_law)) := fn_full F sc23 rfl (fun cdv A outer s H E hr => s23 O M hr)
  exact fn_cx (k.imp fun vs H Q E p => sp_law hp p) fun _ _ _ _ _ _ q => ⟨P, w, q⟩
end Lw
open PySem PySem.W PySem.Calls PyProof.Rows
theorem holds15 (hp : Lw.Plain) : PySem.Challenge.rw_appendedbook_k15_what_is_met.Holds := by
  w_on; o_law
  refine HandSHeadRun.head_any (r := Lw.Rw) (q := view Lw.Rw.prog [Lw.ix]) (H := Lw.hk) (ob := Lw.ob) (M := 6000) (loose := Lw.names) (d := HandSHeadRun.topDef Lw.Rw.prog Lw.ix) (kwd := []) Lw.ob_eq
    (by kernel_rfl) (fun s => by kernel_rfl) Lw.runEq (by kernel_rfl) (by kernel_rfl) (by kernel_rfl) (by rfl) (by first | assumption | decide +kernel) (by decide +kernel) ⟨rfl, rfl, rfl, rfl, rfl, by decide +kernel⟩ ?hw ?hc
  case hw => w_witness2
  case hc =>
    refine L2.walk_ofE (l := PySem.Challenge.rw_appendedbook_k15_what_is_met) (n := 63) (k := 200) (x := "_law_script") (CX := Lw.CXs) rfl (by decide) (by kernel_rfl) ⟨rfl, by decide, by decide⟩ ?F (fun _ _ _ _ z => Lw.cxs_no z)
    intro w mg fa h Y G hmg0
    obtain ⟨K, KX, c⟩ := Y
    have hmg : mg ("law" : PySem.Str) = some (.ref fa) := by
      have e : (HandSHeadRun.topDef Lw.Rw.prog Lw.ix).name = ("law" : PySem.Str) := by kernel_rfl
      rw [← e]
      exact hmg0
    obtain ⟨fd, hb, hF⟩ := Lw.law_fn (P := (PySem.Challenge.rw_appendedbook_k15_what_is_met).prog) (w := w) hp KX G hmg (congrArg Prod.fst c.t) c.more
    exact ⟨K, fd, Lw.spLaw K, KX, hb, fun H a ns hl _ hS => ⟨a, ns, rfl, hl, hS, fun _ => rfl⟩, hF⟩
end
section
set_option linter.all false
set_option autoImplicit true
/-! Pl0: one step of a program's part at a time. Printed by genpl0.py. -/
namespace Pl
open Fw
variable {σ : Sg} {h : Hh} {a b c t : TM} {as ks : AM} {p q : BM} {x : Exn} {d e f : D} {ds es : List D} {s s' : SM}
@[simp] theorem eC_eq : eC d σ h = .ok d h := (rfl)
@[simp] theorem eV_eq {i : Nat} : eV i σ h = opt (sget σ i) h := (rfl)
@[simp] theorem aNil_eq : aNil σ h = .ok [] h := (rfl)
@[simp] theorem eDct0_eq : eDct0 σ h = .ok (.dct []) h := (rfl)
@[simp] theorem eNewD_eq : eNewD σ h = .ok (.ref h.length) (h ++ [.dct []]) := (rfl)
@[simp] theorem sNil_eq : sNil σ h = .nx σ h := (rfl)
@[simp] theorem sRetN_eq : sRetN σ h = .rt .non h := (rfl)
@[simp] theorem sBrk_eq : sBrk σ h = .bk σ h := (rfl)
@[simp] theorem sCnt_eq : sCnt σ h = .ct σ h := (rfl)
@[simp] theorem bYes_eq : bYes σ h = .ok true h := (rfl)
@[simp] theorem sRaise_eq {i : Nat} : sRaise i σ h = .xn ⟨i, none⟩ σ h := (rfl)
@[simp] theorem sCons_eq : sCons s s' σ h = (s σ h).then_ s' := (rfl)
def kA2 (d : D) (r : R (List D)) : R (List D) := r.bind fun ds h => .ok (d :: ds) h
@[simp] theorem kA2_ok {d : D} {ds : (List D)} : kA2 d (.ok ds h) = .ok (d :: ds) h := (rfl)
@[simp] theorem kA2_xn {d : D} : kA2 d (.xn x h) = .xn x h := (rfl)
@[simp] theorem kA2_bad {d : D} : kA2 d .bad = .bad := (rfl)
def kA1 (as : AM) (σ : Sg) (r : R D) : R (List D) := r.bind fun d h => kA2 d (as σ h)
@[simp] theorem kA1_eq : aCons a as σ h = kA1 as σ (a σ h) := (rfl)
@[simp] theorem kA1_ok  {d : D} : kA1 as σ (.ok d h) = kA2 d (as σ h) := (rfl)
@[simp] theorem kA1_xn  : kA1 as σ (.xn x h) = .xn x h := (rfl)
@[simp] theorem kA1_bad  : kA1 as σ .bad = .bad := (rfl)
def kTup  (r : R (List D)) : R D := r.bind fun ds h => if ds.length ≤ line then .ok (.tup ds) h else .bad
@[simp] theorem kTup_eq : eTup as σ h = kTup  (as σ h) := (rfl)
@[simp] theorem kTup_ok  {ds : (List D)} : kTup  (.ok ds h) = if ds.length ≤ line then .ok (.tup ds) h else .bad := (rfl)
@[simp] theorem kTup_xn  : kTup  (.xn x h) = .xn x h := (rfl)
@[simp] theorem kTup_bad  : kTup  .bad = .bad := (rfl)
def kLst  (r : R (List D)) : R D := r.bind fun ds h => if ds.length ≤ line then .ok (.lst ds) h else .bad
@[simp] theorem kLst_eq : eLst as σ h = kLst  (as σ h) := (rfl)
@[simp] theorem kLst_ok  {ds : (List D)} : kLst  (.ok ds h) = if ds.length ≤ line then .ok (.lst ds) h else .bad := (rfl)
@[simp] theorem kLst_xn  : kLst  (.xn x h) = .xn x h := (rfl)
@[simp] theorem kLst_bad  : kLst  .bad = .bad := (rfl)
def kNewL  (r : R (List D)) : R D := r.bind fun ds h => if ds.length ≤ line then .ok (.ref h.length) (h ++ [.lst ds]) else .bad
@[simp] theorem kNewL_eq : eNewL as σ h = kNewL  (as σ h) := (rfl)
@[simp] theorem kNewL_ok  {ds : (List D)} : kNewL  (.ok ds h) = if ds.length ≤ line then .ok (.ref h.length) (h ++ [.lst ds]) else .bad := (rfl)
@[simp] theorem kNewL_xn  : kNewL  (.xn x h) = .xn x h := (rfl)
@[simp] theorem kNewL_bad  : kNewL  .bad = .bad := (rfl)
def kBin2 (op : Bop) (d : D) (r : R D) : R D := r.bind fun e h => opt (binop h op d e) h
@[simp] theorem kBin2_ok {op : Bop} {d : D} {e : D} : kBin2 op d (.ok e h) = opt (binop h op d e) h := (rfl)
@[simp] theorem kBin2_xn {op : Bop} {d : D} : kBin2 op d (.xn x h) = .xn x h := (rfl)
@[simp] theorem kBin2_bad {op : Bop} {d : D} : kBin2 op d .bad = .bad := (rfl)
def kBin (op : Bop) (b : TM) (σ : Sg) (r : R D) : R D := r.bind fun d h => kBin2 op d (b σ h)
@[simp] theorem kBin_eq : eBin op a b σ h = kBin op b σ (a σ h) := (rfl)
@[simp] theorem kBin_ok {op : Bop} {d : D} : kBin op b σ (.ok d h) = kBin2 op d (b σ h) := (rfl)
@[simp] theorem kBin_xn {op : Bop} : kBin op b σ (.xn x h) = .xn x h := (rfl)
@[simp] theorem kBin_bad {op : Bop} : kBin op b σ .bad = .bad := (rfl)
def kCmp2 (op : Cop) (d : D) (r : R D) : R D := r.bind fun e h => opt ((cmpop h op d e).map .bl) h
@[simp] theorem kCmp2_ok {op : Cop} {d : D} {e : D} : kCmp2 op d (.ok e h) = opt ((cmpop h op d e).map .bl) h := (rfl)
@[simp] theorem kCmp2_xn {op : Cop} {d : D} : kCmp2 op d (.xn x h) = .xn x h := (rfl)
@[simp] theorem kCmp2_bad {op : Cop} {d : D} : kCmp2 op d .bad = .bad := (rfl)
def kCmp (op : Cop) (b : TM) (σ : Sg) (r : R D) : R D := r.bind fun d h => kCmp2 op d (b σ h)
@[simp] theorem kCmp_eq : eCmp op a b σ h = kCmp op b σ (a σ h) := (rfl)
@[simp] theorem kCmp_ok {op : Cop} {d : D} : kCmp op b σ (.ok d h) = kCmp2 op d (b σ h) := (rfl)
@[simp] theorem kCmp_xn {op : Cop} : kCmp op b σ (.xn x h) = .xn x h := (rfl)
@[simp] theorem kCmp_bad {op : Cop} : kCmp op b σ .bad = .bad := (rfl)
def kAnd1 (o : Option Bool) (d : D) (b : TM) (σ : Sg) (h : Hh) : R D := match o with
  | none => .bad
  | some true => b σ h
  | some false => .ok d h
@[simp] theorem kAnd1_t : kAnd1 (some true) d b σ h = b σ h := (rfl)
@[simp] theorem kAnd1_f : kAnd1 (some false) d b σ h = .ok d h := (rfl)
def kOr1 (o : Option Bool) (d : D) (b : TM) (σ : Sg) (h : Hh) : R D := match o with
  | none => .bad
  | some true => .ok d h
  | some false => b σ h
@[simp] theorem kOr1_t : kOr1 (some true) d b σ h = .ok d h := (rfl)
@[simp] theorem kOr1_f : kOr1 (some false) d b σ h = b σ h := (rfl)
def kAnd (b : TM) (σ : Sg) (r : R D) : R D := r.bind fun d h => kAnd1 (tru h d) d b σ h
@[simp] theorem kAnd_eq : eAnd a b σ h = kAnd b σ (a σ h) := (rfl)
@[simp] theorem kAnd_ok  {d : D} : kAnd b σ (.ok d h) = kAnd1 (tru h d) d b σ h := (rfl)
@[simp] theorem kAnd_xn  : kAnd b σ (.xn x h) = .xn x h := (rfl)
@[simp] theorem kAnd_bad  : kAnd b σ .bad = .bad := (rfl)
def kOr (b : TM) (σ : Sg) (r : R D) : R D := r.bind fun d h => kOr1 (tru h d) d b σ h
@[simp] theorem kOr_eq : eOr a b σ h = kOr b σ (a σ h) := (rfl)
@[simp] theorem kOr_ok  {d : D} : kOr b σ (.ok d h) = kOr1 (tru h d) d b σ h := (rfl)
@[simp] theorem kOr_xn  : kOr b σ (.xn x h) = .xn x h := (rfl)
@[simp] theorem kOr_bad  : kOr b σ .bad = .bad := (rfl)
def kNot  (r : R D) : R D := r.bind fun d h => opt ((tru h d).map fun t => .bl (!t)) h
@[simp] theorem kNot_eq : eNot a σ h = kNot  (a σ h) := (rfl)
@[simp] theorem kNot_ok  {d : D} : kNot  (.ok d h) = opt ((tru h d).map fun t => .bl (!t)) h := (rfl)
@[simp] theorem kNot_xn  : kNot  (.xn x h) = .xn x h := (rfl)
@[simp] theorem kNot_bad  : kNot  .bad = .bad := (rfl)
def kIte1 (k : Bool) (a b : TM) (σ : Sg) (h : Hh) : R D := if k then a σ h else b σ h
@[simp] theorem kIte1_t : kIte1 true a b σ h = a σ h := (rfl)
@[simp] theorem kIte1_f : kIte1 false a b σ h = b σ h := (rfl)
def kIte (a : TM) (b : TM) (σ : Sg) (r : R Bool) : R D := r.bind fun k h => kIte1 k a b σ h
@[simp] theorem kIte_eq : eIte p a b σ h = kIte a b σ (p σ h) := (rfl)
@[simp] theorem kIte_ok  {k : Bool} : kIte a b σ (.ok k h) = kIte1 k a b σ h := (rfl)
@[simp] theorem kIte_xn  : kIte a b σ (.xn x h) = .xn x h := (rfl)
@[simp] theorem kIte_bad  : kIte a b σ .bad = .bad := (rfl)
def neg1 (d : D) (h : Hh) : R D := match d with
  | .int i => .ok (.int (-i)) h
  | _ => .bad
@[simp] theorem neg1_int {i : Int} : neg1 (.int i) h = .ok (.int (-i)) h := (rfl)
def kNeg  (r : R D) : R D := r.bind fun d h => neg1 d h
@[simp] theorem kNeg_eq : eNeg a σ h = kNeg  (a σ h) := (rfl)
@[simp] theorem kNeg_ok  {d : D} : kNeg  (.ok d h) = neg1 d h := (rfl)
@[simp] theorem kNeg_xn  : kNeg  (.xn x h) = .xn x h := (rfl)
@[simp] theorem kNeg_bad  : kNeg  .bad = .bad := (rfl)
def kCall (k : List D → Hh → R D) (r : R (List D)) : R D := r.bind fun ds h => k ds h
@[simp] theorem kCall_eq : eCall k as σ h = kCall k (as σ h) := (rfl)
@[simp] theorem kCall_ok {k : List D → Hh → R D} {ds : (List D)} : kCall k (.ok ds h) = k ds h := (rfl)
@[simp] theorem kCall_xn {k : List D → Hh → R D} : kCall k (.xn x h) = .xn x h := (rfl)
@[simp] theorem kCall_bad {k : List D → Hh → R D} : kCall k .bad = .bad := (rfl)
def kMeth2 (k : List D → Hh → R D) (d : D) (r : R (List D)) : R D := r.bind fun ds h => k (d :: ds) h
@[simp] theorem kMeth2_ok {k : List D → Hh → R D} {d : D} {ds : (List D)} : kMeth2 k d (.ok ds h) = k (d :: ds) h := (rfl)
@[simp] theorem kMeth2_xn {k : List D → Hh → R D} {d : D} : kMeth2 k d (.xn x h) = .xn x h := (rfl)
@[simp] theorem kMeth2_bad {k : List D → Hh → R D} {d : D} : kMeth2 k d .bad = .bad := (rfl)
def kMeth1 (k : List D → Hh → R D) (o : Option (Nat × List (Nat × D))) (cls : Nat) (d : D) (as : AM) (σ : Sg) (h : Hh) : R D := match o with
  | some (j, _) => if j = cls then kMeth2 k d (as σ h) else .bad
  | none => .bad
@[simp] theorem kMeth1_ok {k : List D → Hh → R D} {cls : Nat} {fs : List (Nat × D)} : kMeth1 k (some (cls, fs)) cls d as σ h = kMeth2 k d (as σ h) := by simp [kMeth1]
def kMeth (k : List D → Hh → R D) (cls : Nat) (as : AM) (σ : Sg) (r : R D) : R D := r.bind fun d h => kMeth1 k (asObj h d) cls d as σ h
@[simp] theorem kMeth_eq : eMeth k cls a as σ h = kMeth k cls as σ (a σ h) := (rfl)
@[simp] theorem kMeth_ok {k : List D → Hh → R D} {cls : Nat} {d : D} : kMeth k cls as σ (.ok d h) = kMeth1 k (asObj h d) cls d as σ h := (rfl)
@[simp] theorem kMeth_xn {k : List D → Hh → R D} {cls : Nat} : kMeth k cls as σ (.xn x h) = .xn x h := (rfl)
@[simp] theorem kMeth_bad {k : List D → Hh → R D} {cls : Nat} : kMeth k cls as σ .bad = .bad := (rfl)
def kU (g : Hh → D → Option D) (r : R D) : R D := r.bind fun d h => opt (g h d) h
@[simp] theorem kU_eq : eU g a σ h = kU g (a σ h) := (rfl)
@[simp] theorem kU_ok {g : Hh → D → Option D} {d : D} : kU g (.ok d h) = opt (g h d) h := (rfl)
@[simp] theorem kU_xn {g : Hh → D → Option D} : kU g (.xn x h) = .xn x h := (rfl)
@[simp] theorem kU_bad {g : Hh → D → Option D} : kU g .bad = .bad := (rfl)
def kU22 (g : Hh → D → D → Option D) (d : D) (r : R D) : R D := r.bind fun e h => opt (g h d e) h
@[simp] theorem kU22_ok {g : Hh → D → D → Option D} {d : D} {e : D} : kU22 g d (.ok e h) = opt (g h d e) h := (rfl)
@[simp] theorem kU22_xn {g : Hh → D → D → Option D} {d : D} : kU22 g d (.xn x h) = .xn x h := (rfl)
@[simp] theorem kU22_bad {g : Hh → D → D → Option D} {d : D} : kU22 g d .bad = .bad := (rfl)
def kU2 (g : Hh → D → D → Option D) (b : TM) (σ : Sg) (r : R D) : R D := r.bind fun d h => kU22 g d (b σ h)
@[simp] theorem kU2_eq : eU2 g a b σ h = kU2 g b σ (a σ h) := (rfl)
@[simp] theorem kU2_ok {g : Hh → D → D → Option D} {d : D} : kU2 g b σ (.ok d h) = kU22 g d (b σ h) := (rfl)
@[simp] theorem kU2_xn {g : Hh → D → D → Option D} : kU2 g b σ (.xn x h) = .xn x h := (rfl)
@[simp] theorem kU2_bad {g : Hh → D → D → Option D} : kU2 g b σ .bad = .bad := (rfl)
def kM2 (g : Hh → D → D → Option (D × Option (Nat × O))) (d : D) (r : R D) : R D := r.bind fun e h => optW h (g h d e)
@[simp] theorem kM2_ok {g : Hh → D → D → Option (D × Option (Nat × O))} {d : D} {e : D} : kM2 g d (.ok e h) = optW h (g h d e) := (rfl)
@[simp] theorem kM2_xn {g : Hh → D → D → Option (D × Option (Nat × O))} {d : D} : kM2 g d (.xn x h) = .xn x h := (rfl)
@[simp] theorem kM2_bad {g : Hh → D → D → Option (D × Option (Nat × O))} {d : D} : kM2 g d .bad = .bad := (rfl)
def kM1 (k : Bool) (g : Hh → D → D → Option (D × Option (Nat × O))) (d : D) (b : TM) (σ : Sg) (h : Hh) : R D := if k then kM2 g d (b σ h) else .bad
@[simp] theorem kM1_t {g : Hh → D → D → Option (D × Option (Nat × O))} : kM1 true g d b σ h = kM2 g d (b σ h) := (rfl)
def kM (k : Hh → D → Bool) (g : Hh → D → D → Option (D × Option (Nat × O))) (b : TM) (σ : Sg) (r : R D) : R D := r.bind fun d h => kM1 (k h d) g d b σ h
@[simp] theorem kM_eq : eM k g a b σ h = kM k g b σ (a σ h) := (rfl)
@[simp] theorem kM_ok {k : Hh → D → Bool} {g : Hh → D → D → Option (D × Option (Nat × O))} {d : D} : kM k g b σ (.ok d h) = kM1 (k h d) g d b σ h := (rfl)
@[simp] theorem kM_xn {k : Hh → D → Bool} {g : Hh → D → D → Option (D × Option (Nat × O))} : kM k g b σ (.xn x h) = .xn x h := (rfl)
@[simp] theorem kM_bad {k : Hh → D → Bool} {g : Hh → D → D → Option (D × Option (Nat × O))} : kM k g b σ .bad = .bad := (rfl)
def kM0 (g : Hh → D → Option (D × Option (Nat × O))) (r : R D) : R D := r.bind fun d h => optW h (g h d)
@[simp] theorem kM0_eq : eM0 g a σ h = kM0 g (a σ h) := (rfl)
@[simp] theorem kM0_ok {g : Hh → D → Option (D × Option (Nat × O))} {d : D} : kM0 g (.ok d h) = optW h (g h d) := (rfl)
@[simp] theorem kM0_xn {g : Hh → D → Option (D × Option (Nat × O))} : kM0 g (.xn x h) = .xn x h := (rfl)
@[simp] theorem kM0_bad {g : Hh → D → Option (D × Option (Nat × O))} : kM0 g .bad = .bad := (rfl)
def kIx2 (d : D) (r : R D) : R D := r.bind fun e h => opt (index h d e) h
@[simp] theorem kIx2_ok {d : D} {e : D} : kIx2 d (.ok e h) = opt (index h d e) h := (rfl)
@[simp] theorem kIx2_xn {d : D} : kIx2 d (.xn x h) = .xn x h := (rfl)
@[simp] theorem kIx2_bad {d : D} : kIx2 d .bad = .bad := (rfl)
def kIx (b : TM) (σ : Sg) (r : R D) : R D := r.bind fun d h => kIx2 d (b σ h)
@[simp] theorem kIx_eq : eIx a b σ h = kIx b σ (a σ h) := (rfl)
@[simp] theorem kIx_ok  {d : D} : kIx b σ (.ok d h) = kIx2 d (b σ h) := (rfl)
@[simp] theorem kIx_xn  : kIx b σ (.xn x h) = .xn x h := (rfl)
@[simp] theorem kIx_bad  : kIx b σ .bad = .bad := (rfl)
@[simp] theorem oN_eq : oN σ h = .ok none h := (rfl)
def oS1 (d : D) (h : Hh) : R (Option Int) := match d with
  | .int i => .ok (some i) h
  | _ => .bad
@[simp] theorem oS1_int {i : Int} : oS1 (.int i) h = .ok (some i) h := (rfl)
def kOS  (r : R D) : R (Option Int) := r.bind fun d h => oS1 d h
@[simp] theorem kOS_eq : oS a σ h = kOS  (a σ h) := (rfl)
@[simp] theorem kOS_ok  {d : D} : kOS  (.ok d h) = oS1 d h := (rfl)
@[simp] theorem kOS_xn  : kOS  (.xn x h) = .xn x h := (rfl)
@[simp] theorem kOS_bad  : kOS  .bad = .bad := (rfl)
def kSl3 (d : D) (l : Option Int) (r : R (Option Int)) : R D := r.bind fun u h => opt (slice h d l u) h
@[simp] theorem kSl3_ok {d : D} {l : Option Int} {u : (Option Int)} : kSl3 d l (.ok u h) = opt (slice h d l u) h := (rfl)
@[simp] theorem kSl3_xn {d : D} {l : Option Int} : kSl3 d l (.xn x h) = .xn x h := (rfl)
@[simp] theorem kSl3_bad {d : D} {l : Option Int} : kSl3 d l .bad = .bad := (rfl)
def kSl2 (d : D) (hi : OM) (σ : Sg) (r : R (Option Int)) : R D := r.bind fun l h => kSl3 d l (hi σ h)
@[simp] theorem kSl2_ok {d : D} {hi : OM} {l : (Option Int)} : kSl2 d hi σ (.ok l h) = kSl3 d l (hi σ h) := (rfl)
@[simp] theorem kSl2_xn {d : D} {hi : OM} : kSl2 d hi σ (.xn x h) = .xn x h := (rfl)
@[simp] theorem kSl2_bad {d : D} {hi : OM} : kSl2 d hi σ .bad = .bad := (rfl)
def kSl (lo : OM) (hi : OM) (σ : Sg) (r : R D) : R D := r.bind fun d h => kSl2 d hi σ (lo σ h)
@[simp] theorem kSl_eq : eSl a lo hi σ h = kSl lo hi σ (a σ h) := (rfl)
@[simp] theorem kSl_ok {lo : OM} {hi : OM} {d : D} : kSl lo hi σ (.ok d h) = kSl2 d hi σ (lo σ h) := (rfl)
@[simp] theorem kSl_xn {lo : OM} {hi : OM} : kSl lo hi σ (.xn x h) = .xn x h := (rfl)
@[simp] theorem kSl_bad {lo : OM} {hi : OM} : kSl lo hi σ .bad = .bad := (rfl)
def fld1 (o : Option (Nat × List (Nat × D))) (cls k : Nat) (h : Hh) : R D := match o with
  | some (c, fs) => if c = cls then opt (fs.lookup k) h else .bad
  | none => .bad
@[simp] theorem fld1_ok {cls k : Nat} {fs : List (Nat × D)} : fld1 (some (cls, fs)) cls k h = opt (fs.lookup k) h := by simp [fld1]
def kFld (cls : Nat) (k : Nat) (r : R D) : R D := r.bind fun d h => fld1 (asObj h d) cls k h
@[simp] theorem kFld_eq : eFld cls k a σ h = kFld cls k (a σ h) := (rfl)
@[simp] theorem kFld_ok {cls : Nat} {k : Nat} {d : D} : kFld cls k (.ok d h) = fld1 (asObj h d) cls k h := (rfl)
@[simp] theorem kFld_xn {cls : Nat} {k : Nat} : kFld cls k (.xn x h) = .xn x h := (rfl)
@[simp] theorem kFld_bad {cls : Nat} {k : Nat} : kFld cls k .bad = .bad := (rfl)
def kCallK2 (k : List D → Hh → R D) (g : List D → List D → List D) (ds : List D) (r : R (List D)) : R D := r.bind fun es h => k (g ds es) h
@[simp] theorem kCallK2_ok {k : List D → Hh → R D} {g : List D → List D → List D} {ds : List D} {es : (List D)} : kCallK2 k g ds (.ok es h) = k (g ds es) h := (rfl)
@[simp] theorem kCallK2_xn {k : List D → Hh → R D} {g : List D → List D → List D} {ds : List D} : kCallK2 k g ds (.xn x h) = .xn x h := (rfl)
@[simp] theorem kCallK2_bad {k : List D → Hh → R D} {g : List D → List D → List D} {ds : List D} : kCallK2 k g ds .bad = .bad := (rfl)
def kCallK (k : List D → Hh → R D) (g : List D → List D → List D) (ks : AM) (σ : Sg) (r : R (List D)) : R D := r.bind fun ds h => kCallK2 k g ds (ks σ h)
@[simp] theorem kCallK_eq : eCallK k g as ks σ h = kCallK k g ks σ (as σ h) := (rfl)
@[simp] theorem kCallK_ok {k : List D → Hh → R D} {g : List D → List D → List D} {ds : (List D)} : kCallK k g ks σ (.ok ds h) = kCallK2 k g ds (ks σ h) := (rfl)
@[simp] theorem kCallK_xn {k : List D → Hh → R D} {g : List D → List D → List D} : kCallK k g ks σ (.xn x h) = .xn x h := (rfl)
@[simp] theorem kCallK_bad {k : List D → Hh → R D} {g : List D → List D → List D} : kCallK k g ks σ .bad = .bad := (rfl)
def kbT  (r : R D) : R Bool := r.bind fun d h => optB (tru h d) h
@[simp] theorem kbT_eq : bT a σ h = kbT  (a σ h) := (rfl)
@[simp] theorem kbT_ok  {d : D} : kbT  (.ok d h) = optB (tru h d) h := (rfl)
@[simp] theorem kbT_xn  : kbT  (.xn x h) = .xn x h := (rfl)
@[simp] theorem kbT_bad  : kbT  .bad = .bad := (rfl)
def kbCmp2 (op : Cop) (d : D) (r : R D) : R Bool := r.bind fun e h => optB (cmpop h op d e) h
@[simp] theorem kbCmp2_ok {op : Cop} {d : D} {e : D} : kbCmp2 op d (.ok e h) = optB (cmpop h op d e) h := (rfl)
@[simp] theorem kbCmp2_xn {op : Cop} {d : D} : kbCmp2 op d (.xn x h) = .xn x h := (rfl)
@[simp] theorem kbCmp2_bad {op : Cop} {d : D} : kbCmp2 op d .bad = .bad := (rfl)
def kbCmp (op : Cop) (b : TM) (σ : Sg) (r : R D) : R Bool := r.bind fun d h => kbCmp2 op d (b σ h)
@[simp] theorem kbCmp_eq : bCmp op a b σ h = kbCmp op b σ (a σ h) := (rfl)
@[simp] theorem kbCmp_ok {op : Cop} {d : D} : kbCmp op b σ (.ok d h) = kbCmp2 op d (b σ h) := (rfl)
@[simp] theorem kbCmp_xn {op : Cop} : kbCmp op b σ (.xn x h) = .xn x h := (rfl)
@[simp] theorem kbCmp_bad {op : Cop} : kbCmp op b σ .bad = .bad := (rfl)
def kbCh3 (op : Cop) (e : D) (r : R D) : R Bool := r.bind fun f h => optB (cmpop h op e f) h
@[simp] theorem kbCh3_ok {op : Cop} {e : D} {f : D} : kbCh3 op e (.ok f h) = optB (cmpop h op e f) h := (rfl)
@[simp] theorem kbCh3_xn {op : Cop} {e : D} : kbCh3 op e (.xn x h) = .xn x h := (rfl)
@[simp] theorem kbCh3_bad {op : Cop} {e : D} : kbCh3 op e .bad = .bad := (rfl)
def kbCh2a (o : Option Bool) (op : Cop) (e : D) (c : TM) (σ : Sg) (h : Hh) : R Bool := match o with
  | none => .bad
  | some false => .ok false h
  | some true => kbCh3 op e (c σ h)
@[simp] theorem kbCh2a_t {op : Cop} : kbCh2a (some true) op e c σ h = kbCh3 op e (c σ h) := (rfl)
@[simp] theorem kbCh2a_f {op : Cop} : kbCh2a (some false) op e c σ h = .ok false h := (rfl)
def kbCh2 (op : Cop) (op' : Cop) (d : D) (c : TM) (σ : Sg) (r : R D) : R Bool := r.bind fun e h => kbCh2a (cmpop h op d e) op' e c σ h
@[simp] theorem kbCh2_ok {op : Cop} {op' : Cop} {d : D} {e : D} : kbCh2 op op' d c σ (.ok e h) = kbCh2a (cmpop h op d e) op' e c σ h := (rfl)
@[simp] theorem kbCh2_xn {op : Cop} {op' : Cop} {d : D} : kbCh2 op op' d c σ (.xn x h) = .xn x h := (rfl)
@[simp] theorem kbCh2_bad {op : Cop} {op' : Cop} {d : D} : kbCh2 op op' d c σ .bad = .bad := (rfl)
def kbCh (op : Cop) (op' : Cop) (b : TM) (c : TM) (σ : Sg) (r : R D) : R Bool := r.bind fun d h => kbCh2 op op' d c σ (b σ h)
@[simp] theorem kbCh_eq : bCh op op' a b c σ h = kbCh op op' b c σ (a σ h) := (rfl)
@[simp] theorem kbCh_ok {op : Cop} {op' : Cop} {d : D} : kbCh op op' b c σ (.ok d h) = kbCh2 op op' d c σ (b σ h) := (rfl)
@[simp] theorem kbCh_xn {op : Cop} {op' : Cop} : kbCh op op' b c σ (.xn x h) = .xn x h := (rfl)
@[simp] theorem kbCh_bad {op : Cop} {op' : Cop} : kbCh op op' b c σ .bad = .bad := (rfl)
def keCh  (r : R Bool) : R D := r.bind fun k h => .ok (.bl k) h
@[simp] theorem keCh_eq : eCh op op' a b c σ h = keCh  (bCh op op' a b c σ h) := (rfl)
@[simp] theorem keCh_ok  {k : Bool} : keCh  (.ok k h) = .ok (.bl k) h := (rfl)
@[simp] theorem keCh_xn  : keCh  (.xn x h) = .xn x h := (rfl)
@[simp] theorem keCh_bad  : keCh  .bad = .bad := (rfl)
def kbAnd1 (k : Bool) (q : BM) (σ : Sg) (h : Hh) : R Bool := if k then q σ h else .ok false h
@[simp] theorem kbAnd1_t : kbAnd1 true q σ h = q σ h := (rfl)
@[simp] theorem kbAnd1_f : kbAnd1 false q σ h = .ok false h := (rfl)
def kbOr1 (k : Bool) (q : BM) (σ : Sg) (h : Hh) : R Bool := if k then .ok true h else q σ h
@[simp] theorem kbOr1_t : kbOr1 true q σ h = .ok true h := (rfl)
@[simp] theorem kbOr1_f : kbOr1 false q σ h = q σ h := (rfl)
def kbAnd (q : BM) (σ : Sg) (r : R Bool) : R Bool := r.bind fun k h => kbAnd1 k q σ h
@[simp] theorem kbAnd_eq : bAnd p q σ h = kbAnd q σ (p σ h) := (rfl)
@[simp] theorem kbAnd_ok  {k : Bool} : kbAnd q σ (.ok k h) = kbAnd1 k q σ h := (rfl)
@[simp] theorem kbAnd_xn  : kbAnd q σ (.xn x h) = .xn x h := (rfl)
@[simp] theorem kbAnd_bad  : kbAnd q σ .bad = .bad := (rfl)
def kbOr (q : BM) (σ : Sg) (r : R Bool) : R Bool := r.bind fun k h => kbOr1 k q σ h
@[simp] theorem kbOr_eq : bOr p q σ h = kbOr q σ (p σ h) := (rfl)
@[simp] theorem kbOr_ok  {k : Bool} : kbOr q σ (.ok k h) = kbOr1 k q σ h := (rfl)
@[simp] theorem kbOr_xn  : kbOr q σ (.xn x h) = .xn x h := (rfl)
@[simp] theorem kbOr_bad  : kbOr q σ .bad = .bad := (rfl)
def kbNot  (r : R Bool) : R Bool := r.bind fun k h => .ok (!k) h
@[simp] theorem kbNot_eq : bNot p σ h = kbNot  (p σ h) := (rfl)
@[simp] theorem kbNot_ok  {k : Bool} : kbNot  (.ok k h) = .ok (!k) h := (rfl)
@[simp] theorem kbNot_xn  : kbNot  (.xn x h) = .xn x h := (rfl)
@[simp] theorem kbNot_bad  : kbNot  .bad = .bad := (rfl)
def walk1 (o : Option (List D)) (h : Hh) : R (List D) := match o with
  | none => .bad
  | some xs => .ok xs h
@[simp] theorem walk1_ok {xs : List D} : walk1 (some xs) h = .ok xs h := (rfl)
def kIt (it : It) (r : R (List D)) : R (List D) := r.bind fun ds h => walk1 (walk it ds) h
theorem itM_eq {it : It} : itM it as σ h = kIt it (as σ h) := by
  unfold itM kIt walk1
  congr
@[simp] theorem itM_eq' {it : It} : itM it as σ h = kIt it (as σ h) := itM_eq
@[simp] theorem kIt_ok {it : It} : kIt it (.ok ds h) = walk1 (walk it ds) h := (rfl)
@[simp] theorem kIt_xn {it : It} : kIt it (.xn x h) = .xn x h := (rfl)
@[simp] theorem kIt_bad {it : It} : kIt it .bad = .bad := (rfl)
def kLcE (r : R (List D)) : R D := r.bind fun ys h => .ok (.lst ys) h
@[simp] theorem kLcE_ok : kLcE (.ok ds h) = .ok (.lst ds) h := (rfl)
def kLc (a : TM) (g : G) (p : BM) (ow : List Nat) (σ : Sg) (r : R (List D)) : R D := r.bind fun xs h => kLcE (noX (lcL (lcStep a g p ow σ) xs [] h))
@[simp] theorem kLc_eq : eLc a g it as p ow σ h = kLc a g p ow σ (itM it as σ h) := (rfl)
@[simp] theorem kLc_ok {g : G} {ow : List Nat} {xs : (List D)} : kLc a g p ow σ (.ok xs h) = kLcE (noX (lcL (lcStep a g p ow σ) xs [] h)) := (rfl)
@[simp] theorem kLc_xn {g : G} {ow : List Nat} : kLc a g p ow σ (.xn x h) = .xn x h := (rfl)
@[simp] theorem kLc_bad {g : G} {ow : List Nat} : kLc a g p ow σ .bad = .bad := (rfl)
def kLc2 (a : TM) (g : G) (p : BM) (g1 : G) (it1 : It) (as1 : AM) (p1 : BM) (ow : List Nat) (ow1 : List Nat) (σ : Sg) (r : R (List D)) : R D := r.bind fun xs h => kLcE (noX (lcL2 (lcStep2 a g p g1 it1 as1 p1 ow ow1 σ) xs [] h))
@[simp] theorem kLc2_eq : eLc2 a g it as p g1 it1 as1 p1 ow ow1 σ h = kLc2 a g p g1 it1 as1 p1 ow ow1 σ (itM it as σ h) := (rfl)
@[simp] theorem kLc2_ok {g : G} {g1 : G} {it1 : It} {as1 : AM} {p1 : BM} {ow : List Nat} {ow1 : List Nat} {xs : (List D)} : kLc2 a g p g1 it1 as1 p1 ow ow1 σ (.ok xs h) = kLcE (noX (lcL2 (lcStep2 a g p g1 it1 as1 p1 ow ow1 σ) xs [] h)) := (rfl)
@[simp] theorem kLc2_xn {g : G} {g1 : G} {it1 : It} {as1 : AM} {p1 : BM} {ow : List Nat} {ow1 : List Nat} : kLc2 a g p g1 it1 as1 p1 ow ow1 σ (.xn x h) = .xn x h := (rfl)
@[simp] theorem kLc2_bad {g : G} {g1 : G} {it1 : It} {as1 : AM} {p1 : BM} {ow : List Nat} {ow1 : List Nat} : kLc2 a g p g1 it1 as1 p1 ow ow1 σ .bad = .bad := (rfl)
def kSet (i : Nat) (σ : Sg) (r : R D) : SR := SR.of σ r fun d h => .nx (σ.set i (some d)) h
@[simp] theorem kSet_eq : sSet i a σ h = kSet i σ (a σ h) := (rfl)
@[simp] theorem kSet_ok {i : Nat} {d : D} : kSet i σ (.ok d h) = .nx (σ.set i (some d)) h := (rfl)
@[simp] theorem kSet_xn {i : Nat} : kSet i σ (.xn x h) = .xn x σ h := (rfl)
@[simp] theorem kSet_bad {i : Nat} : kSet i σ .bad = .bad := (rfl)
def asg1 (o : Option Sg) (h : Hh) : SR := match o with
  | some σ => .nx σ h
  | none => .bad
@[simp] theorem asg1_ok : asg1 (some σ) h = .nx σ h := (rfl)
def kAsg (g : G) (σ : Sg) (r : R D) : SR := SR.of σ r fun d h => asg1 (bindG σ g d) h
@[simp] theorem kAsg_eq : sAsg g a σ h = kAsg g σ (a σ h) := (rfl)
@[simp] theorem kAsg_ok {g : G} {d : D} : kAsg g σ (.ok d h) = asg1 (bindG σ g d) h := (rfl)
@[simp] theorem kAsg_xn {g : G} : kAsg g σ (.xn x h) = .xn x σ h := (rfl)
@[simp] theorem kAsg_bad {g : G} : kAsg g σ .bad = .bad := (rfl)
def aug1 (o : Option D) (i : Nat) (σ : Sg) (h : Hh) : SR := match o with
  | some r => .nx (σ.set i (some r)) h
  | none => .bad
@[simp] theorem aug1_ok {i : Nat} : aug1 (some d) i σ h = .nx (σ.set i (some d)) h := (rfl)
def aug0 (o : Option D) (i : Nat) (op : Bop) (a : TM) (σ : Sg) (h : Hh) : SR := match o with
  | none => .bad
  | some d => SR.of σ (a σ h) fun e h => aug1 (augD op d e) i σ h
def kAug (i : Nat) (op : Bop) (d : D) (σ : Sg) (r : R D) : SR := SR.of σ r fun e h => aug1 (augD op d e) i σ h
@[simp] theorem sAug_eq {i : Nat} {op : Bop} : sAug i op a σ h = aug0 (sget σ i) i op a σ h := by
  unfold sAug aug0
  cases sget σ i <;> rfl
@[simp] theorem aug0_ok {i : Nat} {op : Bop} : aug0 (some d) i op a σ h = kAug i op d σ (a σ h) := (rfl)
@[simp] theorem kAug_ok {i : Nat} {op : Bop} : kAug i op d σ (.ok e h) = aug1 (augD op d e) i σ h := (rfl)
@[simp] theorem kAug_xn {i : Nat} {op : Bop} : kAug i op d σ (.xn x h) = .xn x σ h := (rfl)
def seti1 (o : Option Hh) (σ : Sg) : SR := match o with
  | some h => .nx σ h
  | none => .bad
@[simp] theorem seti1_ok : seti1 (some h) σ = .nx σ h := (rfl)
def kSetI3 (v : D) (d : D) (σ : Sg) (r : R D) : SR := SR.of σ r fun e h => seti1 (setIx h d e v) σ
@[simp] theorem kSetI3_ok {v : D} {d : D} {e : D} : kSetI3 v d σ (.ok e h) = seti1 (setIx h d e v) σ := (rfl)
@[simp] theorem kSetI3_xn {v : D} {d : D} : kSetI3 v d σ (.xn x h) = .xn x σ h := (rfl)
@[simp] theorem kSetI3_bad {v : D} {d : D} : kSetI3 v d σ .bad = .bad := (rfl)
def kSetI2 (v : D) (b : TM) (σ : Sg) (r : R D) : SR := SR.of σ r fun d h => kSetI3 v d σ (b σ h)
@[simp] theorem kSetI2_ok {v : D} {d : D} : kSetI2 v b σ (.ok d h) = kSetI3 v d σ (b σ h) := (rfl)
@[simp] theorem kSetI2_xn {v : D} : kSetI2 v b σ (.xn x h) = .xn x σ h := (rfl)
@[simp] theorem kSetI2_bad {v : D} : kSetI2 v b σ .bad = .bad := (rfl)
def kSetI (a : TM) (b : TM) (σ : Sg) (r : R D) : SR := SR.of σ r fun v h => kSetI2 v b σ (a σ h)
@[simp] theorem kSetI_eq : sSetI a b c σ h = kSetI a b σ (c σ h) := (rfl)
@[simp] theorem kSetI_ok  {v : D} : kSetI a b σ (.ok v h) = kSetI2 v b σ (a σ h) := (rfl)
@[simp] theorem kSetI_xn  : kSetI a b σ (.xn x h) = .xn x σ h := (rfl)
@[simp] theorem kSetI_bad  : kSetI a b σ .bad = .bad := (rfl)
def kSetF2 (cls : Nat) (k : Nat) (v : D) (σ : Sg) (r : R D) : SR := SR.of σ r fun d h => seti1 (setFld h cls k d v) σ
@[simp] theorem kSetF2_ok {cls : Nat} {k : Nat} {v : D} {d : D} : kSetF2 cls k v σ (.ok d h) = seti1 (setFld h cls k d v) σ := (rfl)
@[simp] theorem kSetF2_xn {cls : Nat} {k : Nat} {v : D} : kSetF2 cls k v σ (.xn x h) = .xn x σ h := (rfl)
@[simp] theorem kSetF2_bad {cls : Nat} {k : Nat} {v : D} : kSetF2 cls k v σ .bad = .bad := (rfl)
def kSetF (cls : Nat) (a : TM) (k : Nat) (σ : Sg) (r : R D) : SR := SR.of σ r fun v h => kSetF2 cls k v σ (a σ h)
@[simp] theorem kSetF_eq : sSetF cls a k c σ h = kSetF cls a k σ (c σ h) := (rfl)
@[simp] theorem kSetF_ok {cls : Nat} {k : Nat} {v : D} : kSetF cls a k σ (.ok v h) = kSetF2 cls k v σ (a σ h) := (rfl)
@[simp] theorem kSetF_xn {cls : Nat} {k : Nat} : kSetF cls a k σ (.xn x h) = .xn x σ h := (rfl)
@[simp] theorem kSetF_bad {cls : Nat} {k : Nat} : kSetF cls a k σ .bad = .bad := (rfl)
def kEx (σ : Sg) (r : R D) : SR := SR.of σ r fun d h => .nx σ h
@[simp] theorem kEx_eq : sEx a σ h = kEx σ (a σ h) := (rfl)
@[simp] theorem kEx_ok  {d : D} : kEx σ (.ok d h) = .nx σ h := (rfl)
@[simp] theorem kEx_xn  : kEx σ (.xn x h) = .xn x σ h := (rfl)
@[simp] theorem kEx_bad  : kEx σ .bad = .bad := (rfl)
def kRet (σ : Sg) (r : R D) : SR := SR.of σ r fun d h => .rt d h
@[simp] theorem kRet_eq : sRet a σ h = kRet σ (a σ h) := (rfl)
@[simp] theorem kRet_ok  {d : D} : kRet σ (.ok d h) = .rt d h := (rfl)
@[simp] theorem kRet_xn  : kRet σ (.xn x h) = .xn x σ h := (rfl)
@[simp] theorem kRet_bad  : kRet σ .bad = .bad := (rfl)
def kIf1 (k : Bool) (s s' : SM) (σ : Sg) (h : Hh) : SR := if k then s σ h else s' σ h
@[simp] theorem kIf1_t : kIf1 true s s' σ h = s σ h := (rfl)
@[simp] theorem kIf1_f : kIf1 false s s' σ h = s' σ h := (rfl)
def kIf (s : SM) (s' : SM) (σ : Sg) (r : R Bool) : SR := SR.of σ r fun k h => kIf1 k s s' σ h
@[simp] theorem kIf_eq : sIf p s s' σ h = kIf s s' σ (p σ h) := (rfl)
@[simp] theorem kIf_ok  {k : Bool} : kIf s s' σ (.ok k h) = kIf1 k s s' σ h := (rfl)
@[simp] theorem kIf_xn  : kIf s s' σ (.xn x h) = .xn x σ h := (rfl)
@[simp] theorem kIf_bad  : kIf s s' σ .bad = .bad := (rfl)
def kFor (g : G) (s : SM) (σ : Sg) (r : R (List D)) : SR := SR.of σ r fun xs h => forL (forB g s) xs σ h
@[simp] theorem kFor_eq : sFor g it as s σ h = kFor g s σ (itM it as σ h) := (rfl)
@[simp] theorem kFor_ok {g : G} {xs : (List D)} : kFor g s σ (.ok xs h) = forL (forB g s) xs σ h := (rfl)
@[simp] theorem kFor_xn {g : G} : kFor g s σ (.xn x h) = .xn x σ h := (rfl)
@[simp] theorem kFor_bad {g : G} : kFor g s σ .bad = .bad := (rfl)
@[simp] theorem forL_nil {body : D → Sg → Hh → SR} : forL body [] σ h = .nx σ h := (rfl)
def forK (body : D → Sg → Hh → SR) (xs : List D) (r : SR) : SR := match r with
  | .nx σ h => forL body xs σ h
  | .ct σ h => forL body xs σ h
  | .bk σ h => .nx σ h
  | r => r
@[simp] theorem forK_nx {body : D → Sg → Hh → SR} {xs : List D} : forK body xs (.nx σ h) = forL body xs σ h := (rfl)
@[simp] theorem forK_ct {body : D → Sg → Hh → SR} {xs : List D} : forK body xs (.ct σ h) = forL body xs σ h := (rfl)
@[simp] theorem forK_bk {body : D → Sg → Hh → SR} {xs : List D} : forK body xs (.bk σ h) = .nx σ h := (rfl)
@[simp] theorem forK_rt {body : D → Sg → Hh → SR} {xs : List D} : forK body xs (.rt d h) = .rt d h := (rfl)
@[simp] theorem forK_xn {body : D → Sg → Hh → SR} {xs : List D} : forK body xs (.xn x σ h) = .xn x σ h := (rfl)
theorem forL_cons {body : D → Sg → Hh → SR} {y : D} {xs : List D} : forL body (y :: xs) σ h = forK body xs (body y σ h) := by
  simp only [forL, forK] <;> (split <;> simp_all)
def forB1 (o : Option Sg) (s : SM) (h : Hh) : SR := match o with
  | none => .bad
  | some σ => s σ h
@[simp] theorem forB1_ok : forB1 (some σ) s h = s σ h := (rfl)
@[simp] theorem forB_eq {g : G} : forB g s d σ h = forB1 (bindG σ g d) s h := by
  unfold forB forB1
  cases bindG σ g d <;> rfl
@[simp] theorem bindG_nm {i : Nat} : bindG σ (.nm i) d = some (σ.set i (some d)) := (rfl)
@[simp] theorem bindG_tp {gs : List G} : bindG σ (.tp gs) (.tup ds) = bindGs σ gs ds := (rfl)
@[simp] theorem bindG_tl {gs : List G} : bindG σ (.tp gs) (.lst ds) = bindGs σ gs ds := (rfl)
@[simp] theorem bindGs_nil : bindGs σ [] [] = some σ := (rfl)
@[simp] theorem bindGs_cons {i : Nat} {gs : List G} : bindGs σ (.nm i :: gs) (d :: ds) = bindGs (σ.set i (some d)) gs ds := by simp [bindGs]
def lcStep1 (o : Option Sg) (a : TM) (p : BM) (h : Hh) : R (Option D) := match o with
  | none => .bad
  | some σ => (p σ h).bind fun t h => if t then (a σ h).bind fun d h => .ok (some d) h else .ok none h
def lcS2 (r : R D) : R (Option D) := r.bind fun d h => .ok (some d) h
@[simp] theorem lcS2_ok : lcS2 (.ok d h) = .ok (some d) h := (rfl)
@[simp] theorem lcS2_xn : lcS2 (.xn x h) = .xn x h := (rfl)
def lcS1 (k : Bool) (a : TM) (σ : Sg) (h : Hh) : R (Option D) := if k then lcS2 (a σ h) else .ok none h
@[simp] theorem lcS1_t : lcS1 true a σ h = lcS2 (a σ h) := (rfl)
@[simp] theorem lcS1_f : lcS1 false a σ h = .ok none h := (rfl)
def lcS0 (r : R Bool) (a : TM) (σ : Sg) : R (Option D) := r.bind fun k h => lcS1 k a σ h
@[simp] theorem lcS0_ok {k : Bool} : lcS0 (.ok k h) a σ = lcS1 k a σ h := (rfl)
@[simp] theorem lcStep1_ok : lcStep1 (some σ) a p h = lcS0 (p σ h) a σ := (rfl)
@[simp] theorem lcStep_eq {g : G} {own : List Nat} : lcStep a g p own σ d h = lcStep1 (bindG (wipe σ own) g d) a p h := by
  unfold lcStep lcStep1
  cases bindG (wipe σ own) g d <;> rfl
@[simp] theorem wipe_nil : wipe σ [] = σ := (rfl)
@[simp] theorem wipe_cons {v : Nat} {vs : List Nat} : wipe σ (v :: vs) = (wipe σ vs).set v none := (rfl)
def lcK (step : D → Hh → R (Option D)) (xs acc : List D) (r : R (Option D)) : R (List D) := r.bind fun o h => match o with
  | none => lcL step xs acc h
  | some d => if acc.length < line then lcL step xs (acc ++ [d]) h else .bad
@[simp] theorem lcK_none {step : D → Hh → R (Option D)} {xs acc : List D} : lcK step xs acc (.ok none h) = lcL step xs acc h := (rfl)
@[simp] theorem lcK_some {step : D → Hh → R (Option D)} {xs acc : List D} : lcK step xs acc (.ok (some d) h) = if acc.length < line then lcL step xs (acc ++ [d]) h else .bad := (rfl)
@[simp] theorem lcL_nil {step : D → Hh → R (Option D)} {acc : List D} : lcL step [] acc h = .ok acc h := (rfl)
theorem lcL_cons {step : D → Hh → R (Option D)} {y : D} {xs acc : List D} : lcL step (y :: xs) acc h = lcK step xs acc (step y h) := (rfl)
def whK (t : BM) (s : SM) (n : Nat) (r : SR) : SR := match r with
  | .nx σ h => whL t s n σ h
  | .ct σ h => whL t s n σ h
  | .bk σ h => .nx σ h
  | r => r
@[simp] theorem whK_nx {n : Nat} : whK p s n (.nx σ h) = whL p s n σ h := (rfl)
@[simp] theorem whK_ct {n : Nat} : whK p s n (.ct σ h) = whL p s n σ h := (rfl)
@[simp] theorem whK_bk {n : Nat} : whK p s n (.bk σ h) = .nx σ h := (rfl)
@[simp] theorem whK_rt {n : Nat} : whK p s n (.rt d h) = .rt d h := (rfl)
@[simp] theorem whK_xn {n : Nat} : whK p s n (.xn x σ h) = .xn x σ h := (rfl)
def whI1 (k : Bool) (p : BM) (s : SM) (n : Nat) (σ : Sg) (h : Hh) : SR := if k then whK p s n (s σ h) else .nx σ h
@[simp] theorem whI1_t {n : Nat} : whI1 true p s n σ h = whK p s n (s σ h) := (rfl)
@[simp] theorem whI1_f {n : Nat} : whI1 false p s n σ h = .nx σ h := (rfl)
def whI (r : R Bool) (p : BM) (s : SM) (n : Nat) (σ : Sg) : SR := SR.of σ r fun k h => whI1 k p s n σ h
@[simp] theorem whI_ok {n : Nat} {k : Bool} : whI (.ok k h) p s n σ = whI1 k p s n σ h := (rfl)
@[simp] theorem whI_xn {n : Nat} : whI (.xn x h) p s n σ = .xn x σ h := (rfl)
theorem whL_succ {n : Nat} : whL p s (n + 1) σ h = whI (p σ h) p s n σ := by
  simp only [whL, whI]
  congr
theorem sWh_eq {n : Nat} : sWh n p s σ h = whL p s n σ h := (rfl)
@[simp] theorem line_eq : line = 16777216 := by decide
@[simp] theorem lim_eq : lim = 4611686018427387904 := by decide
@[simp] theorem big_eq : big = 18446744073709551616 := by decide
@[simp] theorem sget_z {o : Option D} : sget (o :: σ) 0 = o := by cases o <;> rfl
@[simp] theorem sget_s {o : Option D} {i : Nat} : sget (o :: σ) (i + 1) = sget σ i := (rfl)
@[simp] theorem tru_non : tru h .non = some false := (rfl)
@[simp] theorem tru_bl {k : Bool} : tru h (.bl k) = some k := (rfl)
@[simp] theorem tru_int {i : Int} : tru h (.int i) = some (i != 0) := (rfl)
@[simp] theorem tru_tup : tru h (.tup ds) = some (!ds.isEmpty) := (rfl)
@[simp] theorem tru_lst : tru h (.lst ds) = some (!ds.isEmpty) := (rfl)
theorem tru_str {s : Tx} : tru h (.str s) = if s.length ≤ line then some (!s.isEmpty) else none := (rfl)
@[simp] theorem asObj_obj {c : Nat} {fs : List (Nat × D)} : asObj h (.obj c fs) = some (c, fs) := (rfl)
@[simp] theorem asObj_ref {n c : Nat} {fs : List (Nat × D)} (e : h[n]? = some (.ins c fs)) : asObj h (.ref n) = some (c, fs) := by simp [asObj, e]
@[simp] theorem asSeq_tup : asSeq h (.tup ds) = some ds := (rfl)
@[simp] theorem asSeq_lst : asSeq h (.lst ds) = some ds := (rfl)
@[simp] theorem asSeq_roi {is : List Int} : asSeq h (.roi is) = some (is.map .int) := (rfl)
@[simp] theorem asSeq_ref {n : Nat} (e : h[n]? = some (.lst ds)) : asSeq h (.ref n) = some ds := by simp [asSeq, e]
@[simp] theorem asLst_lst : asLst h (.lst ds) = some ds := (rfl)
@[simp] theorem asLst_ref {n : Nat} (e : h[n]? = some (.lst ds)) : asLst h (.ref n) = some ds := by simp [asLst, e]
@[simp] theorem asDct_dct {kvs : List (K1 × D)} : asDct h (.dct kvs) = some kvs := (rfl)
@[simp] theorem asDct_ref {n : Nat} {kvs : List (K1 × D)} (e : h[n]? = some (.dct kvs)) : asDct h (.ref n) = some kvs := by simp [asDct, e]
@[simp] theorem asDct_tup : asDct h (.tup ds) = none := (rfl)
@[simp] theorem asDct_lst : asDct h (.lst ds) = none := (rfl)
@[simp] theorem asDct_str {s : Tx} : asDct h (.str s) = none := (rfl)
@[simp] theorem asDct_refl {n : Nat} (e : h[n]? = some (.lst ds)) : asDct h (.ref n) = none := by simp [asDct, e]
@[simp] theorem bin_add {i j : Int} : binop h .add (.int i) (.int j) = some (.int (i + j)) := (rfl)
@[simp] theorem bin_sub {i j : Int} : binop h .sub (.int i) (.int j) = some (.int (i - j)) := (rfl)
@[simp] theorem bin_mul {i j : Int} : binop h .mul (.int i) (.int j) = if (-big < i ∧ i < big) ∨ (-big < j ∧ j < big) then some (.int (i * j)) else none := (rfl)
@[simp] theorem bin_fdiv {i j : Int} : binop h .fdiv (.int i) (.int j) = if 0 < j ∧ j < 1073741824 then some (.int (i / j)) else none := (rfl)
@[simp] theorem bin_mod {i j : Int} : binop h .mod (.int i) (.int j) = if 0 < j then some (.int (i % j)) else none := (rfl)
@[simp] theorem bin_pow {i j : Int} : binop h .pow (.int i) (.int j) = if 0 ≤ j ∧ j ≤ 1000000 ∧ i.natAbs < 18446744073709551616 then some (.int (i ^ j.toNat)) else none := (rfl)
theorem p6 : (10 : Int) ^ (6 : Int).toNat = 1000000 := by decide
theorem p18 : (10 : Int) ^ (18 : Int).toNat = 1000000000000000000 := by decide
theorem p30 : (10 : Int) ^ (30 : Int).toNat = 1000000000000000000000000000000 := by decide
@[simp high] theorem bin_pow6 : binop h .pow (.int 10) (.int 6) = some (.int 1000000) := by rw [bin_pow, if_pos (by decide), p6]
@[simp high] theorem bin_pow18 : binop h .pow (.int 10) (.int 18) = some (.int 1000000000000000000) := by rw [bin_pow, if_pos (by decide), p18]
@[simp high] theorem bin_pow30 : binop h .pow (.int 10) (.int 30) = some (.int 1000000000000000000000000000000) := by rw [bin_pow, if_pos (by decide), p30]
@[simp] theorem bin_adds {u v : Tx} : binop h .add (.str u) (.str v) = if u.length + v.length ≤ line then some (.str (u ++ v)) else none := (rfl)
@[simp] theorem bin_addt : binop h .add (.tup ds) (.tup es) = if ds.length + es.length ≤ line then some (.tup (ds ++ es)) else none := (rfl)
@[simp] theorem bin_addl : binop h .add (.lst ds) (.lst es) = if ds.length + es.length ≤ line then some (.lst (ds ++ es)) else none := by simp [binop]
@[simp] theorem aug_add {i j : Int} : augD .add (.int i) (.int j) = some (.int (i + j)) := (rfl)
@[simp] theorem aug_sub {i j : Int} : augD .sub (.int i) (.int j) = some (.int (i - j)) := (rfl)
@[simp] theorem aug_adds {u v : Tx} : augD .add (.str u) (.str v) = if u.length + v.length ≤ line then some (.str (u ++ v)) else none := (rfl)
@[simp] theorem cmp_eq : cmpop h .eq d e = eqD h d e := by cases d <;> cases e <;> rfl
@[simp] theorem cmp_ne : cmpop h .ne d e = (eqD h d e).map (!·) := by cases d <;> cases e <;> rfl
@[simp] theorem cmp_lt {i j : Int} : cmpop h .lt (.int i) (.int j) = some (decide (i < j)) := (rfl)
@[simp] theorem cmp_le {i j : Int} : cmpop h .le (.int i) (.int j) = some (decide (i ≤ j)) := (rfl)
@[simp] theorem cmp_gt {i j : Int} : cmpop h .gt (.int i) (.int j) = some (decide (j < i)) := (rfl)
@[simp] theorem cmp_ge {i j : Int} : cmpop h .ge (.int i) (.int j) = some (decide (j ≤ i)) := (rfl)
@[simp] theorem cmp_lts {u v : Tx} : cmpop h .lt (.str u) (.str v) = some (decide (u < v)) := (rfl)
@[simp] theorem cmp_les {u v : Tx} : cmpop h .le (.str u) (.str v) = some (!decide (v < u)) := (rfl)
@[simp] theorem cmp_isN : cmpop h .is_ d .non = some d.isNon := by cases d <;> rfl
@[simp] theorem cmp_isntN : cmpop h .isnt d .non = some (!d.isNon) := by cases d <;> rfl
@[simp] theorem isNon_non : D.non.isNon = true := (rfl)
@[simp] theorem isNon_tup : (D.tup ds).isNon = false := (rfl)
@[simp] theorem isNon_int {i : Int} : (D.int i).isNon = false := (rfl)
@[simp] theorem isNon_str {s : Tx} : (D.str s).isNon = false := (rfl)
@[simp] theorem isNon_bl {k : Bool} : (D.bl k).isNon = false := (rfl)
@[simp] theorem isNon_lst : (D.lst ds).isNon = false := (rfl)
@[simp] theorem cmp_inl : cmpop h .in_ d (.lst ds) = isMem h d (.lst ds) := by
  cases d with
  | str s => rcases s with _ | ⟨a, _ | ⟨b, s⟩⟩ <;> rfl
  | _ => rfl
@[simp] theorem cmp_int : cmpop h .in_ d (.tup ds) = isMem h d (.tup ds) := by
  cases d with
  | str s => rcases s with _ | ⟨a, _ | ⟨b, s⟩⟩ <;> rfl
  | _ => rfl
@[simp] theorem cmp_inr {n : Nat} : cmpop h .in_ d (.ref n) = isMem h d (.ref n) := by
  cases d with
  | str s => rcases s with _ | ⟨a, _ | ⟨b, s⟩⟩ <;> rfl
  | _ => rfl
@[simp] theorem cmp_inc {c : Nat} {v : Tx} : cmpop h .in_ (.str [c]) (.str v) = some (decide (c ∈ v)) := (rfl)
@[simp] theorem cmp_ninc {c : Nat} {v : Tx} : cmpop h .notin (.str [c]) (.str v) = some (!decide (c ∈ v)) := (rfl)
@[simp] theorem eqv_str' {u v : Tx} : (D.str u).eqv (.str v) = (u == v) := by rw [D.eqv]
@[simp] theorem eqv_int' {i j : Int} : (D.int i).eqv (.int j) = (i == j) := by rw [D.eqv]
@[simp] theorem eqv_bl' {i j : Bool} : (D.bl i).eqv (.bl j) = (i == j) := by rw [D.eqv]
@[simp] theorem eqv_non' : D.non.eqv .non = true := by rw [D.eqv]
@[simp] theorem eqv_tup' : (D.tup ds).eqv (.tup es) = eqvAll ds es := by rw [D.eqv]
@[simp] theorem eqv_lst' : (D.lst ds).eqv (.lst es) = eqvAll ds es := by rw [D.eqv]
@[simp] theorem eqD_int {i j : Int} : eqD h (.int i) (.int j) = some (decide (i = j)) := by simp [eqD, scalPair, scalar]; rfl
@[simp] theorem eqD_str {u v : Tx} : eqD h (.str u) (.str v) = some (decide (u = v)) := by simp [eqD, scalPair, scalar]; rw [Bool.eq_iff_iff]; simp
@[simp] theorem eqD_bl {i j : Bool} : eqD h (.bl i) (.bl j) = some (decide (i = j)) := by cases i <;> cases j <;> rfl
@[simp] theorem eqD_ni {i : Int} : eqD h .non (.int i) = some false := by simp [eqD, scalPair, scalar, D.eqv]
@[simp] theorem eqD_in {i : Int} : eqD h (.int i) .non = some false := by simp [eqD, scalPair, scalar, D.eqv]
@[simp] theorem index_tup {i : Int} : index h (.tup ds) (.int i) = (ixn ds.length i).bind fun j => ds[j]? := (rfl)
@[simp] theorem index_lst {i : Int} : index h (.lst ds) (.int i) = (ixn ds.length i).bind fun j => ds[j]? := (rfl)
theorem index_str {s : Tx} {i : Int} : index h (.str s) (.int i) = if s.length ≤ line then ((ixn s.length i).bind fun j => s[j]?).map fun c => .str [c] else none := (rfl)
@[simp] theorem index_roi {is : List Int} {i : Int} : index h (.roi is) (.int i) = (ixn is.length i).bind fun j => (is.map D.int)[j]? := by simp [index]
@[simp] theorem index_ref {n : Nat} {i : Int} (e : h[n]? = some (.lst ds)) : index h (.ref n) (.int i) = (ixn ds.length i).bind fun j => ds[j]? := by simp [index, asSeq, e]
@[simp] theorem walk_s {s : Tx} : walk .e [.str s] = some (s.map fun c => .str [c]) := (rfl)
@[simp] theorem walk_l : walk .e [.lst ds] = some ds := (rfl)
@[simp] theorem walk_t : walk .e [.tup ds] = some ds := (rfl)
@[simp] theorem walk_r {i : Int} : walk .range [.int i] = if -lim ≤ i ∧ i < lim then some (rangeD 0 i.toNat) else none := (rfl)
@[simp] theorem walk_r2 {i j : Int} : walk .range [.int i, .int j] = if -lim ≤ i ∧ i < lim ∧ -lim ≤ j ∧ j < lim then some (rangeD i (j - i).toNat) else none := (rfl)
@[simp] theorem walk_en : walk .enum [.lst ds] = some (enumD ds) := (rfl)
@[simp] theorem walk_zl : walk .zip [.lst ds, .lst es] = some (zipD ds es) := (rfl)
@[simp] theorem walk_zt : walk .zip [.tup ds, .tup es] = some (zipD ds es) := (rfl)
@[simp] theorem len_tup : lenD h (.tup ds) = some (.int ds.length) := (rfl)
@[simp] theorem len_lst : lenD h (.lst ds) = some (.int ds.length) := (rfl)
@[simp] theorem len_roi {is : List Int} : lenD h (.roi is) = some (.int is.length) := by simp [lenD]
theorem len_str {s : Tx} : lenD h (.str s) = if s.length ≤ line then some (.int s.length) else none := (rfl)
@[simp] theorem len_ref {n : Nat} (e : h[n]? = some (.lst ds)) : lenD h (.ref n) = some (.int ds.length) := by simp [lenD, asSeq, e]
@[simp] theorem len_refd {n : Nat} {kvs : List (K1 × D)} (e : h[n]? = some (.dct kvs)) : lenD h (.ref n) = some (.int kvs.length) := by simp [lenD, asSeq, asDct, e]
@[simp] theorem setIx_lst {xs : List D} {n : Nat} {i : Int} (e : h[n]? = some (.lst xs)) : setIx h (.ref n) (.int i) d = (ixn xs.length i).map fun j => h.set n (.lst (xs.set j d)) := by simp [setIx, e]
@[simp] theorem setIx_dcts {kvs : List (K1 × D)} {n : Nat} {u : Tx} (e : h[n]? = some (.dct kvs)) : setIx h (.ref n) (.str u) d = if kvs.length < line then some (h.set n (.dct (put (.inr u) d kvs))) else none := by simp [setIx, e, key1]
@[simp] theorem setIx_dcti {kvs : List (K1 × D)} {n : Nat} {i : Int} (e : h[n]? = some (.dct kvs)) : setIx h (.ref n) (.int i) d = if kvs.length < line then some (h.set n (.dct (put (.inl i) d kvs))) else none := by simp [setIx, e, key1]
@[simp] theorem index_refds {kvs : List (K1 × D)} {n : Nat} {u : Tx} (e : h[n]? = some (.dct kvs)) : index h (.ref n) (.str u) = look (.inr u) kvs := by simp [index, asDct, e]
@[simp] theorem index_refdi {kvs : List (K1 × D)} {n : Nat} {i : Int} (e : h[n]? = some (.dct kvs)) : index h (.ref n) (.int i) = look (.inl i) kvs := by simp [index, asSeq, asDct, e]
@[simp] theorem tupleD_lst : tupleD h (.lst ds) = some (.tup ds) := (rfl)
@[simp] theorem tupleD_tup : tupleD h (.tup ds) = some (.tup ds) := (rfl)
@[simp] theorem listD_tup : listD h (.tup ds) = some (.lst ds) := (rfl)
@[simp] theorem listD_lst : listD h (.lst ds) = some (.lst ds) := (rfl)
@[simp] theorem intD_bl {k : Bool} : intD h (.bl k) = some (.int (if k then 1 else 0)) := (rfl)
@[simp] theorem intD_int {i : Int} : intD h (.int i) = some (.int i) := (rfl)
@[simp] theorem min_int {i j : Int} : minD h (.int i) (.int j) = some (.int (if j < i then j else i)) := (rfl)
@[simp] theorem max_int {i j : Int} : maxD h (.int i) (.int j) = some (.int (if j > i then j else i)) := (rfl)
@[simp] theorem app_ref {xs : List D} {n : Nat} (e : h[n]? = some (.lst xs)) : appD h (.ref n) d = if xs.length < line then some (.non, some (n, .lst (xs ++ [d]))) else none := by simp [appD, e]
@[simp] theorem isLst_ref {xs : List D} {n : Nat} (e : h[n]? = some (.lst xs)) : isLst h (.ref n) = true := by simp [isLst, asLst, e]
@[simp] theorem isStr_str {s : Tx} : isStr h (.str s) = true := (rfl)
end Pl
end
section
set_option linter.all false
set_option autoImplicit false
/-! Pl1: lending, in plain words. -/
namespace Pl
open Fw
mutual
theorem map_closed (g : Nat → Option D) : ∀ {d : D}, d.closed = true → d.map_ g = some d
  | .non, _ => rfl
  | .bl _, _ => rfl
  | .int _, _ => rfl
  | .str _, _ => rfl
  | .fn _, _ => rfl
  | .roi _, _ => rfl
  | .ref _, h => by simp [D.closed] at h
  | .tup xs, h => by
    simp only [D.closed] at h
    simp [D.map_, mapAll_closed g h]
  | .lst xs, h => by
    simp only [D.closed] at h
    simp [D.map_, mapAll_closed g h]
  | .dct xs, h => by
    simp only [D.closed] at h
    simp [D.map_, mapK_closed g h]
  | .obj c xs, h => by
    simp only [D.closed] at h
    simp [D.map_, mapF_closed g h]
theorem mapAll_closed (g : Nat → Option D) : ∀ {ds : List D}, closedAll ds = true → mapAll g ds = some ds
  | [], _ => rfl
  | x :: xs, h => by
    simp only [closedAll, Bool.and_eq_true] at h
    simp [mapAll, map_closed g h.1, mapAll_closed g h.2]
theorem mapK_closed (g : Nat → Option D) : ∀ {ds : List (K1 × D)}, closedK ds = true → mapK g ds = some ds
  | [], _ => rfl
  | x :: xs, h => by
    simp only [closedK, Bool.and_eq_true] at h
    simp [mapK, map_closed g h.1, mapK_closed g h.2]
theorem mapF_closed (g : Nat → Option D) : ∀ {ds : List (Nat × D)}, closedF ds = true → mapF g ds = some ds
  | [], _ => rfl
  | x :: xs, h => by
    simp only [closedF, Bool.and_eq_true] at h
    simp [mapF, map_closed g h.1, mapF_closed g h.2]
end
theorem lend_closed : ∀ {ds : List D} {k : Nat}, closedAll ds = true → lend k ds = some (ds, [])
  | [], _, _ => rfl
  | d :: ds, k, h => by
    simp only [closedAll, Bool.and_eq_true] at h
    have ih := lend_closed (k := k) h.2
    cases d <;> simp_all [lend, D.closed]
theorem lent_closed {ds : List D} {h : Hh} (c : closedAll ds = true) : lent ds h = some (ds, [], []) := by
  simp [lent, lend_closed c, lentO]
theorem tell_closed {h : Hh} {ns : List Nat} {d : D} (c : d.closed = true) : tell h ns d = some d := by
  cases d <;> first | (simp [D.closed] at c; done) | exact map_closed _ c
/-- a def of closed values -/
theorem own_closed {np N : Nat} {b : SM} {ds : List D} {h : Hh} (c : closedAll ds = true) (hl : ds.length = np) : own np N b ds h = back [] h (b (startD N ds) []) := by
  simp [own, hl, lent_closed c]
/-- what a def of closed values tells -/
theorem back_rt {h hc : Hh} {d : D} (c : d.closed = true) : back [] h (.rt d hc) = .ok d h := by
  simp [back, tell_closed c, giveBack]
theorem back_nx {h hc : Hh} {σ : Sg} : back [] h (.nx σ hc) = .ok .non h := by
  simp [back, giveBack]
/-- .. and one thing is lent, ahead of them -/
theorem lent_one {ds : List D} {h : Hh} {r : Nat} {o : O} (c : closedAll ds = true) (ho : h[r]? = some o) (co : o.closed = true) : lent (.ref r :: ds) h = some (.ref 0 :: ds, [r], [o]) := by
  simp [lent, lend, lend_closed c, lentO, ho, co]
theorem own_one {np N : Nat} {b : SM} {ds : List D} {h : Hh} {r : Nat} {o : O} (c : closedAll ds = true) (ho : h[r]? = some o) (co : o.closed = true) (hl : ds.length + 1 = np) :
    own np N b (.ref r :: ds) h = back [r] h (b (startD N (.ref 0 :: ds)) [o]) := by
  simp [own, hl, lent_one c ho co]
theorem frzO_closed {hc : Hh} {k : Nat} {o : O} (c : o.closed = true) : frzO hc k o = some o := by
  cases o <;> simp only [O.closed] at c
  · simp [frzO, mapAll_closed _ c]
  · simp [frzO, mapAll_closed _ c]
  · simp [frzO, mapK_closed _ c]
  · simp [frzO, mapF_closed _ c]
theorem back_rt1 {h hc : Hh} {d : D} {r : Nat} {o : O} (c : d.closed = true) (ho : hc[0]? = some o) (co : o.closed = true) : back [r] h (.rt d hc) = .ok d (h.set r o) := by
  simp [back, tell_closed c, giveBack, ho, frzO_closed co]
@[simp] theorem back_cl {h hc : Hh} {d : D} (c : d.closed = true) : back [] h (.rt d hc) = .ok d h := back_rt c
@[simp] theorem back_cl0 {h hc : Hh} {σ : Sg} : back [] h (.nx σ hc) = .ok .non h := back_nx
@[simp] theorem back_cl1 {h hc : Hh} {d : D} {r : Nat} {o : O} (c : d.closed = true) (co : o.closed = true) : back [r] h (.rt d (o :: hc)) = .ok d (h.set r o) := back_rt1 c rfl co
@[simp] theorem back_cl1n {h hc : Hh} {r : Nat} {o : O} {σ : Sg} (co : o.closed = true) : back [r] h (.nx σ (o :: hc)) = .ok .non (h.set r o) := by
  simp [back, giveBack, frzO_closed co]
@[simp] theorem cl_int {i : Int} : (D.int i).closed = true := by simp [D.closed]
@[simp] theorem cl_bl {i : Bool} : (D.bl i).closed = true := by simp [D.closed]
@[simp] theorem cl_str {i : Tx} : (D.str i).closed = true := by simp [D.closed]
@[simp] theorem cl_non : D.non.closed = true := by simp [D.closed]
@[simp] theorem cl_roi {i : List Int} : (D.roi i).closed = true := by simp [D.closed]
@[simp] theorem cl_tup {ds : List D} : (D.tup ds).closed = closedAll ds := by rw [D.closed]
@[simp] theorem cl_lst {ds : List D} : (D.lst ds).closed = closedAll ds := by rw [D.closed]
@[simp] theorem cl_dct {ds : List (K1 × D)} : (D.dct ds).closed = closedK ds := by rw [D.closed]
@[simp] theorem cl_nil : closedAll [] = true := by simp [closedAll]
@[simp] theorem cl_cons {d : D} {ds : List D} : closedAll (d :: ds) = (d.closed && closedAll ds) := by rw [closedAll]
@[simp] theorem cl_knil : closedK [] = true := by simp [closedK]
@[simp] theorem cl_kcons {d : K1 × D} {ds : List (K1 × D)} : closedK (d :: ds) = (d.2.closed && closedK ds) := by rw [closedK]
@[simp] theorem clo_lst {ds : List D} : (O.lst ds).closed = closedAll ds := by simp [O.closed]
@[simp] theorem clo_ro {ds : List D} : (O.ro ds).closed = closedAll ds := by simp [O.closed]
@[simp] theorem clo_dct {ds : List (K1 × D)} : (O.dct ds).closed = closedK ds := by simp [O.closed]
@[simp] theorem clo_ins {c : Nat} {ds : List (Nat × D)} : (O.ins c ds).closed = closedF ds := by simp [O.closed]
@[simp] theorem cl_app {ds es : List D} : closedAll (ds ++ es) = (closedAll ds && closedAll es) := by
  induction ds with
  | nil => simp
  | cons d ds ih => simp [ih, Bool.and_assoc]
theorem cl_all {ds : List D} : closedAll ds = true ↔ ∀ d ∈ ds, d.closed = true := by
  induction ds with
  | nil => simp
  | cons d ds ih => simp [ih]
theorem eqv_str (x y : Tx) : (D.str x).eqv (.str y) = (x == y) := by rw [D.eqv]
theorem eqv_int (x y : Int) : (D.int x).eqv (.int y) = (x == y) := by rw [D.eqv]
theorem eqv_non : D.non.eqv .non = true := by rw [D.eqv]
end Pl
end
section
set_option linter.all false
set_option autoImplicit false
/-! Pl2: loops and comprehensions, in plain words. -/
namespace Pl
open Fw
/-- a comprehension whose turns draw -/
theorem lc_draw {step : D → Hh → R (Option D)} {I : Hh → Prop} {Q : D → Prop} (hs : ∀ x h, I h → ∃ d h', step x h = .ok (some d) h' ∧ I h' ∧ Q d) :
    ∀ (xs acc : List D) (h : Hh), I h → acc.length + xs.length ≤ line → ∃ ds h', lcL step xs acc h = .ok (acc ++ ds) h' ∧ ds.length = xs.length ∧ (∀ d ∈ ds, Q d) ∧ I h' := by
  intro xs
  induction xs with
  | nil => intro acc h i _; exact ⟨[], h, by simp, rfl, by simp, i⟩
  | cons x xs ih =>
    intro acc h i hl
    simp only [List.length_cons] at hl
    obtain ⟨d, h1, e, i1, q⟩ := hs x h i
    obtain ⟨ds, h2, e2, l2, q2, i2⟩ := ih (acc ++ [d]) h1 i1 (by simp only [List.length_append, List.length_cons, List.length_nil]; omega)
    refine ⟨d :: ds, h2, ?_, by simp [l2], ?_, i2⟩
    · rw [lcL_cons, e, lcK_some, if_pos (by omega), e2]
      simp
    · intro z hz
      rcases List.mem_cons.mp hz with rfl | hz
      · exact q
      · exact q2 z hz
/-- .. whose turns only look -/
theorem lc_map {f : D → D} {step : D → Hh → R (Option D)} {h : Hh} : ∀ {xs acc : List D}, (∀ x ∈ xs, step x h = .ok (some (f x)) h) → acc.length + xs.length ≤ line → lcL step xs acc h = .ok (acc ++ xs.map f) h := by
  intro xs
  induction xs with
  | nil => intro acc _ _; simp
  | cons x xs ih =>
    intro acc hs hl
    simp only [List.length_cons] at hl
    rw [lcL_cons, hs x List.mem_cons_self, lcK_some, if_pos (by omega), ih (fun y hy => hs y (List.mem_cons_of_mem _ hy)) (by simp only [List.length_append, List.length_cons, List.length_nil]; omega)]
    simp
/-- .. and leave some out -/
theorem lc_filter {f : D → Option D} {step : D → Hh → R (Option D)} {h : Hh} : ∀ {xs acc : List D}, (∀ x ∈ xs, step x h = .ok (f x) h) → acc.length + xs.length ≤ line → lcL step xs acc h = .ok (acc ++ xs.filterMap f) h := by
  intro xs
  induction xs with
  | nil => intro acc _ _; simp
  | cons x xs ih =>
    intro acc hs hl
    simp only [List.length_cons] at hl
    rw [lcL_cons, hs x List.mem_cons_self]
    cases e : f x with
    | none =>
      rw [lcK_none, ih (fun y hy => hs y (List.mem_cons_of_mem _ hy)) (by omega)]
      simp [List.filterMap_cons, e]
    | some d =>
      rw [lcK_some, if_pos (by omega), ih (fun y hy => hs y (List.mem_cons_of_mem _ hy)) (by simp only [List.length_append, List.length_cons, List.length_nil]; omega)]
      simp [List.filterMap_cons, e]
/-- a loop by what holds between its turns -/
theorem for_inv {body : D → Sg → Hh → SR} {I : Sg → Hh → Prop} (hs : ∀ x σ h, I σ h → ∃ σ' h', body x σ h = .nx σ' h' ∧ I σ' h') :
    ∀ (xs : List D) (σ : Sg) (h : Hh), I σ h → ∃ σ' h', forL body xs σ h = .nx σ' h' ∧ I σ' h' := by
  intro xs
  induction xs with
  | nil => intro σ h i; exact ⟨σ, h, rfl, i⟩
  | cons x xs ih =>
    intro σ h i
    obtain ⟨σ1, h1, e, i1⟩ := hs x σ h i
    obtain ⟨σ2, h2, e2, i2⟩ := ih σ1 h1 i1
    exact ⟨σ2, h2, by rw [forL_cons, e, forK_nx, e2], i2⟩
/-- .. that hangs on what is left to be walked -/
theorem for_invL {body : D → Sg → Hh → SR} {I : List D → Sg → Hh → Prop} (hs : ∀ x xs σ h, I (x :: xs) σ h → ∃ σ' h', body x σ h = .nx σ' h' ∧ I xs σ' h') :
    ∀ (xs : List D) (σ : Sg) (h : Hh), I xs σ h → ∃ σ' h', forL body xs σ h = .nx σ' h' ∧ I [] σ' h' := by
  intro xs
  induction xs with
  | nil => intro σ h i; exact ⟨σ, h, rfl, i⟩
  | cons x xs ih =>
    intro σ h i
    obtain ⟨σ1, h1, e, i1⟩ := hs x xs σ h i
    obtain ⟨σ2, h2, e2, i2⟩ := ih σ1 h1 i1
    exact ⟨σ2, h2, by rw [forL_cons, e, forK_nx, e2], i2⟩
theorem lc_drawR {step : D → Hh → R (Option D)} {xs acc : List D} {h : Hh} {r : R (List D)} (hR : lcL step xs acc h = r) (I : Hh → Prop) (Q : D → Prop) (hs : ∀ x h, I h → ∃ d h', step x h = .ok (some d) h' ∧ I h' ∧ Q d)
    (i : I h) (hl : acc.length + xs.length ≤ line) : ∃ ds h', r = .ok (acc ++ ds) h' ∧ ds.length = xs.length ∧ (∀ d ∈ ds, Q d) ∧ I h' := by
  subst hR
  exact lc_draw hs xs acc h i hl
theorem lc_mapR {step : D → Hh → R (Option D)} {xs acc : List D} {h : Hh} {r : R (List D)} (hR : lcL step xs acc h = r) (f : D → D) (hs : ∀ x ∈ xs, step x h = .ok (some (f x)) h) (hl : acc.length + xs.length ≤ line) : r = .ok (acc ++ xs.map f) h := hR.symm.trans (lc_map hs hl)
theorem lc_filterR {step : D → Hh → R (Option D)} {xs acc : List D} {h : Hh} {r : R (List D)} (hR : lcL step xs acc h = r) (f : D → Option D) (hs : ∀ x ∈ xs, step x h = .ok (f x) h) (hl : acc.length + xs.length ≤ line) : r = .ok (acc ++ xs.filterMap f) h := hR.symm.trans (lc_filter hs hl)
theorem for_invR {body : D → Sg → Hh → SR} {xs : List D} {σ : Sg} {h : Hh} {r : SR} (hR : forL body xs σ h = r) (I : Sg → Hh → Prop) (hs : ∀ x σ h, I σ h → ∃ σ' h', body x σ h = .nx σ' h' ∧ I σ' h') (i : I σ h) :
    ∃ σ' h', r = .nx σ' h' ∧ I σ' h' := by
  subst hR
  exact for_inv hs xs σ h i
theorem for_invLR {body : D → Sg → Hh → SR} {xs : List D} {σ : Sg} {h : Hh} {r : SR} (hR : forL body xs σ h = r) (I : List D → Sg → Hh → Prop) (hs : ∀ x xs σ h, I (x :: xs) σ h → ∃ σ' h', body x σ h = .nx σ' h' ∧ I xs σ' h') (i : I xs σ h) :
    ∃ σ' h', r = .nx σ' h' ∧ I [] σ' h' := by
  subst hR
  exact for_invL hs xs σ h i
/-- a while by what holds between its turns, and how many may be left -/
theorem wh_inv {p : BM} {s : SM} {I : Nat → Sg → Hh → Prop} {Q : Sg → Hh → Prop}
    (hs : ∀ k σ h, I k σ h → (∃ h', p σ h = .ok false h' ∧ Q σ h') ∨ ∃ h1 k' σ' h', p σ h = .ok true h1 ∧ s σ h1 = .nx σ' h' ∧ k' < k ∧ I k' σ' h') :
    ∀ (N k : Nat) (σ : Sg) (h : Hh), I k σ h → k < N → ∃ σ' h', whL p s N σ h = .nx σ' h' ∧ Q σ' h' := by
  intro N
  induction N with
  | zero => intro k σ h _ hk; omega
  | succ N ih =>
    intro k σ h i hk
    rcases hs k σ h i with ⟨h', e, q⟩ | ⟨h1, k', σ', h', e1, e2, hk', i'⟩
    · exact ⟨σ, h', by rw [whL_succ, e]; rfl, q⟩
    · obtain ⟨σ2, h2, e3, q⟩ := ih k' σ' h' i' (by omega)
      exact ⟨σ2, h2, by rw [whL_succ, e1, whI_ok, whI1_t, e2, whK_nx, e3], q⟩
theorem wh_invR {p : BM} {s : SM} {N : Nat} {σ : Sg} {h : Hh} {r : SR} (hR : whL p s N σ h = r) (I : Nat → Sg → Hh → Prop) (Q : Sg → Hh → Prop) (k : Nat)
    (hs : ∀ k σ h, I k σ h → (∃ h', p σ h = .ok false h' ∧ Q σ h') ∨ ∃ h1 k' σ' h', p σ h = .ok true h1 ∧ s σ h1 = .nx σ' h' ∧ k' < k ∧ I k' σ' h') (i : I k σ h) (hk : k < N) : ∃ σ' h', r = .nx σ' h' ∧ Q σ' h' := by
  subst hR
  exact wh_inv hs N k σ h i hk
theorem ex_map {α : Type} {f : α → D} {P : α → Prop} : ∀ {ds : List D}, (∀ d ∈ ds, ∃ c, d = f c ∧ P c) → ∃ cs : List α, ds = cs.map f ∧ ∀ c ∈ cs, P c := by
  intro ds
  induction ds with
  | nil => intro _; exact ⟨[], rfl, by simp⟩
  | cons d ds ih =>
    intro h
    obtain ⟨c, rfl, p⟩ := h d List.mem_cons_self
    obtain ⟨cs, rfl, q⟩ := ih fun x hx => h x (List.mem_cons_of_mem _ hx)
    exact ⟨c :: cs, rfl, by intro z hz; rcases List.mem_cons.mp hz with rfl | hz; exact p; exact q z hz⟩
theorem asTexts_map : ∀ ts : List Tx, asTexts (ts.map D.str) = some ts
  | [] => rfl
  | t :: ts => by simp [asTexts, asTexts_map ts]
theorem joinT_nil : ∀ ts : List Tx, joinT [] ts = ts.flatten
  | [] => rfl
  | [t] => by simp [joinT]
  | t :: u :: ts => by simp [joinT, joinT_nil (u :: ts)]
theorem join_texts {h : Hh} {sep : Tx} {ts : List Tx} (hl : (ts.map List.length).sum + ts.length * sep.length ≤ line) : joinD h (.str sep) (.lst (ts.map D.str)) = some (.str (joinT sep ts), none) := by
  simp only [joinD, asSeq_lst, Option.bind_some, asTexts_map]
  rw [if_pos hl]
theorem sum_ones (cs : List Nat) : ((cs.map fun c => [c]).map List.length).sum = cs.length := by
  induction cs with
  | nil => rfl
  | cons c cs ih =>
    simp only [List.map_cons, List.sum_cons, ih]
    simp
    omega
theorem flat_ones (cs : List Nat) : (cs.map fun c => [c]).flatten = cs := by
  induction cs with
  | nil => rfl
  | cons c cs ih => simp [ih]
theorem join_signs {h : Hh} {cs : List Nat} (hl : cs.length ≤ line) : joinD h (.str []) (.lst (cs.map fun c => D.str [c])) = some (.str cs, none) := by
  have e : (cs.map fun c => D.str [c]) = (cs.map fun c => [c]).map D.str := by simp
  rw [e, join_texts (by rw [sum_ones]; simpa using hl), joinT_nil, flat_ones]
@[simp] theorem len_rangeD (a : Int) (n : Nat) : (rangeD a n).length = n := by simp [rangeD]
theorem emod_lt (a : Int) {m : Int} (h : 0 < m) : a % m < m := Int.emod_lt_of_pos a h
theorem emod_ge (a : Int) {m : Int} (h : 0 < m) : 0 ≤ a % m := Int.emod_nonneg a (by omega)
/-- an index that lies within -/
theorem ix_in {ds : List D} {n : Nat} {x : Int} (hn : ds.length = n) (h0 : 0 ≤ x) (h1 : x < n) : ∃ d, d ∈ ds ∧ ((ixn n x).bind fun j => ds[j]?) = some d := by
  subst hn
  refine ⟨ds[x.toNat]'(by omega), List.getElem_mem _, ?_⟩
  simp only [ixn, h0, h1, if_true, Option.bind_some]
  exact List.getElem?_eq_getElem (by omega)
theorem ix_str {s : Tx} {x : Int} (h : Hh) (hl : s.length ≤ line) (h0 : 0 ≤ x) (h1 : x < s.length) : ∃ c, c ∈ s ∧ index h (.str s) (.int x) = some (.str [c]) := by
  refine ⟨s[x.toNat]'(by omega), List.getElem_mem _, ?_⟩
  rw [index_str, if_pos hl]
  simp only [ixn, h0, h1, if_true, Option.bind_some]
  rw [List.getElem?_eq_getElem (by omega)]
  rfl
@[simp] theorem app_get0 {α : Type} (h t : List α) (o : α) : (h ++ o :: t)[h.length]? = some o := by simp
@[simp] theorem app_get1 {α : Type} (h t : List α) (a o : α) : (h ++ a :: o :: t)[h.length + 1]? = some o := by
  rw [List.getElem?_append_right (by omega)]
  simp
@[simp] theorem app_get2 {α : Type} (h t : List α) (a b o : α) : (h ++ a :: b :: o :: t)[h.length + 2]? = some o := by
  rw [List.getElem?_append_right (by omega)]
  simp
@[simp] theorem app_set0 {α : Type} (h t : List α) (o x : α) : (h ++ o :: t).set h.length x = h ++ x :: t := by simp
@[simp] theorem app_set1 {α : Type} (h t : List α) (a o x : α) : (h ++ a :: o :: t).set (h.length + 1) x = h ++ a :: x :: t := by
  rw [List.set_append_right _ _ (by omega)]
  simp
@[simp] theorem app_set2 {α : Type} (h t : List α) (a b o x : α) : (h ++ a :: b :: o :: t).set (h.length + 2) x = h ++ a :: b :: x :: t := by
  rw [List.set_append_right _ _ (by omega)]
  simp
/-- the rest of the way back: what a def made is told as it stands -/
theorem back_ref0 {h : Hh} {ds : List D} {hc : Hh} (c : closedAll ds = true) : back [] h (.rt (.ref 0) (.lst ds :: hc)) = .ok (.lst ds) h := by
  simp [back, tell, giveBack, frz, mapAll_closed _ c]
theorem lend_cl {k : Nat} {d : D} {ds : List D} (c : d.closed = true) : lend k (d :: ds) = (lend k ds).map fun q => (d :: q.1, q.2) := by
  cases d <;> first | (simp [D.closed] at c; done) | simp_all [lend]
theorem lent_three {d1 d2 : D} {r : Nat} {o : O} {h : Hh} (c1 : d1.closed = true) (c2 : d2.closed = true) (ho : h[r]? = some o) (co : o.closed = true) : lent [d1, d2, .ref r] h = some ([d1, d2, .ref 0], [r], [o]) := by
  simp [lent, lend_cl c1, lend_cl c2, lend, lentO, ho, co]
theorem own_three {np N : Nat} {b : SM} {d1 d2 : D} {r : Nat} {o : O} {h : Hh} (c1 : d1.closed = true) (c2 : d2.closed = true) (ho : h[r]? = some o) (co : o.closed = true) (hl : 3 = np) :
    own np N b [d1, d2, .ref r] h = back [r] h (b (startD N [d1, d2, .ref 0]) [o]) := by
  subst hl
  simp [own, lent_three c1 c2 ho co]
theorem back_ref1 {h hc : Hh} {r : Nat} {o : O} {ds : List D} (e0 : hc[0]? = some o) (co : o.closed = true) (e1 : hc[1]? = some (.lst ds)) (c : closedAll ds = true) : back [r] h (.rt (.ref 1) hc) = .ok (.lst ds) (h.set r o) := by
  simp [back, tell, giveBack, frz, mapAll_closed _ c, e0, e1, frzO_closed co]
theorem set_same {α : Type} {h : List α} {r : Nat} {o : α} (e : h[r]? = some o) : h.set r o = h := by
  obtain ⟨hr, rfl⟩ := List.getElem?_eq_some_iff.mp e
  exact List.set_getElem_self hr
end Pl
end
section
set_option linter.all false
set_option autoImplicit false
/-! Pl3: values, in plain words. -/
namespace Pl
open Fw
abbrev wTo : Tx := [116, 111]
abbrev wRow : Tx := [114, 111, 119]
abbrev wTable : Tx := [116, 97, 98, 108, 101]
abbrev wStream : Tx := [115, 116, 114, 101, 97, 109]
abbrev wName : Tx := [110, 97, 109, 101]
/-- a value as the law makes it -/
inductive Vl where
  | non
  | int (i : Int)
  | str (s : Tx)
  | name (s : Tx)
  | to (k e : Int)
  | row (vs : List Vl)
  | table (es : List (Tx × Vl))
  | stream (es : List (Tx × Vl)) (s : Tx)
mutual
def Vl.d : Vl → D
  | .non => .non
  | .int i => .int i
  | .str s => .str s
  | .name s => .tup [.str wName, .str s]
  | .to k e => .tup [.str wTo, .int k, .int e]
  | .row vs => .tup [.str wRow, .tup (dAll vs)]
  | .table es => .tup [.str wTable, .tup (dEnt es)]
  | .stream es s => .tup [.str wStream, .tup (dEnt es), .str s]
def dAll : List Vl → List D
  | [] => []
  | v :: vs => v.d :: dAll vs
def dEnt : List (Tx × Vl) → List D
  | [] => []
  | e :: es => .tup [.str e.1, e.2.d] :: dEnt es
end
mutual
def Vl.refs : Vl → List (Int × Int)
  | .to k e => [(k, e)]
  | .row vs => refsAll vs
  | .table es => refsEnt es
  | .stream es _ => refsEnt es
  | _ => []
def refsAll : List Vl → List (Int × Int)
  | [] => []
  | v :: vs => v.refs ++ refsAll vs
def refsEnt : List (Tx × Vl) → List (Int × Int)
  | [] => []
  | e :: es => e.2.refs ++ refsEnt es
end
mutual
def Vl.deep : Vl → Nat
  | .row vs => deepAll vs + 1
  | .table es => deepEnt es + 1
  | .stream es _ => deepEnt es + 1
  | _ => 1
def deepAll : List Vl → Nat
  | [] => 0
  | v :: vs => max v.deep (deepAll vs)
def deepEnt : List (Tx × Vl) → Nat
  | [] => 0
  | e :: es => max e.2.deep (deepEnt es)
end
def toD (q : Int × Int) : D := .tup [.str wTo, .int q.1, .int q.2]
mutual
theorem Vl.closed : ∀ v : Vl, v.d.closed = true
  | .non => rfl
  | .int _ => rfl
  | .str _ => rfl
  | .name _ => rfl
  | .to _ _ => rfl
  | .row vs => by simp [Vl.d, D.closed, closedAll, dAll_closed vs]
  | .table es => by simp [Vl.d, D.closed, closedAll, dEnt_closed es]
  | .stream es _ => by simp [Vl.d, D.closed, closedAll, dEnt_closed es]
theorem dAll_closed : ∀ vs : List Vl, closedAll (dAll vs) = true
  | [] => rfl
  | v :: vs => by simp [dAll, closedAll, Vl.closed v, dAll_closed vs]
theorem dEnt_closed : ∀ es : List (Tx × Vl), closedAll (dEnt es) = true
  | [] => rfl
  | e :: es => by simp [dEnt, closedAll, D.closed, Vl.closed e.2, dEnt_closed es]
end
/-- parts_of -/
def Vl.parts : Vl → List Vl
  | .row vs => vs
  | .table es => es.map (·.2)
  | .stream es _ => es.map (·.2)
  | _ => []
theorem dAll_map (vs : List Vl) : dAll vs = vs.map Vl.d := by
  induction vs with
  | nil => rfl
  | cons v vs ih => simp [dAll, ih]
theorem refs_parts : ∀ v : Vl, (∀ k e, v ≠ .to k e) → v.refs = (v.parts.map Vl.refs).flatten := by
  have ent : ∀ es : List (Tx × Vl), refsEnt es = ((es.map (·.2)).map Vl.refs).flatten := by
    intro es
    induction es with
    | nil => rfl
    | cons e es ih => simp only [refsEnt, ih]; simp
  have all : ∀ vs : List Vl, refsAll vs = (vs.map Vl.refs).flatten := by
    intro vs
    induction vs with
    | nil => rfl
    | cons e es ih => simp only [refsAll, ih]; simp
  intro v h
  cases v with
  | to k e => exact absurd rfl (h k e)
  | row vs => simp only [Vl.refs, Vl.parts, all]
  | table es => simp only [Vl.refs, Vl.parts, ent]
  | stream es s => simp only [Vl.refs, Vl.parts, ent]
  | _ => simp [Vl.refs, Vl.parts]
mutual
/-- how many things a value has -/
def Vl.sz : Vl → Nat
  | .row vs => szAll vs + 1
  | .table es => szEnt es + 1
  | .stream es _ => szEnt es + 1
  | _ => 1
def szAll : List Vl → Nat
  | [] => 0
  | v :: vs => v.sz + szAll vs
def szEnt : List (Tx × Vl) → Nat
  | [] => 0
  | e :: es => e.2.sz + szEnt es
end
theorem Vl.sz_pos (v : Vl) : 0 < v.sz := by cases v <;> simp [Vl.sz]
theorem szAll_sum : ∀ vs : List Vl, szAll vs = (vs.map Vl.sz).sum
  | [] => rfl
  | v :: vs => by simp [szAll, szAll_sum vs]
theorem szEnt_sum : ∀ es : List (Tx × Vl), szEnt es = ((es.map (·.2)).map Vl.sz).sum
  | [] => rfl
  | e :: es => by simp [szEnt, szEnt_sum es]
theorem sz_parts (v : Vl) : (v.parts.map Vl.sz).sum + 1 ≤ v.sz + 0 ∨ v.parts = [] := by
  cases v with
  | row vs => exact .inl (by simp [Vl.sz, Vl.parts, szAll_sum])
  | table es => exact .inl (by simp [Vl.sz, Vl.parts, szEnt_sum])
  | stream es s => exact .inl (by simp [Vl.sz, Vl.parts, szEnt_sum])
  | _ => exact .inr rfl
theorem sum_len : ∀ l : List Vl, l.length ≤ (l.map Vl.sz).sum
  | [] => Nat.le_refl _
  | v :: l => by
    have := sum_len l
    have := v.sz_pos
    simp
    omega
theorem parts_len (v : Vl) : v.parts.length ≤ v.sz := by
  rcases sz_parts v with h | h
  · have := sum_len v.parts; omega
  · rw [h]; exact Nat.zero_le _
theorem mem_sz {l : List Vl} {v : Vl} (h : v ∈ l) : v.sz ≤ (l.map Vl.sz).sum := by
  induction l with
  | nil => cases h
  | cons u l ih =>
    simp
    rcases List.mem_cons.mp h with e | h
    · subst e; omega
    · have := ih h; omega
theorem part_sz {v p : Vl} (h : p ∈ v.parts) : p.sz < v.sz := by
  rcases sz_parts v with q | q
  · have := mem_sz h; omega
  · rw [q] at h; cases h
theorem refs_len : ∀ (n : Nat) (v : Vl), v.sz ≤ n → v.refs.length ≤ v.sz := by
  intro n
  induction n with
  | zero => intro v h; have := v.sz_pos; omega
  | succ n ih =>
    intro v h
    by_cases hv : ∃ k e, v = .to k e
    · obtain ⟨k, e, rfl⟩ := hv
      simp [Vl.refs, Vl.sz]
    · rw [refs_parts v (fun k e q => hv ⟨k, e, q⟩)]
      have key : ∀ l : List Vl, (∀ p ∈ l, p.refs.length ≤ p.sz) → (l.map Vl.refs).flatten.length ≤ (l.map Vl.sz).sum := by
        intro l
        induction l with
        | nil => intro _; simp
        | cons p l ih2 =>
          intro hp
          have h1 := hp p List.mem_cons_self
          have h2 := ih2 fun q hq => hp q (List.mem_cons_of_mem _ hq)
          simp at h2 ⊢
          omega
      have h3 := key v.parts fun p hp => ih p (by have := part_sz hp; omega)
      rcases sz_parts v with q | q
      · omega
      · rw [q]; simp

theorem closed_toD : ∀ l : List (Int × Int), closedAll (l.map toD) = true := by
  intro l
  induction l with
  | nil => rfl
  | cons q l ih => simp [ih, toD]
@[simp] theorem vcl (v : Vl) : v.d.closed = true := v.closed
@[simp] theorem vcla (vs : List Vl) : closedAll (dAll vs) = true := dAll_closed vs
@[simp] theorem vcle (es : List (Tx × Vl)) : closedAll (dEnt es) = true := dEnt_closed es
def letter (c : Nat) : Prop := 97 ≤ c ∧ c ≤ 122
def WordOk (s : Tx) : Prop := 1 ≤ s.length ∧ s.length ≤ 8 ∧ ∀ c ∈ s, letter c
def signOk (c : Nat) : Prop := 32 ≤ c ∧ c ≤ 126
def rises (ws : List Tx) : Prop := ws.Pairwise (· < ·)
mutual
/-- a value but a stream -/
def Vl.pl : Vl → Prop
  | .non => True
  | .int i => -1000000000000000000000000000000 < i ∧ i < 1000000000000000000000000000000
  | .str s => s.length ≤ 200 ∧ ∀ c ∈ s, signOk c
  | .name s => WordOk s
  | .to k e => 1 ≤ k ∧ k ≤ 200 ∧ 0 ≤ e ∧ e ≤ 99
  | .row vs => vs.length ≤ 60 ∧ plAll vs
  | .table es => es.length ≤ 30 ∧ rises (es.map (·.1)) ∧ plEnt es
  | .stream _ _ => False
def plAll : List Vl → Prop
  | [] => True
  | v :: vs => v.pl ∧ plAll vs
def plEnt : List (Tx × Vl) → Prop
  | [] => True
  | e :: es => WordOk e.1 ∧ e.2.pl ∧ plEnt es
end
/-- a value -/
def Vl.ok : Vl → Prop
  | .stream es s => es.length ≤ 30 ∧ rises (es.map (·.1)) ∧ plEnt es ∧ s.length ≤ 2000 ∧ ∀ c ∈ s, signOk c ∨ c = 10
  | v => v.pl
theorem pl_ok {v : Vl} (h : v.pl) : v.ok := by cases v <;> first | exact h | exact h.elim
theorem plAll_iff {vs : List Vl} : plAll vs ↔ ∀ v ∈ vs, v.pl := by
  induction vs with
  | nil => simp [plAll]
  | cons v vs ih => simp [plAll, ih]
theorem plEnt_iff {es : List (Tx × Vl)} : plEnt es ↔ ∀ e ∈ es, WordOk e.1 ∧ e.2.pl := by
  induction es with
  | nil => simp [plEnt]
  | cons e es ih => simp [plEnt, ih, and_assoc]
theorem deepAll_le {vs : List Vl} {n : Nat} (h : ∀ v ∈ vs, v.deep ≤ n) : deepAll vs ≤ n := by
  induction vs with
  | nil => simp [deepAll]
  | cons v vs ih =>
    have := h v List.mem_cons_self
    have := ih fun x hx => h x (List.mem_cons_of_mem _ hx)
    simp [deepAll]
    omega
theorem deepEnt_le {es : List (Tx × Vl)} {n : Nat} (h : ∀ e ∈ es, e.2.deep ≤ n) : deepEnt es ≤ n := by
  induction es with
  | nil => simp [deepEnt]
  | cons e es ih =>
    have := h e List.mem_cons_self
    have := ih fun x hx => h x (List.mem_cons_of_mem _ hx)
    simp [deepEnt]
    omega
theorem deepAll_ge {vs : List Vl} {v : Vl} (h : v ∈ vs) : v.deep ≤ deepAll vs := by
  induction vs with
  | nil => cases h
  | cons u vs ih =>
    rcases List.mem_cons.mp h with rfl | h
    · simp [deepAll]; omega
    · have := ih h; simp [deepAll]; omega
theorem deepEnt_ge {es : List (Tx × Vl)} {v : Vl} (h : v ∈ es.map (·.2)) : v.deep ≤ deepEnt es := by
  induction es with
  | nil => cases h
  | cons u vs ih =>
    rcases List.mem_cons.mp h with rfl | h
    · simp [deepEnt]; omega
    · have := ih h; simp [deepEnt]; omega
theorem part_deep {v p : Vl} (h : p ∈ v.parts) : p.deep < v.deep := by
  cases v with
  | row vs => have := deepAll_ge (vs := vs) h; simp [Vl.deep]; omega
  | table es => have := deepEnt_ge (es := es) h; simp [Vl.deep]; omega
  | stream es s => have := deepEnt_ge (es := es) h; simp [Vl.deep]; omega
  | _ => cases h
theorem deep_pos (v : Vl) : 0 < v.deep := by cases v <;> simp [Vl.deep]
theorem sum_le {l : List Vl} {k : Nat} (h : ∀ v ∈ l, v.sz ≤ k) : (l.map Vl.sz).sum ≤ l.length * k := by
  induction l with
  | nil => simp
  | cons v l ih =>
    have := h v List.mem_cons_self
    have := ih fun x hx => h x (List.mem_cons_of_mem _ hx)
    simp [Nat.succ_mul]
    omega
theorem dEnt_map (es : List (Tx × Vl)) : dEnt es = es.map fun e => .tup [.str e.1, e.2.d] := by
  induction es with
  | nil => rfl
  | cons e es ih => simp [dEnt, ih]
end Pl
end
section
set_option linter.all false
set_option autoImplicit false
/-! Pl4: dicts by words, sorted. -/
namespace Pl
open Fw
theorem lt_of_not {a b : Tx} (h1 : ¬ b < a) (h2 : a ≠ b) : a < b := by
  rcases Decidable.em (a < b) with h | h
  · exact h
  · exact absurd (List.le_antisymm (List.not_lt.mp h1) (List.not_lt.mp h)) h2
theorem sortT_perm (ts : List Tx) : (sortT ts).Perm ts := List.mergeSort_perm _ _
@[simp] theorem sortT_len (ts : List Tx) : (sortT ts).length = ts.length := (sortT_perm ts).length_eq
theorem sortT_mem {ts : List Tx} {t : Tx} : t ∈ sortT ts ↔ t ∈ ts := (sortT_perm ts).mem_iff
theorem sortT_rises {ts : List Tx} (h : ts.Nodup) : rises (sortT ts) := by
  have p : (sortT ts).Pairwise fun a b => (!decide (b < a)) = true := List.pairwise_mergeSort (by
    intro a b c h1 h2
    simp only [Bool.not_eq_true', decide_eq_false_iff_not] at *
    exact fun h => absurd h (List.not_lt.mpr (List.le_trans (List.not_lt.mp h1) (List.not_lt.mp h2)))) (by
    intro a b
    simp only [Bool.or_eq_true, Bool.not_eq_true', decide_eq_false_iff_not]
    rcases Decidable.em (b < a) with h | h
    · exact .inr fun h' => List.lt_asymm h h'
    · exact .inl h) ts
  have n : (sortT ts).Nodup := (sortT_perm ts).nodup_iff.mpr h
  exact (p.and n).imp fun {a b} q => lt_of_not (by simpa using q.1) q.2
abbrev Es := List (Tx × Vl)
def kvE (es : Es) : List (K1 × D) := es.map fun e => (.inr e.1, e.2.d)
def putE (w : Tx) (v : Vl) (es : Es) : Es := if w ∈ es.map (·.1) then es.map fun e => if e.1 = w then (e.1, v) else e else es ++ [(w, v)]
theorem put_kvE (w : Tx) (v : Vl) (es : Es) : put (.inr w) v.d (kvE es) = kvE (putE w v es) := by
  unfold put putE
  by_cases h : w ∈ es.map (·.1)
  · rw [if_pos h, if_pos]
    · simp only [kvE, List.map_map]
      apply List.map_congr_left
      intro e _
      simp only [Function.comp]
      by_cases q : e.1 = w
      · simp [q]
      · simp [q]
    · simp only [kvE, List.any_map, List.any_eq_true]
      obtain ⟨e, he, rfl⟩ := List.mem_map.mp h
      exact ⟨e, he, by simp⟩
  · rw [if_neg h, if_neg]
    · simp [kvE]
    · simp only [kvE, List.any_map, List.any_eq_true, not_exists, not_and]
      intro e he q
      simp at q
      exact h (List.mem_map.mpr ⟨e, he, q⟩)
theorem putE_keys (w : Tx) (v : Vl) (es : Es) : (putE w v es).map (·.1) = if w ∈ es.map (·.1) then es.map (·.1) else es.map (·.1) ++ [w] := by
  unfold putE
  by_cases h : w ∈ es.map (·.1)
  · rw [if_pos h, if_pos h, List.map_map]
    apply List.map_congr_left
    intro e _
    simp only [Function.comp]
    by_cases q : e.1 = w <;> simp [q]
  · rw [if_neg h, if_neg h]
    simp
theorem putE_nodup {w : Tx} {v : Vl} {es : Es} (h : (es.map (·.1)).Nodup) : ((putE w v es).map (·.1)).Nodup := by
  rw [putE_keys]
  split
  · exact h
  · rename_i q
    refine List.nodup_append.mpr ⟨h, by simp, ?_⟩
    intro a ha b hb e
    rw [List.mem_singleton] at hb
    subst e; subst hb
    exact q ha
theorem putE_len {w : Tx} {v : Vl} {es : Es} : (putE w v es).length ≤ es.length + 1 := by
  unfold putE
  split <;> simp
theorem putE_mem {w : Tx} {v : Vl} {es : Es} {e : Tx × Vl} (h : e ∈ putE w v es) : e = (w, v) ∨ e ∈ es := by
  unfold putE at h
  split at h
  · obtain ⟨z, hz, rfl⟩ := List.mem_map.mp h
    by_cases q : z.1 = w
    · left; simp [q]
    · simp only [q, if_false]; exact .inr hz
  · rcases List.mem_append.mp h with h | h
    · exact .inr h
    · exact .inl (List.mem_singleton.mp h)
def getE (w : Tx) (es : Es) : Option Vl := (es.find? fun e => decide (e.1 = w)).map (·.2)
theorem look_kvE (w : Tx) (es : Es) : look (.inr w) (kvE es) = (getE w es).map Vl.d := by
  induction es with
  | nil => rfl
  | cons e es ih =>
    have ih' : look (.inr w) (es.map fun e => ((.inr e.1 : K1), e.2.d)) = (getE w es).map Vl.d := ih
    simp only [kvE, List.map_cons, look, getE, List.find?_cons]
    by_cases q : e.1 = w
    · simp [q]
    · simp only [q, decide_false, Sum.inr.injEq, if_false, ih']
      rfl
theorem getE_mem {w : Tx} {es : Es} (h : w ∈ es.map (·.1)) : ∃ v, getE w es = some v ∧ (w, v) ∈ es := by
  induction es with
  | nil => cases h
  | cons e es ih =>
    by_cases q : e.1 = w
    · exact ⟨e.2, by simp [getE, q], by subst q; exact List.mem_cons_self⟩
    · have h' : w ∈ es.map (·.1) := by
        rcases List.mem_cons.mp h with r | r
        · exact absurd r.symm q
        · exact r
      obtain ⟨v, e1, m⟩ := ih h'
      refine ⟨v, ?_, List.mem_cons_of_mem _ m⟩
      simp only [getE] at e1 ⊢
      rw [List.find?_cons]
      simp [q, e1]
theorem textKeys_kvE (es : Es) : textKeys (kvE es) = some (es.map (·.1)) := by
  induction es with
  | nil => rfl
  | cons e es ih =>
    have ih' : textKeys (es.map fun e => ((.inr e.1 : K1), e.2.d)) = some (es.map (·.1)) := ih
    simp [kvE, textKeys, ih']
theorem sorted_kvE {h : Hh} {n : Nat} {es : Es} (e : h[n]? = some (.dct (kvE es))) (hl : es.length < 64) : sortedK h (.ref n) = some (.lst ((sortT (es.map (·.1))).map .str)) := by
  unfold sortedK
  rw [asDct_ref e]
  simp only [Option.bind_some]
  rw [if_pos (by simpa [kvE] using hl)]
  cases es with
  | nil => simp [kvE, intKeys, sortI, sortT]
  | cons z es =>
    have : intKeys (kvE (z :: es)) = none := rfl
    rw [this, textKeys_kvE]
    rfl
/-- as they stand, sorted by their words -/
def sortE (es : Es) : Es := (sortT (es.map (·.1))).map fun w => (w, (getE w es).getD .non)
theorem sortE_mem {es : Es} {e : Tx × Vl} (h : e ∈ sortE es) : e ∈ es := by
  obtain ⟨w, hw, rfl⟩ := List.mem_map.mp h
  obtain ⟨v, e1, m⟩ := getE_mem (sortT_mem.mp hw)
  rw [e1]
  exact m
theorem sortE_rises {es : Es} (h : (es.map (·.1)).Nodup) : rises ((sortE es).map (·.1)) := by
  have : (sortE es).map (·.1) = sortT (es.map (·.1)) := by
    unfold sortE
    rw [List.map_map]
    exact List.map_id' _
  rw [this]
  exact sortT_rises h
@[simp] theorem sortE_len {es : Es} : (sortE es).length = es.length := by simp [sortE]
end Pl
end
section
set_option linter.all false
set_option autoImplicit false
/-! Pl5: things without objects. -/
namespace Pl
open Fw
mutual
/-- no objects, no defs, no things of one's own within -/
def D.pure : D → Bool
  | .obj _ _ => false
  | .fn _ => false
  | .ref _ => false
  | .roi _ => false
  | .tup xs => pureAll xs
  | .lst xs => pureAll xs
  | .dct kvs => pureK kvs
  | _ => true
def pureAll : List D → Bool
  | [] => true
  | x :: xs => D.pure x && pureAll xs
def pureK : List (K1 × D) → Bool
  | [] => true
  | x :: xs => D.pure x.2 && pureK xs
end
mutual
theorem pure_closed : ∀ {d : D}, D.pure d = true → d.closed = true
  | .non, _ => rfl
  | .bl _, _ => rfl
  | .int _, _ => rfl
  | .str _, _ => rfl
  | .fn _, h => by simp [D.pure] at h
  | .roi _, _ => rfl
  | .obj _ _, h => by simp [D.pure] at h
  | .ref _, h => by simp [D.pure] at h
  | .tup xs, h => by
    simp only [D.pure] at h
    simp [pureAll_closed h]
  | .lst xs, h => by
    simp only [D.pure] at h
    simp [pureAll_closed h]
  | .dct xs, h => by
    simp only [D.pure] at h
    simp [pureK_closed h]
theorem pureAll_closed : ∀ {ds : List D}, pureAll ds = true → closedAll ds = true
  | [], _ => rfl
  | x :: xs, h => by
    simp only [pureAll, Bool.and_eq_true] at h
    simp [pure_closed h.1, pureAll_closed h.2]
theorem pureK_closed : ∀ {ds : List (K1 × D)}, pureK ds = true → closedK ds = true
  | [], _ => rfl
  | x :: xs, h => by
    simp only [pureK, Bool.and_eq_true] at h
    simp [pure_closed h.1, pureK_closed h.2]
end
@[simp] theorem pure_tup {ds : List D} : D.pure (.tup ds) = pureAll ds := by rw [D.pure]
@[simp] theorem pure_lst {ds : List D} : D.pure (.lst ds) = pureAll ds := by rw [D.pure]
@[simp] theorem pure_dct {ds : List (K1 × D)} : D.pure (.dct ds) = pureK ds := by rw [D.pure]
@[simp] theorem pure_non : D.pure .non = true := by simp [D.pure]
@[simp] theorem pure_int {i : Int} : D.pure (.int i) = true := by simp [D.pure]
@[simp] theorem pure_bl {i : Bool} : D.pure (.bl i) = true := by simp [D.pure]
@[simp] theorem pure_str {i : Tx} : D.pure (.str i) = true := by simp [D.pure]
@[simp] theorem pureA_nil : pureAll [] = true := by simp [pureAll]
@[simp] theorem pureA_cons {d : D} {ds : List D} : pureAll (d :: ds) = (D.pure d && pureAll ds) := by rw [pureAll]
@[simp] theorem pureA_app {ds es : List D} : pureAll (ds ++ es) = (pureAll ds && pureAll es) := by
  induction ds with
  | nil => simp
  | cons d ds ih => simp [ih, Bool.and_assoc]
theorem pureA_iff {ds : List D} : pureAll ds = true ↔ ∀ d ∈ ds, D.pure d = true := by
  induction ds with
  | nil => simp
  | cons d ds ih => simp [ih]
mutual
@[simp] theorem Vl.dpure : ∀ v : Vl, D.pure v.d = true
  | .non => rfl
  | .int _ => rfl
  | .str _ => rfl
  | .name _ => rfl
  | .to _ _ => rfl
  | .row vs => by simp [Vl.d, dAll_pure vs]
  | .table es => by simp [Vl.d, dEnt_pure es]
  | .stream es _ => by simp [Vl.d, dEnt_pure es]
@[simp] theorem dAll_pure : ∀ vs : List Vl, pureAll (dAll vs) = true
  | [] => rfl
  | v :: vs => by simp [dAll, Vl.dpure v, dAll_pure vs]
@[simp] theorem dEnt_pure : ∀ es : List (Tx × Vl), pureAll (dEnt es) = true
  | [] => rfl
  | e :: es => by simp [dEnt, Vl.dpure e.2, dEnt_pure es]
end
/-- isinstance(d, tuple), .. -/
def isTupD : D → Bool
  | .tup _ => true
  | _ => false
def isStrD : D → Bool
  | .str _ => true
  | _ => false
def isBlD : D → Bool
  | .bl _ => true
  | _ => false
def isIntD : D → Bool
  | .int _ => true
  | .bl _ => true
  | _ => false
def isLstD : D → Bool
  | .lst _ => true
  | _ => false
def wholeD : D → Bool
  | .int _ => true
  | _ => false
def fromD (a b : Int) : D → Bool
  | .int i => decide (a ≤ i) && decide (i ≤ b)
  | _ => false
theorem isT_tup {d : D} {h : Hh} (p : D.pure d = true) : isT (isOf .tup) h d = some (.bl (isTupD d)) := by
  cases d <;> first | rfl | simp [D.pure] at p
theorem isT_str {d : D} {h : Hh} (p : D.pure d = true) : isT (isOf .str) h d = some (.bl (isStrD d)) := by
  cases d <;> first | rfl | simp [D.pure] at p
theorem isT_bl {d : D} {h : Hh} (p : D.pure d = true) : isT (isOf .bl) h d = some (.bl (isBlD d)) := by
  cases d <;> first | rfl | simp [D.pure] at p
theorem isT_int {d : D} {h : Hh} (p : D.pure d = true) : isT (isOf .int) h d = some (.bl (isIntD d)) := by
  cases d <;> first | rfl | simp [D.pure] at p
theorem isT_lst {d : D} {h : Hh} (p : D.pure d = true) : isT (isOf .lst) h d = some (.bl (isLstD d)) := by
  cases d <;> first | rfl | simp [D.pure] at p
@[simp] theorem isTupD_tup {ds : List D} : isTupD (.tup ds) = true := rfl
@[simp] theorem isTupD_v (v : Vl) : isTupD v.d = (match v with | .non => false | .int _ => false | .str _ => false | _ => true) := by cases v <;> rfl
/-- the second of two -/
def sndD : D → D
  | .tup [_, v] => v
  | _ => .non
@[simp] theorem sndD_two {a b : D} : sndD (.tup [a, b]) = b := rfl
theorem ent_map (es : Es) : (dEnt es).map sndD = dAll (es.map (·.2)) := by
  rw [dEnt_map, dAll_map, List.map_map, List.map_map]
  rfl
/-- a new list of two -/
def nc1 (o p : Option (List D)) (h : Hh) : R D := match o, p with
  | some xs, some ys => if xs.length + ys.length ≤ line then .ok (.ref h.length) (h ++ [.lst (xs ++ ys)]) else .bad
  | _, _ => .bad
@[simp] theorem nc1_ok {xs ys : List D} {h : Hh} : nc1 (some xs) (some ys) h = if xs.length + ys.length ≤ line then .ok (.ref h.length) (h ++ [.lst (xs ++ ys)]) else .bad := rfl
def kNC2 (d : D) (r : R D) : R D := r.bind fun e h => nc1 (asLst h d) (asLst h e) h
@[simp] theorem kNC2_ok {d e : D} {h : Hh} : kNC2 d (.ok e h) = nc1 (asLst h d) (asLst h e) h := rfl
def kNC1 (b : TM) (σ : Sg) (r : R D) : R D := r.bind fun d h => kNC2 d (b σ h)
@[simp] theorem kNC1_ok {b : TM} {σ : Sg} {d : D} {h : Hh} : kNC1 b σ (.ok d h) = kNC2 d (b σ h) := rfl
theorem eNewCat_eq' {a b : TM} {σ : Sg} {h : Hh} : eNewCat a b σ h = kNC1 b σ (a σ h) := by
  unfold eNewCat kNC1 kNC2
  congr 1
@[simp] theorem eNewCat_eq {a b : TM} {σ : Sg} {h : Hh} : eNewCat a b σ h = kNC1 b σ (a σ h) := eNewCat_eq'
@[simp] theorem popD_ref {h : Hh} {xs : List D} {n : Nat} {i : Int} (e : h[n]? = some (.lst xs)) : popD h (.ref n) (.int i) = (ixn xs.length i).bind fun j => (xs[j]?).map fun d => (d, some (n, .lst (xs.eraseIdx j))) := by
  simp [popD, e]
end Pl
end
section
set_option linter.all false
set_option autoImplicit false
set_option maxRecDepth 100000
namespace Lw
open Fw Pl
def RoomOk (o : O) : Prop := ∃ a b : Int, o = .lst [.int a, .int b] ∧ 0 ≤ b ∧ b < 2147483647
theorem RoomOk.closed {o : O} (h : RoomOk o) : o.closed = true := by
  obtain ⟨a, b, rfl, _⟩ := h
  rfl
theorem emod_lt (a : Int) {m : Int} (h : 0 < m) : a % m < m := Int.emod_lt_of_pos a h
theorem emod_ge (a : Int) {m : Int} (h : 0 < m) : 0 ≤ a % m := Int.emod_nonneg a (by omega)
theorem r_take (F n : Nat) {h : Hh} {r : Nat} {o : O} {m : Int} (hr : h[r]? = some o) (ho : RoomOk o) (h0 : 0 < m) (h1 : m < 1073741824) :
    ∃ x o', RoomOk o' ∧ 0 ≤ x ∧ x < m ∧ run F (n + 1) ix__law_take [.ref r, .int m] h = .ok (.int x) (h.set r o') := by
  rw [run__law_take, own_one (np := 2) (by simp [closedAll, D.closed]) hr ho.closed rfl]
  obtain ⟨a, b, rfl, hb, hb'⟩ := ho
  simp [b__law_take, startD, ixn]
  by_cases ha : 0 < a
  · simp [ha, h0, h1, ixn]
    exact ⟨_, _, ⟨_, _, rfl, hb, hb'⟩, emod_ge _ h0, emod_lt _ h0, rfl, rfl⟩
  · simp [ha]
    have q : ∀ b : Int, -18446744073709551616 < (b * 48271 + 39373) % 2147483647 ∧ (b * 48271 + 39373) % 2147483647 < 18446744073709551616 := by intro b; omega
    have q1 : ∀ b : Int, 0 ≤ (b * 48271 + 39373) % 2147483647 ∧ (b * 48271 + 39373) % 2147483647 < 2147483647 := by intro b; omega
    by_cases hm : 1000000 < m
    · simp [hm, h0, h1, q, ixn]
      exact ⟨_, _, ⟨_, _, rfl, (q1 _).1, (q1 _).2⟩, emod_ge _ h0, emod_lt _ h0, rfl, rfl⟩
    · simp [hm, h0, h1, q, ixn]
      exact ⟨_, _, ⟨_, _, rfl, (q1 _).1, (q1 _).2⟩, emod_ge _ h0, emod_lt _ h0, rfl, rfl⟩
end Lw
end
section
set_option linter.all false
set_option autoImplicit false
set_option maxRecDepth 100000
namespace Lw
open Fw Pl
/-- one's heap is just the room -/
def Rm (h : Hh) : Prop := ∃ o, h = [o] ∧ RoomOk o
theorem r_word (F n : Nat) {h : Hh} {r : Nat} {o : O} (hr : h[r]? = some o) (ho : RoomOk o) :
    ∃ s o', RoomOk o' ∧ WordOk s ∧ run F (n + 2) ix__law_word [.ref r] h = .ok (.str s) (h.set r o') := by
  rw [run__law_word, own_one (np := 1) (by simp) hr ho.closed rfl]
  obtain ⟨x, o1, ho1, x0, x1, e1⟩ := r_take F n (h := [o]) (r := 0) (m := 4) rfl ho (by decide) (by decide)
  obtain ⟨d, hd, e2⟩ := ix_in (ds := [.int 1, .int 2, .int 8, .int 3]) (n := 4) rfl x0 (by omega)
  have hk : ∃ k : Int, d = .int k ∧ 1 ≤ k ∧ k ≤ 8 := by
    simp at hd
    rcases hd with rfl | rfl | rfl | rfl <;> exact ⟨_, rfl, by decide, by decide⟩
  obtain ⟨k, rfl, k1, k8⟩ := hk
  simp [b__law_word, startD, e1, e2]
  rw [if_pos (by omega)]
  simp
  generalize hR : lcL _ _ _ _ = rr
  obtain ⟨ds, h2, rfl, l3, q3, o2, rfl, ho2⟩ := lc_drawR hR Rm (fun d => ∃ c, d = .str [c] ∧ 97 ≤ c ∧ c ≤ 122) (by
    rintro x _ ⟨o, rfl, ho⟩
    obtain ⟨y, o', ho', y0, y1, e⟩ := r_take F n (h := [o]) (r := 0) (m := 26) rfl ho (by decide) (by decide)
    obtain ⟨c, hc, ec⟩ := ix_str (s := [97, 98, 99, 100, 101, 102, 103, 104, 105, 106, 107, 108, 109, 110, 111, 112, 113, 114, 115, 116, 117, 118, 119, 120, 121, 122]) [o'] (by decide) y0 y1
    refine ⟨_, _, by simp [e, ec], ⟨_, rfl, ho'⟩, c, rfl, ?_⟩
    simp at hc
    omega) ⟨_, rfl, ho1⟩ (by simp; omega)
  obtain ⟨cs, rfl, hcs⟩ := ex_map q3
  simp at l3
  refine ⟨cs, o2, ho2, ⟨by omega, by omega, hcs⟩, ?_⟩
  simp [join_signs (cs := cs) (by simp; omega), ho2.closed]
theorem r_text (F n : Nat) {h : Hh} {r : Nat} {o : O} (hr : h[r]? = some o) (ho : RoomOk o) :
    ∃ s o', RoomOk o' ∧ (s.length ≤ 6 ∧ ∀ c ∈ s, 32 ≤ c ∧ c ≤ 126) ∧ run F (n + 2) ix__law_text [.ref r] h = .ok (.str s) (h.set r o') := by
  rw [run__law_text, own_one (np := 1) (by simp) hr ho.closed rfl]
  obtain ⟨k, o1, ho1, k1, k8, e1⟩ := r_take F n (h := [o]) (r := 0) (m := 7) rfl ho (by decide) (by decide)
  simp [b__law_text, startD, e1]
  rw [if_pos (by omega)]
  simp
  generalize hR : lcL _ _ _ _ = rr
  obtain ⟨ds, h2, rfl, l3, q3, o2, rfl, ho2⟩ := lc_drawR hR Rm (fun d => ∃ c, d = .str [c] ∧ 32 ≤ c ∧ c ≤ 126) (by
    rintro x _ ⟨o, rfl, ho⟩
    obtain ⟨y, o', ho', y0, y1, e⟩ := r_take F n (h := [o]) (r := 0) (m := 17) rfl ho (by decide) (by decide)
    obtain ⟨c, hc, ec⟩ := ix_str (s := [97, 98, 40, 41, 92, 47, 60, 62, 91, 93, 58, 126, 45, 48, 32, 49, 110]) [o'] (by decide) y0 y1
    refine ⟨_, _, by simp [e, ec], ⟨_, rfl, ho'⟩, c, rfl, ?_⟩
    simp at hc
    omega) ⟨_, rfl, ho1⟩ (by simp; omega)
  obtain ⟨cs, rfl, hcs⟩ := ex_map q3
  simp at l3
  refine ⟨cs, o2, ho2, ⟨by omega, hcs⟩, ?_⟩
  simp [join_signs (cs := cs) (by simp; omega), ho2.closed]
theorem r_reference (F n : Nat) {h : Hh} {r : Nat} {o : O} (hr : h[r]? = some o) (ho : RoomOk o) :
    ∃ k e o', RoomOk o' ∧ 1 ≤ k ∧ k ≤ 200 ∧ 0 ≤ e ∧ e ≤ 99 ∧ run F (n + 2) ix__law_reference [.ref r] h = .ok (.tup [.str [116, 111], .int k, .int e]) (h.set r o') := by
  rw [run__law_reference, own_one (np := 1) (by simp) hr ho.closed rfl]
  obtain ⟨x, o1, ho1, x0, x1, e1⟩ := r_take F n (h := [o]) (r := 0) (m := 9) rfl ho (by decide) (by decide)
  obtain ⟨y, o2, ho2, y0, y1, e2⟩ := r_take F n (h := [o1]) (r := 0) (m := 200) rfl ho1 (by decide) (by decide)
  obtain ⟨z, o3, ho3, z0, z1, e3⟩ := r_take F n (h := [o2]) (r := 0) (m := 3) rfl ho2 (by decide) (by decide)
  obtain ⟨u, o4, ho4, u0, u1, e4⟩ := r_take F n (h := [o3]) (r := 0) (m := 4) rfl ho3 (by decide) (by decide)
  obtain ⟨d, hd, e5⟩ := ix_in (ds := [.int (1 + x), .int 200, .int (1 + y)]) (n := 3) rfl z0 (by omega)
  obtain ⟨e, he, e6⟩ := ix_in (ds := [.int 0, .int 0, .int 1, .int 99]) (n := 4) rfl u0 (by omega)
  have hk : ∃ k : Int, d = .int k ∧ 1 ≤ k ∧ k ≤ 200 := by
    simp at hd
    rcases hd with rfl | rfl | rfl <;> exact ⟨_, rfl, by omega, by omega⟩
  have hj : ∃ k : Int, e = .int k ∧ 0 ≤ k ∧ k ≤ 99 := by
    simp at he
    rcases he with rfl | rfl | rfl <;> exact ⟨_, rfl, by omega, by omega⟩
  obtain ⟨k, rfl, k1, k2⟩ := hk
  obtain ⟨j, rfl, j1, j2⟩ := hj
  refine ⟨k, j, o4, ho4, k1, k2, j1, j2, ?_⟩
  simp [b__law_reference, startD, e1, e2, e3, e4, e5, e6, ho4.closed]
end Lw
end
section
set_option linter.all false
set_option autoImplicit false
set_option maxRecDepth 100000
namespace Lw
open Fw Pl
def PlainSpec (F k : Nat) : Prop := ∀ (n : Nat) {h : Hh} {r : Nat} {o : O}, h[r]? = some o → RoomOk o →
    ∃ (v : Vl) (o' : O), RoomOk o' ∧ v.pl ∧ v.deep ≤ k + 1 ∧ v.sz ≤ 4 ^ (k + 1) ∧ run F (n + 2 * k + 3) ix__law_plain [.ref r, .int k] h = .ok v.d (h.set r o')
def EntSpec (F k : Nat) : Prop := ∀ (n : Nat) {h : Hh} {r : Nat} {o : O}, h[r]? = some o → RoomOk o →
    ∃ (es : Es) (o' : O), RoomOk o' ∧ es.length ≤ 3 ∧ rises (es.map (·.1)) ∧ (∀ e ∈ es, WordOk e.1 ∧ e.2.pl ∧ e.2.deep ≤ k + 1 ∧ e.2.sz ≤ 4 ^ (k + 1)) ∧ run F (n + 2 * k + 4) ix__law_entries [.ref r, .int k] h = .ok (.tup (dEnt es)) (h.set r o')
theorem ent_spec {F k : Nat} (hp : PlainSpec F k) : EntSpec F k := by
  intro n h r o hr ho
  rw [run__law_entries, own_one (np := 2) (by simp) hr ho.closed rfl]
  obtain ⟨x, o1, ho1, x0, x1, e1⟩ := r_take F (n + 2 * k + 2) (h := [o, .dct []]) (r := 0) (m := 4) rfl ho (by decide) (by decide)
  simp [b__law_entries, startD, e1]
  rw [if_pos (by omega)]
  simp
  generalize hR : forL _ _ _ _ = rr
  obtain ⟨σ, h2, rfl, a2, o2, es, rfl, rfl, ho2, l2, n2, q2⟩ := for_invLR hR (fun xs σ h => ∃ a o es, σ = [some (.ref 0), some (.int k), some (.ref 1), a, none] ∧ h = [o, .dct (kvE es)] ∧ RoomOk o ∧ es.length + xs.length ≤ 3 ∧ (es.map (·.1)).Nodup ∧ ∀ e ∈ es, WordOk e.1 ∧ e.2.pl ∧ e.2.deep ≤ k + 1 ∧ e.2.sz ≤ 4 ^ (k + 1)) (by
    rintro x xs _ _ ⟨a, o, es, rfl, rfl, ho, hl, hn, hq⟩
    obtain ⟨v, o1, ho1, p1, p2, p3, ev⟩ := hp n (h := [o, .dct (kvE es)]) (r := 0) rfl ho
    obtain ⟨w, o2, ho2, hw, ew⟩ := r_word F (n + 2 * k + 1) (h := [o1, .dct (kvE es)]) (r := 0) rfl ho1
    have hk : (kvE es).length < 16777216 := by simp [kvE]; simp at hl; omega
    refine ⟨[some (.ref 0), some (.int k), some (.ref 1), some x, none], [o2, .dct (kvE (putE w v es))], by simp [ev, ew, hk, put_kvE], _, _, _, rfl, rfl, ho2, ?_, putE_nodup hn, ?_⟩
    · have := putE_len (w := w) (v := v) (es := es)
      simp at hl
      omega
    · intro e he
      rcases putE_mem he with rfl | he
      · exact ⟨hw, p1, p2, p3⟩
      · exact hq e he) ⟨none, o1, [], rfl, rfl, ho1, by simp; omega, by simp, by simp⟩
  have hs := sorted_kvE (h := [o2, .dct (kvE es)]) (n := 1) rfl (by simp at l2; omega : es.length < 64)
  simp [hs]
  generalize hR : lcL _ _ _ _ = rr
  have e3 := lc_mapR hR (fun x => .tup [x, match x with | .str w => ((getE w es).getD .non).d | _ => .non]) (by
    intro x hx
    obtain ⟨w, hw, rfl⟩ := List.mem_map.mp hx
    obtain ⟨v, ev, _⟩ := getE_mem (sortT_mem.mp hw)
    simp [look_kvE, ev]) (by simp at l2 ⊢; omega)
  subst e3
  refine ⟨sortE es, o2, ho2, by simpa using l2, sortE_rises n2, fun a b hab => q2 _ (sortE_mem hab), ?_⟩
  have e4 : (List.map (fun x => D.tup [x, match x with | .str w => ((getE w es).getD .non).d | _ => .non]) ((sortT (es.map (·.1))).map D.str)) = dEnt (sortE es) := by
    rw [dEnt_map, sortE, List.map_map, List.map_map]
    rfl
  simp only [List.nil_append, e4, noX_ok, kLcE_ok, kU_ok, tupleD_lst, opt_some, kRet_ok, SR.then_rt]
  rw [back_cl1 (by simp) ho2.closed]
theorem pow4 (k : Nat) : 1 ≤ 4 ^ k := Nat.one_le_pow _ _ (by decide)
theorem plain_spec (F : Nat) : ∀ k, PlainSpec F k := by
  intro k
  induction k using Nat.strongRecOn with
  | _ k ih =>
  intro n h r o hr ho
  rw [run__law_plain, own_one (np := 2) (by simp) hr ho.closed rfl]
  have hm : ∃ m : Int, 7 ≤ m ∧ m ≤ 11 ∧ (m = 7 ∨ 0 < k) ∧ ((ixn 2 (if 0 < k then 1 else 0)).bind fun j => [D.int 7, D.int 11][j]?) = some (.int m) := by
    by_cases hk : 0 < k
    · exact ⟨11, by decide, by decide, .inr hk, by simp [hk, ixn]⟩
    · exact ⟨7, by decide, by decide, .inl rfl, by simp [hk, ixn]⟩
  obtain ⟨m, m7, m11, mk, hb⟩ := hm
  have hN : ∃ N, N = n + 2 * k := ⟨_, rfl⟩
  obtain ⟨N, hN⟩ := hN
  have p4 := pow4 (k + 1)
  rw [← hN]
  obtain ⟨x, o1, ho1, x0, x1, e1⟩ := r_take F (N + 1) (h := [o]) (r := 0) (m := m) rfl ho (by omega) (by omega)
  simp [b__law_plain, startD, hb, e1]
  by_cases c2 : x < 2
  · obtain ⟨t, o2, ho2, t0, t1, e2⟩ := r_take F (N + 1) (h := [o1]) (r := 0) (m := 1000) rfl ho1 (by decide) (by decide)
    obtain ⟨u, o3, ho3, u0, u1, e3⟩ := r_take F (N + 1) (h := [o2]) (r := 0) (m := 6) rfl ho2 (by decide) (by decide)
    obtain ⟨d, hd, e4⟩ := ix_in (ds := [.int 0, .int (-1), .int 5, .int (t - 500), .int 999999999999999999999999999999, .int (-999999999999999999999999999999)]) (n := 6) rfl u0 (by omega)
    have hj : ∃ j : Int, d = .int j ∧ -1000000000000000000000000000000 < j ∧ j < 1000000000000000000000000000000 := by
      simp at hd
      rcases hd with rfl | rfl | rfl | rfl | rfl | rfl <;> exact ⟨_, rfl, by omega, by omega⟩
    obtain ⟨j, rfl, j0, j1⟩ := hj
    refine ⟨.int j, o3, ho3, ⟨j0, j1⟩, by simp [Vl.deep], by simp [Vl.sz]; omega, ?_⟩
    simp [c2, e2, e3, e4, Vl.d, ho3.closed]
  by_cases c3 : x = 2
  · subst c3
    refine ⟨.non, o1, ho1, trivial, by simp [Vl.deep], by simp [Vl.sz]; omega, ?_⟩
    simp [Vl.d, ho1.closed]
  by_cases c4 : x = 3
  · subst c4
    obtain ⟨s, o2, ho2, hs, e2⟩ := r_text F N (h := [o1]) (r := 0) rfl ho1
    refine ⟨.str s, o2, ho2, ⟨by omega, hs.2⟩, by simp [Vl.deep], by simp [Vl.sz]; omega, ?_⟩
    simp [e2, Vl.d, ho2.closed]
  by_cases c5 : x = 4
  · subst c5
    obtain ⟨s, o2, ho2, hs, e2⟩ := r_word F N (h := [o1]) (r := 0) rfl ho1
    refine ⟨.name s, o2, ho2, hs, by simp [Vl.deep], by simp [Vl.sz]; omega, ?_⟩
    simp [e2, Vl.d, ho2.closed]
  by_cases c6 : x < 7
  · obtain ⟨a, e, o2, ho2, a0, a1, b0, b1, e2⟩ := r_reference F N (h := [o1]) (r := 0) rfl ho1
    refine ⟨.to a e, o2, ho2, ⟨a0, a1, b0, b1⟩, by simp [Vl.deep], by simp [Vl.sz]; omega, ?_⟩
    simp [e2, Vl.d, ho2.closed, c2, c3, c4, c5, c6]
  have kp : 0 < k := by omega
  obtain ⟨j, rfl⟩ : ∃ j, k = j + 1 := ⟨k - 1, by omega⟩
  have ihj := ih j (by omega)
  have hj : ((j + 1 : Nat) : Int) - 1 = (j : Int) := by omega
  have p5 : 4 ^ (j + 1 + 1) = 4 * 4 ^ (j + 1) := by rw [Nat.pow_succ]; omega
  by_cases c7 : x < 9
  · obtain ⟨t, o2, ho2, t0, t1, e2⟩ := r_take F (N + 1) (h := [o1]) (r := 0) (m := 4) rfl ho1 (by decide) (by decide)
    simp [c2, c3, c4, c5, c6, c7, e2]
    rw [if_pos (by omega)]
    simp
    generalize hR : lcL _ _ _ _ = rr
    obtain ⟨ds, h2, rfl, l3, q3, o3, rfl, ho3⟩ := lc_drawR hR Rm (fun d => ∃ v : Vl, d = v.d ∧ v.pl ∧ v.deep ≤ j + 1 ∧ v.sz ≤ 4 ^ (j + 1)) (by
      rintro y _ ⟨o, rfl, ho⟩
      obtain ⟨v, o', ho', v1, v2, v3, e⟩ := ihj (n + 1) (h := [o]) (r := 0) rfl ho
      have hn : N + 2 = n + 1 + 2 * j + 3 := by omega
      rw [← hn] at e
      exact ⟨_, _, by simp [e], ⟨_, rfl, ho'⟩, v, rfl, v1, v2, v3⟩) ⟨_, rfl, ho2⟩ (by simp; omega)
    obtain ⟨vs, rfl, hvs⟩ := ex_map q3
    simp at l3
    refine ⟨.row vs, o3, ho3, ⟨by omega, plAll_iff.mpr fun v hv => (hvs v hv).1⟩, ?_, ?_, ?_⟩
    · have := deepAll_le fun v hv => (hvs v hv).2.1
      simp [Vl.deep]; omega
    · have q := sum_le fun v hv => (hvs v hv).2.2
      have : vs.length * 4 ^ (j + 1) ≤ 3 * 4 ^ (j + 1) := Nat.mul_le_mul_right _ (by omega)
      have := pow4 (j + 1)
      simp only [Vl.sz, szAll_sum]
      omega
    · rw [← dAll_map]
      simp [Vl.d, ho3.closed]
  · obtain ⟨es, o2, ho2, l2, s2, q2, e2⟩ := ent_spec ihj n (h := [o1]) (r := 0) rfl ho1
    have hn : N + 2 = n + 2 * j + 4 := by omega
    rw [← hn] at e2
    simp [c2, c3, c4, c5, c6, c7, e2]
    refine ⟨.table es, o2, ho2, ⟨by omega, s2, plEnt_iff.mpr fun e he => ⟨(q2 e he).1, (q2 e he).2.1⟩⟩, ?_, ?_, ?_⟩
    · have := deepEnt_le fun e he => (q2 e he).2.2.1
      simp [Vl.deep]; omega
    · have q := sum_le (l := es.map (·.2)) (k := 4 ^ (j + 1)) (by
        intro v hv
        obtain ⟨e, he, rfl⟩ := List.mem_map.mp hv
        exact (q2 e he).2.2.2)
      have : (es.map (·.2)).length * 4 ^ (j + 1) ≤ 3 * 4 ^ (j + 1) := Nat.mul_le_mul_right _ (by simpa using l2)
      have := pow4 (j + 1)
      simp only [Vl.sz, szEnt_sum]
      omega
    · simp [Vl.d, ho2.closed]
end Lw
end
section
set_option linter.all false
set_option autoImplicit false
set_option maxRecDepth 100000
namespace Lw
open Fw Pl
theorem r_whole (F n : Nat) (d : D) (h : Hh) (p : D.pure d = true) : run F (n + 1) ix_is_whole [d] h = .ok (.bl (wholeD d)) h := by
  rw [run_is_whole, own_closed (np := 1) (by simp [pure_closed p]) rfl]
  cases d <;> first | (simp [D.pure] at p; done) | simp [b_is_whole, startD, isT, ty1, isOf, wholeD]
theorem r_from (F n : Nat) (d : D) (a b : Int) (h : Hh) (p : D.pure d = true) : run F (n + 2) ix_is_from [d, .int a, .int b] h = .ok (.bl (fromD a b d)) h := by
  rw [run_is_from, own_closed (np := 3) (by simp [pure_closed p]) rfl]
  cases d with
  | int i =>
    by_cases h1 : a ≤ i <;> simp [b_is_from, startD, r_whole, wholeD, fromD, h1]
  | _ => first | (simp [D.pure] at p; done) | simp [b_is_from, startD, r_whole _ _ _ _ p, wholeD, fromD]
theorem r_number (F n : Nat) (d : D) (h : Hh) (p : D.pure d = true) : run F (n + 3) ix_is_number [d] h = .ok (.bl (fromD 1 200 d)) h := by
  rw [run_is_number, own_closed (np := 1) (by simp [pure_closed p]) rfl]
  simp [b_is_number, startD, r_from _ _ _ _ _ _ p]
theorem r_edition (F n : Nat) (d : D) (h : Hh) (p : D.pure d = true) : run F (n + 3) ix_is_edition [d] h = .ok (.bl (fromD 0 99 d)) h := by
  rw [run_is_edition, own_closed (np := 1) (by simp [pure_closed p]) rfl]
  simp [b_is_edition, startD, r_from _ _ _ _ _ _ p]
def kindD (t : Tx) : D → Bool
  | .str w => decide (w = t)
  | _ => false
theorem r_kind (F n : Nat) (d : D) (t : Tx) (ds : List D) (h : Hh) (p : D.pure d = true) (q : pureAll ds = true) : run F (n + 1) ix_is_kind [.tup (d :: ds), .str t] h = .ok (.bl (kindD t d)) h := by
  rw [run_is_kind, own_closed (np := 2) (by simp [pure_closed p, pureAll_closed q]) rfl]
  cases d <;> first | (simp [D.pure] at p; done) | simp [b_is_kind, startD, isT, ty1, isOf, kindD, ixn]
/-- whether a thing is a reference -/
def isTo : D → Bool
  | .tup [w, k, e] => kindD wTo w && (fromD 1 200 k && fromD 0 99 e)
  | _ => false
theorem r_isref (F n : Nat) (d : D) (h : Hh) (p : D.pure d = true) : run F (n + 4) ix_is_reference [d] h = .ok (.bl (isTo d)) h := by
  rw [run_is_reference, own_closed (np := 1) (by simp [pure_closed p]) rfl]
  have nt : isTupD d = false → isTo d = false := by
    intro q
    cases d <;> first | rfl | simp [isTupD] at q
  by_cases ht : isTupD d = true
  · obtain ⟨ds, rfl⟩ : ∃ ds, d = .tup ds := by cases d <;> first | exact ⟨_, rfl⟩ | simp [isTupD] at ht
    match ds, p with
    | [w, k, e], p =>
      simp at p
      have h1 := r_kind F (n + 2) w wTo [k, e] [] p.1 (by simp [p.2.1, p.2.2])
      have h2 := r_number F n k [] p.2.1
      have h3 := r_edition F n e [] p.2.2
      by_cases c1 : kindD wTo w = true
      · by_cases c2 : fromD 1 200 k = true
        · simp [b_is_reference, startD, isT_tup, p, h1, h2, h3, isTo, c1, c2, ixn]
        · simp [b_is_reference, startD, isT_tup, p, h1, h2, h3, isTo, c1, c2, ixn]
      · simp [b_is_reference, startD, isT_tup, p, h1, h2, h3, isTo, c1, ixn]
    | [], p => simp [b_is_reference, startD, isT_tup, isTo]
    | [_], p => simp [b_is_reference, startD, isT_tup p, isTo]
    | [_, _], p => simp [b_is_reference, startD, isT_tup p, isTo]
    | _ :: _ :: _ :: _ :: l, p =>
      have : ¬ (l.length + 1 + 1 + 1 + 1 : Int) = 3 := by omega
      simp [b_is_reference, startD, isT_tup p, isTo, this]
  · simp [b_is_reference, startD, isT_tup p, nt, ht]
end Lw
end
section
set_option linter.all false
set_option autoImplicit false
set_option maxRecDepth 100000
namespace Lw
open Fw Pl
theorem r_parts (F n : Nat) (v : Vl) (h : Hh) (hl : v.parts.length ≤ line) : run F (n + 1) ix_parts_of [v.d] h = .ok (.lst (dAll v.parts)) h := by
  rw [run_parts_of, own_closed (np := 1) (by simp) rfl]
  have key : ∀ (es : Es) (d : D), es.length ≤ line → lcL (lcStep (eV 2) (.tp [.nm 1, .nm 2]) bYes [1, 2] [some d, none, none]) (dEnt es) [] [] = .ok (dAll (es.map (·.2))) [] := by
    intro es d hl
    rw [lc_map (f := sndD) (by
      intro x hx
      rw [dEnt_map] at hx
      obtain ⟨e, _, rfl⟩ := List.mem_map.mp hx
      simp) (by simpa [dEnt_map] using hl), ent_map]
    simp
  cases v with
  | table es => simp [b_parts_of, startD, isT, ty1, isOf, Vl.d, ixn, isMem, scalar, Vl.parts, key es _ (by simpa [Vl.parts] using hl), D.eqv]
  | stream es s => simp [b_parts_of, startD, isT, ty1, isOf, Vl.d, ixn, isMem, scalar, Vl.parts, key es _ (by simpa [Vl.parts] using hl), D.eqv]
  | _ => simp [b_parts_of, startD, isT, ty1, isOf, Vl.d, ixn, isMem, scalar, Vl.parts, dAll, D.eqv]
end Lw
namespace Lw
open Fw Pl
theorem toD_map (q : Int × Int) : toD q = (Vl.to q.1 q.2).d := rfl
@[simp] theorem cl_toD (l : List (Int × Int)) : closedAll (l.map toD) = true := closed_toD l
@[simp] theorem pure_toD (l : List (Int × Int)) : pureAll (l.map toD) = true := by
  refine pureA_iff.mpr fun d hd => ?_
  obtain ⟨q, _, rfl⟩ := List.mem_map.mp hd
  exact Vl.dpure (.to q.1 q.2)
theorem refs_len' (v : Vl) : v.refs.length ≤ v.sz := refs_len v.sz v (Nat.le_refl _)
/-- two clauses, the second over a list that a def tells of the first's -/
theorem lc2_flat {f : D → List D} {step : D → List D → Hh → R (List D)} {h : Hh} : ∀ {xs acc : List D}, (∀ x ∈ xs, ∀ acc, acc.length + (f x).length ≤ line → step x acc h = .ok (acc ++ f x) h) → acc.length + (xs.map f).flatten.length ≤ line → lcL2 step xs acc h = .ok (acc ++ (xs.map f).flatten) h := by
  intro xs
  induction xs with
  | nil => intro acc _ _; simp [lcL2]
  | cons x xs ih =>
    intro acc hs hl
    rw [List.map_cons, List.flatten_cons, List.length_append] at hl
    simp only [lcL2, hs x List.mem_cons_self acc (by omega), R.bind_ok]
    rw [ih (fun y hy => hs y (List.mem_cons_of_mem _ hy)) (by rw [List.length_append]; omega)]
    simp
theorem flat_refs (vs : List Vl) : ((vs.map fun p => p.refs.map toD)).flatten = (vs.map Vl.refs).flatten.map toD := by
  induction vs with
  | nil => rfl
  | cons v vs ih => simp [ih]
def unD (d : D) : Option Vl := none
theorem r_refs (F : Nat) : ∀ (m : Nat) (v : Vl) (n : Nat) (h : Hh), v.deep ≤ m → v.sz ≤ line → run F (n + m + 1) ix_references [v.d] h = .ok (.lst (v.refs.map toD)) h := by
  intro m
  induction m with
  | zero => intro v n h hm; have := deep_pos v; omega
  | succ m ih =>
    intro v n h hm hl
    rw [run_references, own_closed (np := 1) (by simp) rfl]
    by_cases hv : ∃ k e, v = .to k e
    · obtain ⟨k, e, rfl⟩ := hv
      simp [b_references, startD, isT, ty1, isOf, Vl.d, ixn, Vl.refs, toD]
    · have hr := refs_parts v (fun k e q => hv ⟨k, e, q⟩)
      have hp := r_parts F (n + m) v [] (Nat.le_trans (parts_len v) hl)
      have hall : ∀ p ∈ v.parts, run F (n + m + 1) ix_references [p.d] [] = .ok (.lst (p.refs.map toD)) [] := fun p hp => ih p n [] (by have := part_deep hp; omega) (by have := part_sz hp; omega)
      have cond : bAnd (bT (eU (isT (isOf .tup)) (eV 0))) (bCmp .eq (eIx (eV 0) (eC (.int 0))) (eC (.str [116, 111]))) [some v.d, none, none] [] = .ok false [] := by
        cases v with
        | to k e => exact absurd ⟨k, e, rfl⟩ hv
        | _ => simp [isT, ty1, isOf, Vl.d, ixn]
      have fin : lcL2 (lcStep2 (eV 2) (.nm 1) bYes (.nm 2) .e (aCons (eCall (fun ds h => run F (n + m + 1) ix_references ds h) (aCons (eV 1) aNil)) aNil) bYes [1, 2] [2] [some v.d, none, none]) (dAll v.parts) [] [] = .ok (v.refs.map toD) [] := by
        have hlen := refs_len' v
        have ef : ((dAll v.parts).map fun d => match run F (n + m + 1) ix_references [d] [] with | .ok (.lst ds) _ => ds | _ => []).flatten = v.refs.map toD := by
          rw [hr, dAll_map, List.map_map, ← flat_refs]
          congr 1
          apply List.map_congr_left
          intro p hp
          simp [hall p hp]
        rw [lc2_flat (f := fun d => match run F (n + m + 1) ix_references [d] [] with | .ok (.lst ds) _ => ds | _ => []), ef]
        · simp
        · intro x hx acc ha
          rw [dAll_map] at hx
          obtain ⟨p, hp, rfl⟩ := List.mem_map.mp hx
          simp only [hall p hp] at ha
          simp [lcStep2, hall p hp]
          rw [lc_map (f := id)]
          · simp
          · intro x _; simp
          · exact ha
        · rw [ef]; simp at hl ⊢; omega
      have hn : n + (m + 1) = n + m + 1 := rfl
      rw [hn]
      simp only [b_references, startD, sCons_eq, kIf_eq, List.map_cons, List.map_nil, List.length_cons, List.length_nil, List.append_nil]
      show back [] h (((kIf _ _ [some v.d, none, none] (bAnd _ _ [some v.d, none, none] [])).then_ _)) = _
      rw [cond]
      simp [hp, fin]
end Lw
end
section
set_option linter.all false
set_option autoImplicit false
set_option maxRecDepth 100000
namespace Lw
open Fw Pl
theorem r_lrefs (F : Nat) : ∀ (m : Nat) (v : Vl) (n : Nat) (h : Hh), v.deep ≤ m → v.sz ≤ line → run F (n + m + 1) ix__law_references [v.d] h = .ok (.lst (v.refs.map toD)) h := by
  intro m
  induction m with
  | zero => intro v n h hm; have := deep_pos v; omega
  | succ m ih =>
    intro v n h hm hl
    rw [run__law_references, own_closed (np := 1) (by simp) rfl]
    have hn : n + (m + 1) = n + m + 1 := rfl
    rw [hn]
    have hall : ∀ p ∈ v.parts, run F (n + m + 1) ix__law_references [p.d] [] = .ok (.lst (p.refs.map toD)) [] := fun p hp => ih p n [] (by have := part_deep hp; omega) (by have := part_sz hp; omega)
    have loop : (∀ k e, v ≠ .to k e) → ∀ (a c d : Option D) {rr : SR}, forL (forB (.nm 3) (sCons (sSet 2 (eBin .add (eV 2) (eCall (fun ds h => run F (n + m + 1) ix__law_references ds h) (aCons (eV 3) aNil)))) sNil)) (dAll v.parts) [some v.d, a, some (.lst []), c, d] [] = rr →
        ∃ c', rr = .nx [some v.d, a, some (.lst (v.refs.map toD)), c', d] [] := by
      intro hv a c d rr hR
      have hr := refs_parts v hv
      obtain ⟨σ, h2, rfl, ps, acc, c', e1, _, e2, rfl, rfl⟩ := for_invLR hR (fun xs σ h => ∃ (ps : List Vl) (acc : List (Int × Int)) (c : Option D), xs = dAll ps ∧ (∀ p ∈ ps, p ∈ v.parts) ∧ acc ++ (ps.map Vl.refs).flatten = v.refs ∧ h = [] ∧ σ = [some v.d, a, some (.lst (acc.map toD)), c, d]) (by
        rintro x xs _ _ ⟨ps, acc, c, e1, hm, e2, rfl, rfl⟩
        cases ps with
        | nil => cases e1
        | cons p ps =>
          simp only [dAll, List.cons.injEq] at e1
          obtain ⟨rfl, rfl⟩ := e1
          have hp := hall p (hm p List.mem_cons_self)
          have hlen := refs_len' v
          simp only [List.map_cons, List.flatten_cons] at e2
          have : acc.length + p.refs.length ≤ 16777216 := by
            have := congrArg List.length e2
            simp at this hl
            omega
          refine ⟨[some v.d, a, some (.lst ((acc ++ p.refs).map toD)), some p.d, d], [], by simp [hp, this], ps, acc ++ p.refs, _, rfl, fun q hq => hm q (List.mem_cons_of_mem _ hq), by simpa using e2, rfl, rfl⟩) ⟨v.parts, [], c, rfl, fun p hp => hp, by simpa using hr.symm, rfl, rfl⟩
      cases ps with
      | cons p ps => cases e1
      | nil =>
        simp at e2
        subst e2
        exact ⟨c', rfl⟩
    have hpl : v.parts.length ≤ line := Nat.le_trans (parts_len v) hl
    have key : ∀ (es : Es) (a : D), es.length ≤ line → lcL (lcStep (eV 3) (.tp [.nm 4, .nm 3]) bYes [4, 3] [some a, some (.lst (dEnt es)), none, none, none]) (dEnt es) [] [] = .ok (dAll (es.map (·.2))) [] := by
      intro es d hl
      rw [lc_map (f := sndD) (by
        intro x hx
        rw [dEnt_map] at hx
        obtain ⟨e, _, rfl⟩ := List.mem_map.mp hx
        simp) (by simpa [dEnt_map] using hl), ent_map]
      simp
    cases v with
    | row vs =>
      simp [b__law_references, startD, isT, ty1, isOf, Vl.d, ixn]
      generalize hR : forL _ _ _ _ = rr
      obtain ⟨c', rfl⟩ := loop (fun k e h => by cases h) _ _ _ hR
      simp
    | table es =>
      simp [b__law_references, startD, isT, ty1, isOf, Vl.d, ixn, key es _ (by simpa [Vl.parts] using hpl)]
      generalize hR : forL _ _ _ _ = rr
      obtain ⟨c', rfl⟩ := loop (fun k e h => by cases h) _ _ _ hR
      simp
    | stream es s =>
      simp [b__law_references, startD, isT, ty1, isOf, Vl.d, ixn, key es _ (by simpa [Vl.parts] using hpl)]
      generalize hR : forL _ _ _ _ = rr
      obtain ⟨c', rfl⟩ := loop (fun k e h => by cases h) _ _ _ hR
      simp
    | _ => simp [b__law_references, startD, isT, ty1, isOf, Vl.d, ixn, Vl.refs, toD]
end Lw
end
section
set_option linter.all false
set_option autoImplicit false
set_option maxRecDepth 100000
namespace Lw
open Fw Pl
def zipWith' (qs : List (Int × Int)) : Es := [[97], [98], [99]].zip (qs.map fun q => Vl.to q.1 q.2)
theorem r_holding (F n : Nat) {h : Hh} {r : Nat} {o : O} {m : Int} (hr : h[r]? = some o) (ho : RoomOk o) (m0 : 1 ≤ m) (m1 : m ≤ 9) :
    ∃ (v : Vl) (o' : O), RoomOk o' ∧ v.deep ≤ 3 ∧ v.sz ≤ 100 ∧ run F (n + 2) ix__law_holding [.ref r, .int m] h = .ok v.d (h.set r o') := by
  rw [run__law_holding, own_one (np := 2) (by simp) hr ho.closed rfl]
  obtain ⟨x, o1, ho1, x0, x1, e1⟩ := r_take F n (h := [o]) (r := 0) (m := 4) rfl ho (by decide) (by decide)
  simp [b__law_holding, startD, e1]
  rw [if_pos (by omega)]
  simp
  generalize hR : lcL _ _ _ _ = rr
  obtain ⟨ds, h2, rfl, l3, q3, o2, rfl, ho2⟩ := lc_drawR hR Rm (fun d => ∃ q : Int × Int, d = toD q ∧ True) (by
    rintro y _ ⟨o, rfl, ho⟩
    obtain ⟨a, o1, ho1, a0, a1, e1⟩ := r_take F n (h := [o]) (r := 0) (m := m + 1) rfl ho (by omega) (by omega)
    obtain ⟨b, o2, ho2, b0, b1, e2⟩ := r_take F n (h := [o1]) (r := 0) (m := 3) rfl ho1 (by omega) (by omega)
    obtain ⟨d, hd, e5⟩ := ix_in (ds := [.int 0, .int 0, .int 1]) (n := 3) rfl b0 (by omega)
    have hj : ∃ k : Int, d = .int k := by
      simp at hd
      rcases hd with rfl | rfl | rfl <;> exact ⟨_, rfl⟩
    obtain ⟨k, rfl⟩ := hj
    exact ⟨toD (1 + a, k), _, by simp [e1, e2, e5, toD], ⟨_, rfl, ho2⟩, (1 + a, k), rfl, trivial⟩) ⟨_, rfl, ho1⟩ (by simp; omega)
  obtain ⟨qs, rfl, -⟩ := ex_map q3
  simp at l3
  obtain ⟨y, o3, ho3, y0, y1, e3⟩ := r_take F n (h := [o2]) (r := 0) (m := 4) rfl ho2 (by decide) (by decide)
  simp [e3]
  have : y = 0 ∨ y = 1 ∨ y = 2 ∨ y = 3 := by omega
  have hq : qs = [] ∨ (∃ a, qs = [a]) ∨ (∃ a b, qs = [a, b]) ∨ (∃ a b c, qs = [a, b, c]) := by
    match qs, l3 with
    | [], _ => exact .inl rfl
    | [a], _ => exact .inr (.inl ⟨_, rfl⟩)
    | [a, b], _ => exact .inr (.inr (.inl ⟨_, _, rfl⟩))
    | [a, b, c], _ => exact .inr (.inr (.inr ⟨_, _, _, rfl⟩))
    | _ :: _ :: _ :: _ :: l, l3 => simp at l3; omega
  clear l3 hR q3 e1
  rcases this with rfl | rfl | rfl | rfl
  · refine ⟨.row (qs.map (fun q => .to q.1 q.2) ++ [.int 5, .str [97]]), o3, ho3, ?_, ?_, ?_⟩
    all_goals rcases hq with rfl | ⟨a, rfl⟩ | ⟨a, b, rfl⟩ | ⟨a, b, c, rfl⟩ <;> simp [Vl.deep, deepAll, Vl.sz, szAll, Vl.d, dAll, toD, ho3.closed]
  · refine ⟨.row ([.row (qs.map (fun q => .to q.1 q.2)), .non] ++ (qs.map (fun q => Vl.to q.1 q.2)).take 1), o3, ho3, ?_, ?_, ?_⟩
    all_goals rcases hq with rfl | ⟨a, rfl⟩ | ⟨a, b, rfl⟩ | ⟨a, b, c, rfl⟩ <;> simp [Vl.deep, deepAll, Vl.sz, szAll, Vl.d, dAll, toD, ho3.closed, slice, cut, six]
  · refine ⟨.table (zipWith' qs), o3, ho3, ?_, ?_, ?_⟩
    all_goals rcases hq with rfl | ⟨a, rfl⟩ | ⟨a, b, rfl⟩ | ⟨a, b, c, rfl⟩ <;> simp [Vl.deep, deepEnt, Vl.sz, szEnt, Vl.d, dEnt, toD, ho3.closed, zipWith', zipD, lcL_cons, ixn]
  · refine ⟨.stream (zipWith' qs) [49, 58, 48], o3, ho3, ?_, ?_, ?_⟩
    all_goals rcases hq with rfl | ⟨a, rfl⟩ | ⟨a, b, rfl⟩ | ⟨a, b, c, rfl⟩ <;> simp [Vl.deep, deepEnt, Vl.sz, szEnt, Vl.d, dEnt, toD, ho3.closed, zipWith', zipD, lcL_cons, ixn]
end Lw
end
section
set_option linter.all false
set_option autoImplicit false
set_option maxRecDepth 100000
namespace Lw
open Fw Pl
abbrev Th := List (Int × Int × Vl)
def kvT (ts : Th) : List (K1 × D) := ts.map fun t => (.inl t.1, .tup [.int t.2.1, t.2.2.d])
@[simp] theorem kvT_cl (ts : Th) : closedK (kvT ts) = true := by
  induction ts with
  | nil => simp [kvT]
  | cons t ts ih => simp only [kvT, List.map_cons, cl_kcons] at ih ⊢; simp [ih]
def findT (k : Int) (ts : Th) : Option (Int × Vl) := (ts.find? fun t => decide (t.1 = k)).map (·.2)
theorem look_kvT (k : Int) (ts : Th) : look (.inl k) (kvT ts) = (findT k ts).map fun q => .tup [.int q.1, q.2.d] := by
  induction ts with
  | nil => rfl
  | cons t ts ih =>
    simp only [kvT, List.map_cons, look, findT, List.find?_cons] at ih ⊢
    by_cases q : t.1 = k
    · simp [q]
    · simp only [q, decide_false, Sum.inl.injEq, if_false, ih]
theorem any_kvT (k : Int) (ts : Th) : ((kvT ts).any fun q => decide (q.1 = .inl k)) = (findT k ts).isSome := by
  induction ts with
  | nil => rfl
  | cons t ts ih =>
    simp only [kvT, List.map_cons, List.any_cons, findT, List.find?_cons] at ih ⊢
    by_cases q : t.1 = k
    · simp [q]
    · simp only [q, decide_false, Sum.inl.injEq, Bool.false_or, ih]
theorem findT_mem {k : Int} {ts : Th} {q : Int × Vl} (h : findT k ts = some q) : (k, q) ∈ ts := by
  unfold findT at h
  cases e : ts.find? fun t => decide (t.1 = k) with
  | none => rw [e] at h; cases h
  | some t =>
    rw [e] at h
    have h1 := List.find?_some e
    have h2 := List.mem_of_find?_eq_some e
    simp at h h1
    subst h1; subst h
    exact h2
/-- things as the law makes them -/
structure ThOk (ts : Th) : Prop where
  len : ts.length ≤ 9
  ok : ∀ t ∈ ts, 1 ≤ t.1 ∧ t.1 ≤ 9 ∧ 0 ≤ t.2.1 ∧ t.2.1 ≤ 1 ∧ t.2.2.deep ≤ 3 ∧ t.2.2.sz ≤ 100
def rootD (q : Option (Int × Int)) : D := match q with
  | none => .non
  | some q => toD q
def book (ts : Th) (q : Option (Int × Int)) : D := .obj 0 [(0, .dct (kvT ts)), (1, .dct []), (2, rootD q)]
@[simp] theorem rootD_cl (q : Option (Int × Int)) : (rootD q).closed = true := by
  cases q <;> simp [rootD, toD]
@[simp] theorem book_cl (ts : Th) (q : Option (Int × Int)) : (book ts q).closed = true := by simp [book, D.closed, closedF]
@[simp] theorem asObj_book (h : Hh) (ts : Th) (q : Option (Int × Int)) : asObj h (book ts q) = some (0, [(0, .dct (kvT ts)), (1, .dct []), (2, rootD q)]) := rfl
@[simp] theorem mem_int (h : Hh) (k : Int) (ts : Th) : cmpop h .notin (.int k) (.dct (kvT ts)) = some (!(findT k ts).isSome) := by
  show (isMem h (.int k) (.dct (kvT ts))).map (!·) = _
  simp [isMem, key1, any_kvT]
@[simp] theorem mem_int' (h : Hh) (k : Int) (ts : Th) : cmpop h .in_ (.int k) (.dct (kvT ts)) = some (findT k ts).isSome := by
  show isMem h (.int k) (.dct (kvT ts)) = _
  simp [isMem, key1, any_kvT]
@[simp] theorem index_dcti (h : Hh) (k : Int) (kvs : List (K1 × D)) : index h (.dct kvs) (.int k) = look (.inl k) kvs := by simp [index, asSeq]
def edD (ts : Th) (k : Int) : D := match findT k ts with
  | some q => .int q.1
  | none => .non
theorem r_bedition (F n : Nat) (ts : Th) (q : Option (Int × Int)) (k : Int) (h : Hh) (ht : ThOk ts) : run F (n + 4) ix_Book_edition [book ts q, .int k] h = .ok (edD ts k) h := by
  rw [run_Book_edition, own_closed (np := 2) (by simp) rfl]
  have e1 := r_number F n (.int k) [] (by simp)
  cases e : findT k ts with
  | none =>
    by_cases c : fromD 1 200 (.int k) = true
    · simp [b_Book_edition, startD, e1, c, edD, e]
    · simp [b_Book_edition, startD, e1, c, edD, e]
  | some q =>
    have m := ht.ok _ (findT_mem e)
    have c : fromD 1 200 (.int k) = true := by simp [fromD]; omega
    simp [b_Book_edition, startD, e1, c, edD, e, look_kvT, ixn, List.lookup]
/-- whether a reference leads -/
def leadB (ts : Th) (q : Int × Int) : Bool := match findT q.1 ts with
  | some e => decide (e.1 = q.2)
  | none => false
theorem isTo_to (q : Int × Int) : isTo (toD q) = (decide (1 ≤ q.1) && decide (q.1 ≤ 200) && (decide (0 ≤ q.2) && decide (q.2 ≤ 99))) := by
  simp [isTo, toD, kindD, fromD]
theorem r_leads (F n : Nat) (ts : Th) (q : Option (Int × Int)) (z : Int × Int) (h : Hh) (ht : ThOk ts) : run F (n + 5) ix_Book_leads [book ts q, toD z] h = .ok (.bl (leadB ts z)) h := by
  rw [run_Book_leads, own_closed (np := 2) (by simp [toD]) rfl]
  have e1 := r_isref F n (toD z) [] (Vl.dpure (.to z.1 z.2))
  have e2 := r_bedition F n ts q z.1 [] ht
  cases e : findT z.1 ts with
  | none =>
    by_cases c : isTo (toD z) = true
    · rw [c] at e1
      simp [b_Book_leads, startD, e1, edD, e, e2, leadB, toD, ixn, eqD_ni]
      simp [toD] at e1
      simp [e1, ixn, e2, edD, e]
    · simp at c
      rw [c] at e1
      simp [b_Book_leads, startD, e1, leadB, e]
  | some p =>
    have m := ht.ok _ (findT_mem e)
    by_cases c : p.1 = z.2
    · have c' : isTo (toD z) = true := by rw [isTo_to]; simp at m ⊢; omega
      rw [c'] at e1
      simp [toD] at e1
      simp [b_Book_leads, startD, e1, edD, e, e2, leadB, toD, ixn, c]
    · by_cases c' : isTo (toD z) = true
      · rw [c'] at e1
        simp [toD] at e1
        simp [b_Book_leads, startD, e1, edD, e, e2, leadB, toD, ixn, c]
      · simp at c'
        rw [c'] at e1
        simp [b_Book_leads, startD, e1, leadB, e, c]
theorem r_leadsN (F n : Nat) (ts : Th) (q : Option (Int × Int)) (h : Hh) : run F (n + 5) ix_Book_leads [book ts q, .non] h = .ok (.bl false) h := by
  rw [run_Book_leads, own_closed (np := 2) (by simp) rfl]
  have e1 := r_isref F n .non [] (by simp)
  simp [isTo] at e1
  simp [b_Book_leads, startD, e1]
def leadO (ts : Th) : Option (Int × Int) → Bool
  | none => false
  | some z => leadB ts z
theorem r_leadsO (F n : Nat) (ts : Th) (q z : Option (Int × Int)) (h : Hh) (ht : ThOk ts) : run F (n + 5) ix_Book_leads [book ts q, rootD z] h = .ok (.bl (leadO ts z)) h := by
  cases z with
  | none => exact r_leadsN F n ts q h
  | some z => exact r_leads F n ts q z h ht
/-- one reference is met -/
def meet1 (ts : Th) (found : List Int) (z : Option (Int × Int)) : List Int := match z with
  | none => found
  | some z => if leadB ts z = true ∧ z.1 ∉ found then found ++ [z.1] else found
def meets (ts : Th) (found : List Int) (zs : List (Option (Int × Int))) : List Int := zs.foldl (meet1 ts) found
/-- what is found -/
structure Found (ts : Th) (l : List Int) : Prop where
  nd : l.Nodup
  sub : ∀ k ∈ l, (findT k ts).isSome = true
theorem nodup_len : ∀ {l k : List Int}, l.Nodup → (∀ x ∈ l, x ∈ k) → l.length ≤ k.length := by
  intro l
  induction l with
  | nil => intro k _ _; simp
  | cons x l ih =>
    intro k hn hs
    have hx := hs x List.mem_cons_self
    have hn' := List.nodup_cons.mp hn
    have := ih (k := k.erase x) hn'.2 (fun y hy => by
      have : y ≠ x := fun e => hn'.1 (e ▸ hy)
      exact (List.mem_erase_of_ne this).mpr (hs y (List.mem_cons_of_mem _ hy)))
    rw [List.length_erase_of_mem hx] at this
    have : 0 < k.length := List.length_pos_of_mem hx
    simp
    omega
theorem Found.len {ts : Th} {l : List Int} (h : Found ts l) : l.length ≤ ts.length := by
  have := nodup_len (k := ts.map (·.1)) h.nd fun x hx => by
    obtain ⟨q, hq⟩ := Option.isSome_iff_exists.mp (h.sub x hx)
    exact List.mem_map.mpr ⟨_, findT_mem hq, rfl⟩
  simpa using this
theorem Found.meet1 {ts : Th} {l : List Int} (h : Found ts l) (z : Option (Int × Int)) : Found ts (meet1 ts l z) := by
  unfold Lw.meet1
  cases z with
  | none => exact h
  | some z =>
    simp only
    split
    · rename_i c
      refine ⟨List.nodup_append.mpr ⟨h.nd, by simp, ?_⟩, ?_⟩
      · intro a ha b hb e
        rw [List.mem_singleton] at hb
        subst e; subst hb
        exact c.2 ha
      · intro k hk
        rcases List.mem_append.mp hk with hk | hk
        · exact h.sub k hk
        · rw [List.mem_singleton.mp hk]
          have := c.1
          unfold leadB at this
          cases e : findT z.1 ts with
          | none => rw [e] at this; cases this
          | some _ => rfl
    · exact h
theorem Found.meets {ts : Th} {zs : List (Option (Int × Int))} : ∀ {l : List Int}, Found ts l → Found ts (meets ts l zs) := by
  induction zs with
  | nil => intro l h; exact h
  | cons z zs ih => intro l h; exact ih (h.meet1 z)
theorem mem_refints {h : Hh} {n : Nat} {ks : List Int} (k : Int) (e : h[n]? = some (.lst (ks.map .int))) : cmpop h .notin (.int k) (.ref n) = some (!decide (k ∈ ks)) := by
  show (isMem h (.int k) (.ref n)).map (!·) = _
  have : isMem h (.int k) (.ref n) = some (decide (k ∈ ks)) := by
    have a : ((ks.map D.int).all scalar) = true := by simp [scalar]
    simp only [isMem, asDct_refl e, asSeq_ref e]
    rw [if_pos (by simp [scalar])]
    congr 1
    rw [Bool.eq_iff_iff]
    simp only [List.any_map, List.any_eq_true, Function.comp, eqv_int', beq_iff_eq, decide_eq_true_eq]
    exact ⟨fun ⟨x, hx, e⟩ => e ▸ hx, fun hx => ⟨k, hx, rfl⟩⟩
  rw [this]
  rfl
@[simp] theorem cl_ints (ks : List Int) : closedAll (ks.map D.int) = true := cl_all.mpr fun d hd => by
  obtain ⟨k, _, rfl⟩ := List.mem_map.mp hd
  simp
@[simp] theorem cl_roots (zs : List (Option (Int × Int))) : closedAll (zs.map rootD) = true := cl_all.mpr fun d hd => by
  obtain ⟨k, _, rfl⟩ := List.mem_map.mp hd
  simp
theorem r_meet (F n : Nat) (ts : Th) (q : Option (Int × Int)) (zs : List (Option (Int × Int))) (l : List Int) {h : Hh} {r : Nat} (ht : ThOk ts) (hf : Found ts l) (hr : h[r]? = some (.lst (l.map .int))) :
    run F (n + 6) ix_Book_meet [book ts q, .lst (zs.map rootD), .ref r] h = .ok .non (h.set r (.lst ((meets ts l zs).map .int))) := by
  rw [run_Book_meet, own_three (by simp) (by simp) hr (by simp) rfl]
  simp [b_Book_meet, startD]
  generalize hR : forL _ _ _ _ = rr
  obtain ⟨σ, h2, rfl, ys, l2, c, e1, e2, hf2, rfl, rfl⟩ := for_invLR hR (fun xs σ h => ∃ (ys : List (Option (Int × Int))) (l2 : List Int) (c : Option D), xs = ys.map rootD ∧ meets ts l2 ys = meets ts l zs ∧ Found ts l2 ∧ σ = [some (book ts q), some (.lst (zs.map rootD)), some (.ref 0), c] ∧ h = [.lst (l2.map .int)]) (by
    rintro x xs _ _ ⟨ys, l2, c, e1, e2, hf2, rfl, rfl⟩
    cases ys with
    | nil => cases e1
    | cons y ys =>
      simp only [List.map_cons, List.cons.injEq] at e1
      obtain ⟨rfl, rfl⟩ := e1
      have hl := r_leadsO F n ts q y [.lst (l2.map .int)] ht
      refine ⟨[some (book ts q), some (.lst (zs.map rootD)), some (.ref 0), some (rootD y)], [.lst ((meet1 ts l2 y).map .int)], ?_, ys, meet1 ts l2 y, _, rfl, e2, hf2.meet1 y, rfl, rfl⟩
      cases y with
      | none => simp [hl, leadO, meet1]
      | some y =>
        have hlen := hf2.len
        have h9 := ht.len
        have hm := mem_refints (h := [.lst (l2.map .int)]) (n := 0) y.1 rfl
        have hlt : l2.length < 16777216 := by omega
        by_cases c1 : leadB ts y = true
        · simp [rootD, toD, leadO, c1] at hl
          by_cases c2 : y.1 ∈ l2
          · simp [hl, meet1, c1, c2, rootD, toD, ixn, hm]
          · simp [hl, meet1, c1, c2, rootD, toD, ixn, hm, hlt]
        · simp [hl, leadO, meet1, c1]) ⟨zs, l, none, rfl, rfl, hf, rfl, rfl⟩
  have : ys = [] := by cases ys with | nil => rfl | cons _ _ => cases e1
  subst this
  rw [← e2]
  simp [meets]
/-- the going from what is found: n turns at most -/
def go (ts : Th) : Nat → List Int → Nat → List Int
  | 0, l, _ => l
  | f + 1, l, at_ => match l[at_]? with
    | none => l
    | some k => go ts f (meets ts l (((findT k ts).map fun q => q.2.refs).getD [] |>.map some)) (at_ + 1)
def metL (ts : Th) (q : Option (Int × Int)) : List Int := go ts 10 (meets ts [] [q]) 0
theorem Found.go {ts : Th} : ∀ (f : Nat) {l : List Int} (a : Nat), Found ts l → Found ts (go ts f l a) := by
  intro f
  induction f with
  | zero => intro l a h; exact h
  | succ f ih =>
    intro l a h
    simp only [Lw.go]
    split
    · exact h
    · exact ih _ h.meets
theorem found_nil (ts : Th) : Found ts [] := ⟨by simp, by simp⟩
theorem refs_roots (l : List (Int × Int)) : l.map toD = (l.map some).map rootD := by simp [rootD]
/-- the body of met, in any heap -/
theorem b_met (F n : Nat) (ts : Th) (q : Option (Int × Int)) (h : Hh) (ht : ThOk ts) (hF : 20 ≤ F) :
    b_Book_met (run F (n + 6)) F (startD 3 [book ts q]) h = .rt (.ref h.length) (h ++ [.lst ((metL ts q).map .int)]) := by
  have e1 := r_meet F n ts q [q] [] (h := h ++ [.lst []]) (r := h.length) ht (found_nil ts) (by simp)
  simp at e1
  simp [b_Book_met, startD, List.lookup, e1, sWh_eq]
  generalize hR : whL _ _ _ _ _ = rr
  obtain ⟨σ, h2, rfl, c, rfl, rfl⟩ := wh_invR hR (fun f σ h' => ∃ (l : List Int) (at_ : Nat), Found ts l ∧ go ts f l at_ = metL ts q ∧ ts.length + 1 ≤ f + at_ ∧ σ = [some (book ts q), some (.ref h.length), some (.int at_)] ∧ h' = h ++ [.lst (l.map .int)])
    (fun σ h' => ∃ c, σ = [some (book ts q), some (.ref h.length), c] ∧ h' = h ++ [.lst ((metL ts q).map .int)]) 10 (by
    rintro f _ _ ⟨l, a, hf, hg, hl, rfl, rfl⟩
    have h1 := hf.len
    by_cases c : a < l.length
    · right
      obtain ⟨f, rfl⟩ : ∃ f', f = f' + 1 := ⟨f - 1, by omega⟩
      have hk : l[a]? = some l[a] := List.getElem?_eq_getElem c
      have hs := hf.sub _ (List.getElem_mem c)
      obtain ⟨z, hz⟩ := Option.isSome_iff_exists.mp hs
      obtain ⟨_, _, _, _, hd, hz2⟩ := ht.ok _ (findT_mem hz)
      simp only at hd hz2
      have e2 := r_refs F 3 z.2 (n + 2) (h ++ [.lst (l.map .int)]) hd (by simp; omega)
      rw [refs_roots] at e2
      have e3 := r_meet F n ts q (z.2.refs.map some) l (h := h ++ [.lst (l.map .int)]) (r := h.length) ht hf (by simp)
      simp at e2 e3
      refine ⟨h ++ [.lst (l.map .int)], f, [some (book ts q), some (.ref h.length), some (.int (a + 1))], h ++ [.lst ((meets ts l (z.2.refs.map some)).map .int)], ?_, ?_, by omega, _, a + 1, hf.meets, ?_, by omega, rfl, rfl⟩
      · simp [c]
      · simp [List.lookup, ixn, c, hk, look_kvT, hz, e2, e3]
      · rw [← hg]
        simp [go, hk, hz]
    · left
      refine ⟨h ++ [.lst (l.map .int)], by simp [c], _, rfl, ?_⟩
      rw [← hg]
      have : l[a]? = none := List.getElem?_eq_none (by omega)
      cases f <;> simp [go, this]) ⟨_, 0, (found_nil ts).meets, rfl, by have := ht.len; omega, rfl, rfl⟩ (by omega)
  simp
@[simp] theorem kvT_nil : kvT [] = [] := rfl
/-- met, of a closed book -/
theorem r_met (F n : Nat) (ts : Th) (q : Option (Int × Int)) (h : Hh) (ht : ThOk ts) (hF : 20 ≤ F) : run F (n + 7) ix_Book_met [book ts q] h = .ok (.lst ((metL ts q).map .int)) h := by
  rw [run_Book_met, own_closed (np := 1) (by simp) rfl]
  have e := b_met F n ts q [] ht hF
  simp at e
  rw [e, back_ref0 (by simp)]
theorem r_met_full (F n : Nat) (ts : Th) (q : Option (Int × Int)) (h : Hh) (ht : ThOk ts) (hF : 20 ≤ F) : run F (n + 7) ix_Book_met_full [book ts q] h = .ok (.ref h.length) (h ++ [.lst ((metL ts q).map .int)]) := by
  rw [run_Book_met_full]
  simp [full, b_met F n ts q h ht hF, SR.out]
end Lw
end
section
set_option linter.all false
set_option autoImplicit false
set_option maxRecDepth 100000
namespace Lw
open Fw Pl
def refsOf (ts : Th) (k : Int) : List (Option (Int × Int)) := (((findT k ts).map fun q => q.2.refs).getD []).map some
def pend (ts : Th) (l : List Int) (a : Nat) : List (Option (Int × Int)) := ((l.drop a).map (refsOf ts)).flatten
theorem go_refs (ts : Th) (f : Nat) (l : List Int) (a : Nat) : go ts (f + 1) l a = match l[a]? with
    | none => l
    | some k => go ts f (meets ts l (refsOf ts k)) (a + 1) := rfl
theorem pend_at {ts : Th} {l : List Int} {a : Nat} {k : Int} (h : l[a]? = some k) : pend ts l a = refsOf ts k ++ pend ts l (a + 1) := by
  obtain ⟨ha, e⟩ := List.getElem?_eq_some_iff.mp h
  unfold pend
  rw [List.drop_eq_getElem_cons ha, e]
  simp
theorem refsOf_len {ts : Th} (ht : ThOk ts) (k : Int) : (refsOf ts k).length ≤ 100 := by
  unfold refsOf
  cases e : findT k ts with
  | none => simp
  | some q =>
    have := ht.ok _ (findT_mem e)
    have := refs_len' q.2
    simp at *
    omega
theorem pend_len {ts : Th} (ht : ThOk ts) (l : List Int) (a : Nat) : (pend ts l a).length ≤ 100 * l.length := by
  have key : ∀ m : List Int, ((m.map (refsOf ts)).flatten).length ≤ 100 * m.length := by
    intro m
    induction m with
    | nil => simp
    | cons k m ih =>
      have := refsOf_len ht k
      simp at ih ⊢
      omega
  have := key (l.drop a)
  simp [pend] at *
  omega
theorem go_empty {ts : Th} : ∀ (f : Nat) {l : List Int} {a : Nat}, pend ts l a = [] → go ts f l a = l := by
  intro f
  induction f with
  | zero => intro l a _; rfl
  | succ f ih =>
    intro l a h
    rw [go_refs]
    cases e : l[a]? with
    | none => rfl
    | some k =>
      rw [pend_at e] at h
      obtain ⟨h1, h2⟩ := List.append_eq_nil_iff.mp h
      simp only [h1]
      exact ih h2
theorem shift {ts : Th} (ht : ThOk ts) : ∀ (f : Nat) {l : List Int} {a : Nat}, l.length < f + a → a ≤ l.length → pend ts l a ≠ [] →
    ∃ (z : Option (Int × Int)) (ws : List (Option (Int × Int))) (a' f' : Nat), (z :: ws) ++ pend ts l a' = pend ts l a ∧ go ts f' (meets ts l (z :: ws)) a' = go ts f l a ∧ l.length + 1 ≤ f' + a' ∧ f' < f ∧ a' ≤ l.length ∧ (z :: ws).length ≤ 100 ∧ f' + a' = f + a := by
  intro f
  induction f with
  | zero =>
    intro l a h1 h2
    omega
  | succ f ih =>
    intro l a h1 h2 h3
    cases e : l[a]? with
    | none =>
      have : pend ts l a = [] := by
        have := List.getElem?_eq_none_iff.mp e
        unfold pend
        rw [List.drop_eq_nil_of_le this]
        rfl
      exact absurd this h3
    | some k =>
      obtain ⟨ha, _⟩ := List.getElem?_eq_some_iff.mp e
      cases e2 : refsOf ts k with
      | nil =>
        have e3 : pend ts l a = pend ts l (a + 1) := by rw [pend_at e, e2]; rfl
        obtain ⟨z, ws, a', f', p1, p2, p3, p4, p5, p6, p7⟩ := ih (l := l) (a := a + 1) (by omega) (by omega) (e3 ▸ h3)
        refine ⟨z, ws, a', f', p1.trans e3.symm, ?_, p3, by omega, p5, p6, by omega⟩
        rw [p2, go_refs, e]
        simp only [e2]
        rfl
      | cons z ws =>
        have := refsOf_len ht k
        rw [e2] at this
        exact ⟨z, ws, a + 1, f, by rw [pend_at e, e2], by rw [go_refs, e]; simp only [e2], by omega, by omega, by omega, this, by omega⟩
theorem flat_roots : ∀ zs : List (Option (Int × Int)), flatAll 59 (zs.map rootD) = true
  | [] => rfl
  | z :: zs => by
    have := flat_roots zs
    cases z with
    | none => simp [flatAll, this, rootD, D.flat]
    | some q => simp [flatAll, this, rootD, D.flat, toD]
theorem ne_nil {h : Hh} {n : Nat} {zs : List (Option (Int × Int))} (e : h[n]? = some (.lst (zs.map rootD))) : cmpop h .ne (.ref n) (.lst []) = some (!zs.isEmpty) := by
  have f := flat_roots zs
  have e1 : eqD h (.ref n) (.lst []) = some ((D.lst (zs.map rootD)).eqv (.lst [])) := by
    simp [eqD, scalPair, scalar, seen, e, D.flat, f, flatAll]
  rw [cmp_ne, e1]
  cases zs <;> simp [eqvAll]
theorem mem_refkv {h : Hh} {n : Nat} {ts : Th} (k : Int) (e : h[n]? = some (.dct (kvT ts))) : cmpop h .in_ (.int k) (.ref n) = some (findT k ts).isSome := by
  rw [cmp_inr]
  simp [isMem, asDct, e, key1, any_kvT]
theorem pend_app (ts : Th) {l : List Int} {a : Nat} (k : Int) (h : a ≤ l.length) : pend ts (l ++ [k]) a = pend ts l a ++ refsOf ts k := by
  unfold pend
  rw [List.drop_append_of_le_length h]
  simp
theorem meets_cons (ts : Th) (l : List Int) (z : Option (Int × Int)) (zs : List (Option (Int × Int))) : meets ts l (z :: zs) = meets ts (meet1 ts l z) zs := rfl
theorem r_due (F n : Nat) (ts : Th) (q : Option (Int × Int)) {h : Hh} {r : Nat} (hr : h[r]? = some (.dct (kvT ts))) (ht : ThOk ts) (hF : 2000 ≤ F) :
    run F (n + 6) ix__law_due [.ref r, rootD q] h = .ok (.lst ((metL ts q).map .int)) h := by
  rw [run__law_due, own_one (np := 2) (by simp) hr (by simp) rfl]
  simp [b__law_due, startD, sWh_eq]
  generalize hR : whL _ _ _ _ _ = rr
  obtain ⟨σ, h2, rfl, w, c, rfl, g0, g1⟩ := wh_invR hR (fun k σ h => ∃ (l : List Int) (ws : List (Option (Int × Int))) (a f w : Nat) (c : Option D), Found ts l ∧ go ts f (meets ts l ws) a = metL ts q ∧ ts.length + 1 ≤ f + a ∧ a ≤ l.length ∧ ws.length ≤ 100 ∧ k = ws.length + f * 101 ∧
      σ = [some (.ref 0), some (rootD q), some (.ref 1), some (.ref w), c] ∧ h[0]? = some (.dct (kvT ts)) ∧ h[1]? = some (.lst (l.map .int)) ∧ h[w]? = some (.lst ((ws ++ pend ts l a).map rootD)) ∧ 2 ≤ w)
    (fun σ h => ∃ w c, σ = [some (.ref 0), some (rootD q), some (.ref 1), some (.ref w), c] ∧ h[0]? = some (.dct (kvT ts)) ∧ h[1]? = some (.lst ((metL ts q).map .int))) (1 + 10 * 101) (by
    rintro k _ h ⟨l, ws, a, f, w, c, hf, hg, hfa, hal, hws, rfl, rfl, g0, g1, gw, hw⟩
    have hl := hf.len
    have h9 := ht.len
    have hn := ne_nil gw
    by_cases he : ws ++ pend ts l a = []
    · left
      obtain ⟨rfl, e2⟩ := List.append_eq_nil_iff.mp he
      refine ⟨h, by simp [hn, e2], w, c, rfl, g0, ?_⟩
      have : go ts f l a = metL ts q := hg
      rw [go_empty f e2] at this
      rw [g1, this]
    · right
      -- the first that waits
      have hz : ∃ (z : Option (Int × Int)) (zs : List (Option (Int × Int))) (a' f' : Nat), (z :: zs) ++ pend ts l a' = ws ++ pend ts l a ∧ go ts f' (meets ts l (z :: zs)) a' = metL ts q ∧ ts.length + 1 ≤ f' + a' ∧ a' ≤ l.length ∧ (z :: zs).length ≤ 100 ∧ (z :: zs).length + f' * 101 ≤ ws.length + f * 101 := by
        cases ws with
        | cons z zs => exact ⟨z, zs, a, f, rfl, hg, hfa, hal, hws, Nat.le_refl _⟩
        | nil =>
          obtain ⟨z, zs, a', f', p1, p2, p3, p4, p5, p6, p7⟩ := shift ht f (by omega) hal (by simpa using he)
          exact ⟨z, zs, a', f', by simpa using p1, p2.trans hg, by omega, p5, p6, by simp at p6 ⊢; omega⟩
      obtain ⟨z, zs, a', f', p1, p2, p3, p4, p5, p6⟩ := hz
      rw [← p1] at gw hn
      have pl := pend_len ht l a'
      simp at p5 p6
      have hw1 : w < h.length := (List.getElem?_eq_some_iff.mp gw).1
      have hyl : ((zs ++ pend ts l a').map rootD).length ≤ 2000 := by simp; omega
      have gw' : h[w]? = some (.lst (rootD z :: (zs ++ pend ts l a').map rootD)) := gw
      generalize hy : (zs ++ pend ts l a').map rootD = ys at gw' hyl
      have hlt : l.length < 16777216 := by omega
      have i0 : (h.set w (.lst ys))[0]? = some (.dct (kvT ts)) := by rw [List.getElem?_set_ne (by omega)]; exact g0
      have i1 : (h.set w (.lst ys))[1]? = some (.lst (l.map .int)) := by rw [List.getElem?_set_ne (by omega)]; exact g1
      have iw : (h.set w (.lst ys))[w]? = some (.lst ys) := by rw [List.getElem?_set_self hw1]
      have ep : popD h (.ref w) (.int 0) = some (rootD z, some (w, .lst ys)) := by
        rw [popD_ref gw']
        simp [ixn]
      have il : isLst h (.ref w) = true := isLst_ref gw'
      simp at hn
      generalize hh : h.set w (.lst ys) = h1 at i0 i1 iw
      cases z with
      | none => exact ⟨h, zs.length + f' * 101, [some (.ref 0), some (rootD q), some (.ref 1), some (.ref w), some .non], h1, by simp [hn], by simp [il, ep, hh, rootD], by omega, l, zs, a', f', w, _, hf, p2, p3, p4, by omega, rfl, rfl, i0, i1, by rw [iw, hy], hw⟩
      | some y =>
        have m1 := mem_refkv y.1 i0
        have m2 := mem_refints y.1 i1
        cases e : findT y.1 ts with
        | none =>
          have hno : meet1 ts l (some y) = l := by simp [meet1, leadB, e]
          refine ⟨h, zs.length + f' * 101, [some (.ref 0), some (rootD q), some (.ref 1), some (.ref w), some (toD y)], h1, by simp [hn], ?_, by omega, l, zs, a', f', w, _, hf, by rw [← p2, meets_cons, hno], p3, p4, by omega, rfl, rfl, i0, i1, by rw [iw, hy], hw⟩
          simp [il, ep, hh, rootD, toD, ixn, m1, m2, e]
        | some p =>
          have hpt := ht.ok _ (findT_mem e)
          by_cases c1 : p.1 = y.2
          · by_cases c2 : y.1 ∈ l
            · have hno : meet1 ts l (some y) = l := by simp [meet1, c2]
              refine ⟨h, zs.length + f' * 101, [some (.ref 0), some (rootD q), some (.ref 1), some (.ref w), some (toD y)], h1, by simp [hn], ?_, by omega, l, zs, a', f', w, _, hf, by rw [← p2, meets_cons, hno], p3, p4, by omega, rfl, rfl, i0, i1, by rw [iw, hy], hw⟩
              simp [il, ep, hh, rootD, toD, ixn, m1, m2, e, c1, c2, i0, look_kvT]
            · have hme : meet1 ts l (some y) = l ++ [y.1] := by simp [meet1, leadB, e, c1, c2]
              have hrf := r_lrefs F 3 p.2 (n + 1) (h1.set 1 (.lst ((l ++ [y.1]).map .int))) hpt.2.2.2.2.1 (by have := hpt.2.2.2.2.2; simp at this ⊢; omega)
              have hrl : p.2.refs.length ≤ 100 := by have := refs_len' p.2; have := hpt.2.2.2.2.2; simp at this; omega
              rw [refs_roots] at hrf
              have il1 : isLst h1 (.ref 1) = true := isLst_ref i1
              have j0 : (h1.set 1 (.lst ((l ++ [y.1]).map .int)))[0]? = some (.dct (kvT ts)) := by rw [List.getElem?_set_ne (by omega)]; exact i0
              have jw : (h1.set 1 (.lst ((l ++ [y.1]).map .int)))[w]? = some (.lst ys) := by rw [List.getElem?_set_ne (by omega)]; exact iw
              have jl : 1 < h1.length := (List.getElem?_eq_some_iff.mp i1).1
              have j1 : (h1.set 1 (.lst ((l ++ [y.1]).map .int)))[1]? = some (.lst ((l ++ [y.1]).map .int)) := by rw [List.getElem?_set_self jl]
              simp at hrf j0 jw j1
              refine ⟨h, zs.length + f' * 101, [some (.ref 0), some (rootD q), some (.ref 1), some (.ref h1.length), some (toD y)], h1.set 1 (.lst ((l ++ [y.1]).map .int)) ++ [.lst (ys ++ (p.2.refs.map some).map rootD)], by simp [hn], ?_, by omega, l ++ [y.1], zs, a', f', h1.length, _, hme ▸ hf.meet1 (some y), by rw [← p2, meets_cons, hme], p3, by simp; omega, by omega, rfl, rfl, ?_, ?_, ?_, by omega⟩
              · simp [il, ep, hh, rootD, toD, ixn, m1, m2, e, c1, c2, i0, i1, look_kvT, il1, hlt]
                simp [hrf, jw]
                rw [if_pos (by omega)]
                simp
              · rw [List.getElem?_append_left (by simp; omega)]; simpa using j0
              · rw [List.getElem?_append_left (by simp; omega)]; simpa using j1
              · rw [List.getElem?_append_right (by simp)]
                simp [← hy, pend_app ts y.1 p4, refsOf, e]
          · have hno : meet1 ts l (some y) = l := by simp [meet1, leadB, e, c1]
            refine ⟨h, zs.length + f' * 101, [some (.ref 0), some (rootD q), some (.ref 1), some (.ref w), some (toD y)], h1, by simp [hn], ?_, by omega, l, zs, a', f', w, _, hf, by rw [← p2, meets_cons, hno], p3, p4, by omega, rfl, rfl, i0, i1, by rw [iw, hy], hw⟩
            simp [il, ep, hh, rootD, toD, ixn, m1, m2, e, c1, i0, look_kvT]) ⟨[], [q], 0, 10, 2, none, found_nil ts, rfl, by have := ht.len; omega, by simp, by simp, rfl, rfl, rfl, rfl, by simp [pend], by omega⟩ (by omega)
  simp
  rw [back_ref1 g0 (by simp) g1 (by simp), set_same hr]
end Lw
end
section
set_option linter.all false
set_option autoImplicit false
set_option maxRecDepth 100000
namespace Lw
open Fw Pl
theorem r_init (F n : Nat) (kvs : List (K1 × D)) (z : D) {h : Hh} {r : Nat} (hr : h[r]? = some (.dct kvs)) (c1 : closedK kvs = true) (c2 : z.closed = true) :
    run F (n + 1) ix_Book_init [.ref r, z, .fn empT] h = .ok (.obj 0 [(0, .dct kvs), (1, .dct []), (2, z)]) h := by
  rw [run_Book_init]
  have hl : lent [.ref r, z, .fn empT] h = some ([.ref 0, z, .fn empT], [r], [.dct kvs]) := by
    simp [lent, lend, lend_cl c2, lentO, hr, c1, D.closed]
  simp [make, hl, b_Book_init, startD, dictD, asDct, setFld, putF]
  simp [mkBack, back, tell, frz, mapF, D.map_, mapK_closed, c1, map_closed _ c2, giveBack, frzO, set_same hr, mapK]
theorem r_init0 (F n : Nat) (kvs : List (K1 × D)) (z : D) {h : Hh} (c1 : closedK kvs = true) (c2 : z.closed = true) :
    run F (n + 1) ix_Book_init [.dct kvs, z, .fn empT] h = .ok (.obj 0 [(0, .dct kvs), (1, .dct []), (2, z)]) h := by
  rw [run_Book_init]
  have hl : lent [.dct kvs, z, .fn empT] h = some ([.dct kvs, z, .fn empT], [], []) := by
    simp [lent, lend, lend_cl c2, lend_cl (d := .dct kvs) (by simpa using c1), lentO, D.closed, c1]
  simp [make, hl, b_Book_init, startD, dictD, asDct, setFld, putF]
  simp [mkBack, back, tell, frz, mapF, D.map_, mapK_closed, c1, map_closed _ c2, giveBack, frzO, mapK]
theorem r_room (F n : Nat) (ns : List Int) (k : Nat) (h : Hh) (hk : k ≤ 63) : ∃ o, RoomOk o ∧ run F (n + 1) ix__law_room [.roi ns, .int k] h = .ok (.ref h.length) (h ++ [o]) := by
  rw [run__law_room]
  have q1 : ∀ b : Int, 0 ≤ b % 2147483647 ∧ b % 2147483647 < 2147483647 := by intro b; omega
  have hk1 : (-18446744073709551616 : Int) < 104729 * k ∧ (104729 * k : Int) < 18446744073709551616 := by omega
  have hk2 : (-18446744073709551616 : Int) < k ∧ (k : Int) < 18446744073709551616 := by omega
  simp [full, b__law_room, startD]
  by_cases c : k < ns.length
  · have hi : (ns.map D.int)[k]? = some (.int ns[k]) := by simp [List.getElem?_eq_getElem c]
    by_cases c2 : 1000000000000000000 ≤ ns[k]
    · simp [c, ixn, c2, SR.out, hk1, hk2]
      exact ⟨_, _, rfl, (q1 _).1, (q1 _).2⟩
    · simp [c, ixn, c2, SR.out, hk1, hk2]
      exact ⟨_, _, rfl, (q1 _).1, (q1 _).2⟩
  · simp [c, SR.out, hk1, hk2]
    exact ⟨_, _, rfl, (q1 _).1, (q1 _).2⟩
theorem range_succ (j : Int) (m : Nat) : rangeD j (m + 1) = .int j :: rangeD (j + 1) m := by
  unfold rangeD
  rw [List.range_succ_eq_map]
  simp
  intro a _
  omega
theorem put_kvT {ts : Th} {j e : Int} {v : Vl} (h : ∀ t ∈ ts, t.1 < j) : put (.inl j) (.tup [.int e, v.d]) (kvT ts) = kvT (ts ++ [(j, e, v)]) := by
  unfold put
  rw [if_neg]
  · simp [kvT]
  · simp only [kvT, List.any_map, List.any_eq_true, not_exists, not_and]
    intro t ht q
    have := h t ht
    simp at q
    omega
theorem met_len {ts : Th} (ht : ThOk ts) (q : Option (Int × Int)) : (metL ts q).length ≤ 9 := by
  have h : Found ts (metL ts q) := ((found_nil ts).meets).go 10 0
  have := h.len
  have := ht.len
  omega
theorem flat_ints (ks : List Int) : flatAll 59 (ks.map D.int) = true := by
  induction ks with
  | nil => simp [flatAll]
  | cons k ks ih => simp [flatAll, ih, D.flat]
theorem eqv_ints (ks : List Int) : eqvAll (ks.map D.int) (ks.map D.int) = true := by
  induction ks with
  | nil => simp [eqvAll]
  | cons k ks ih => simp [eqvAll, ih]
@[simp] theorem eq_ints (h : Hh) (ks : List Int) : eqD h (.lst (ks.map .int)) (.lst (ks.map .int)) = some true := by
  simp [eqD, scalPair, scalar, seen, D.flat, flat_ints, eqv_ints]
theorem rl_law (F n : Nat) (hF : 2000 ≤ F) (ns : List Int) (hl : ns.length ≤ 63) : ∃ h', run F (n + 20) ix_law [.roi ns] [] = .ok (.bl true) h' := by
  rw [run_law]
  simp [full, b_law, startD]
  rw [if_pos (by omega)]
  simp
  generalize hR : forL _ _ _ _ = rr
  obtain ⟨σ, h2, rfl, a1, a2, a3, a4, a5, a6, a7, a8, -, rfl⟩ := for_invLR hR (fun xs σ h => ∃ a1 a2 a3 a4 a5 a6 a7 a8, (∃ (j m : Nat), xs = rangeD j m ∧ j + m ≤ 20) ∧ σ = [some (.roi ns), a1, a2, a3, a4, a5, a6, a7, a8]) (by
    rintro x xs _ h ⟨a1, a2, a3, a4, a5, a6, a7, a8, ⟨j, m, hx, hj⟩, rfl⟩
    obtain ⟨m, rfl⟩ : ∃ m', m = m' + 1 := by
      cases m with
      | zero => cases hx
      | succ m => exact ⟨m, rfl⟩
    rw [range_succ, List.cons.injEq] at hx
    obtain ⟨rfl, rfl⟩ := hx
    obtain ⟨o, ho, e1⟩ := r_room F (n + 18) ns j h (by omega)
    obtain ⟨y, o1, ho1, y0, y1, e2⟩ := r_take F (n + 18) (h := h ++ [o]) (r := h.length) (m := 9) (by simp) ho (by decide) (by decide)
    simp at e2
    suffices hh : ∃ a2 a3 a4 a5 a6 a7 a8 h', forB (.nm 1) _ _ _ h = SR.nx [some (.roi ns), some (.int j), a2, a3, a4, a5, a6, a7, a8] h' by
      obtain ⟨a2, a3, a4, a5, a6, a7, a8, h', e⟩ := hh
      exact ⟨_, _, e, _, a2, a3, a4, a5, a6, a7, a8, ⟨j + 1, m, by simp, by omega⟩, rfl⟩
    simp [e1, e2]
    rw [if_pos (by omega)]
    simp
    generalize hR : forL _ _ _ _ = rr
    obtain ⟨σ, h2, rfl, c5, o2, ts, j2, m2, -, -, hj2, ho2, rfl, rfl, hlt, hok, hlen⟩ := for_invLR hR (fun xs σ h' => ∃ (c5 : Option D) (o : O) (ts : Th) (j2 m2 : Nat), xs = rangeD j2 m2 ∧ 1 ≤ j2 ∧ j2 + m2 ≤ 10 ∧ RoomOk o ∧ h' = h ++ [o, .dct (kvT ts)] ∧
        σ = [some (.roi ns), some (.int j), some (.ref h.length), some (.int (1 + y)), some (.ref (h.length + 1)), c5, a6, a7, a8] ∧ (∀ t ∈ ts, t.1 < j2) ∧
        (∀ t ∈ ts, 1 ≤ t.1 ∧ t.1 ≤ 9 ∧ 0 ≤ t.2.1 ∧ t.2.1 ≤ 1 ∧ t.2.2.deep ≤ 3 ∧ t.2.2.sz ≤ 100) ∧ ts.length < j2) (by
      rintro x xs _ _ ⟨c5, o, ts, j2, m2, hx, h1, h2, ho, rfl, rfl, hlt, hok, hlen⟩
      obtain ⟨m2, rfl⟩ : ∃ m', m2 = m' + 1 := by
        cases m2 with
        | zero => cases hx
        | succ m => exact ⟨m, rfl⟩
      rw [range_succ, List.cons.injEq] at hx
      obtain ⟨rfl, rfl⟩ := hx
      obtain ⟨z, o1, ho1, z0, z1, e1⟩ := r_take F (n + 18) (h := h ++ [o, .dct (kvT ts)]) (r := h.length) (m := 8) (by simp) ho (by decide) (by decide)
      by_cases c : 0 < z
      · obtain ⟨u, o2, ho2, u0, u1, e2⟩ := r_take F (n + 18) (h := h ++ [o1, .dct (kvT ts)]) (r := h.length) (m := 2) (by simp) ho1 (by decide) (by decide)
        obtain ⟨v1, o3, ho3, d1, s1, e3⟩ := r_holding F (n + 17) (h := h ++ [o2, .dct (kvT ts)]) (r := h.length) (m := 1 + y) (by simp) ho2 (by omega) (by omega)
        obtain ⟨v2, o4, ho4, _, d2, s2, e4⟩ := plain_spec F 1 (n + 14) (h := h ++ [o3, .dct (kvT ts)]) (r := h.length) (by simp) ho3
        obtain ⟨w, o5, ho5, w0, w1, e5⟩ := r_take F (n + 18) (h := h ++ [o4, .dct (kvT ts)]) (r := h.length) (m := 2) (by simp) ho4 (by decide) (by decide)
        obtain ⟨d, hd, e6⟩ := ix_in (ds := [v1.d, v2.d]) (n := 2) rfl w0 (by omega)
        have hv : ∃ v : Vl, d = v.d ∧ v.deep ≤ 3 ∧ v.sz ≤ 100 := by
          simp at hd
          rcases hd with rfl | rfl
          · exact ⟨v1, rfl, d1, s1⟩
          · exact ⟨v2, rfl, by omega, by omega⟩
        obtain ⟨v, rfl, d3, s3⟩ := hv
        have hkl : (kvT ts).length < 16777216 := by simp [kvT]; omega
        simp at e1 e2 e3 e4 e5
        refine ⟨[some (.roi ns), some (.int j), some (.ref h.length), some (.int (1 + y)), some (.ref (h.length + 1)), some (.int j2), a6, a7, a8], h ++ [o5, .dct (kvT (ts ++ [((j2 : Int), u, v)]))], ?_, _, o5, ts ++ [((j2 : Int), u, v)], j2 + 1, m2, by simp, by omega, by omega, ho5, rfl, rfl, ?_, ?_, by simp; omega⟩
        · simp [e1, c, e2, e3, e4, e5, e6, hkl, put_kvT hlt]
        · intro t ht
          rcases List.mem_append.mp ht with ht | ht
          · have := hlt t ht; omega
          · rw [List.mem_singleton.mp ht]; simp; omega
        · intro t ht
          rcases List.mem_append.mp ht with ht | ht
          · exact hok t ht
          · rw [List.mem_singleton.mp ht]; simp; omega
      · simp at e1
        refine ⟨[some (.roi ns), some (.int j), some (.ref h.length), some (.int (1 + y)), some (.ref (h.length + 1)), some (.int j2), a6, a7, a8], h ++ [o1, .dct (kvT ts)], by simp [e1, c], _, o1, ts, j2 + 1, m2, by simp, by omega, by omega, ho1, rfl, rfl, fun t ht => by have := hlt t ht; omega, hok, by omega⟩) ⟨_, o1, [], 1, y.toNat + 1, by congr 1; omega, by omega, by omega, ho1, by simp, rfl, by simp, by simp, by simp⟩
    have ht : ThOk ts := ⟨by omega, hok⟩
    obtain ⟨p, o3, ho3, p0, p1, e3⟩ := r_take F (n + 18) (h := h ++ [o2, .dct (kvT ts)]) (r := h.length) (m := 1 + y) (by simp) ho2 (by omega) (by omega)
    obtain ⟨q, o4, ho4, q0, q1, e4⟩ := r_take F (n + 18) (h := h ++ [o3, .dct (kvT ts)]) (r := h.length) (m := 2) (by simp) ho3 (by omega) (by omega)
    obtain ⟨u, o5, ho5, u0, u1, e5⟩ := r_take F (n + 18) (h := h ++ [o4, .dct (kvT ts)]) (r := h.length) (m := 3) (by simp) ho4 (by omega) (by omega)
    obtain ⟨d, hd, e6⟩ := ix_in (ds := [.non, .tup [.str [116, 111], .int 1, .int 0], .tup [.str [116, 111], .int (1 + p), .int q]]) (n := 3) rfl u0 (by omega)
    have hv : ∃ t, d = rootD t := by
      simp at hd
      rcases hd with rfl | rfl | rfl
      · exact ⟨none, rfl⟩
      · exact ⟨some (1, 0), rfl⟩
      · exact ⟨some (1 + p, q), rfl⟩
    obtain ⟨t, rfl⟩ := hv
    have e7 := r_init F (n + 18) (kvT ts) (rootD t) (h := h ++ [o5, .dct (kvT ts)]) (r := h.length + 1) (by simp) (by simp) (by simp)
    have e8 := r_due F (n + 13) ts t (h := h ++ [o5, .dct (kvT ts)]) (r := h.length + 1) (by simp) ht hF
    have e9 := fun h => r_met F (n + 12) ts t h ht (by omega)
    have e10 := fun h => r_met_full F (n + 12) ts t h ht (by omega)
    have hml := met_len ht t
    have hml' : (metL ts t).length < 16777216 := by omega
    simp at e3 e4 e5
    change run F (n + 18 + 1) ix_Book_init [.ref (h.length + 1), rootD t, .fn empT] (h ++ [o5, .dct (kvT ts)]) = .ok (book ts t) _ at e7
    simp [e3, e4, e5, e6, kd_Book_init_root, e7, e8, e9, e10, hml']) ⟨none, none, none, none, none, none, none, none, ⟨0, _, rfl, by omega⟩, rfl⟩
  have e1 := r_init0 F (n + 18) [] .non (h := h2) (by simp) (by simp)
  have e2 := r_met F (n + 12) [] none h2 ⟨by simp, by simp⟩ (by omega)
  change run F (n + 18 + 1) ix_Book_init [.dct [], .non, .fn empT] h2 = .ok (book [] none) _ at e1
  have e3 : metL [] none = [] := rfl
  have e4 : eqD h2 (.lst []) (.lst []) = some true := eq_ints h2 []
  rw [e3] at e2
  simp [df_Book_init, e1, e2, e4, SR.out]
theorem r_law (ns : List Int) (hl : ns.length ≤ 63) : ∃ h', run 1000000 100 ix_law [.roi ns] [] = .ok (.bl true) h' := rl_law 1000000 80 (by decide) ns hl
end Lw
end
set_option maxRecDepth 100000 in
theorem PySem.Challenge.cw_appendedbook_k15_what_is_met_holds : PySem.Challenge.rw_appendedbook_k15_what_is_met.Holds :=
  holds15 Lw.r_law
