import PyProof.Rows.All
import KE.SortData
import HandS.ForMost
import HandS.Exc
import HandS.TryOnly
import HandS.TryMany
import HandS.IsInst
import HandS.Flow
import HandS.Style
import HandS.Codes
import HandS.Defaults
import HandS.FStr
import HandS.Zip
import HandS.Rev
import HandS.Strs
import HandS.TupAny
import HandS.TupMul
import HandS.Conv
import HandS.More
import HandS.SortInts
import HandS.Ends
import HandS.HeadEnd
import HandS.MakeKw
import HandS.ExcOwn
import HandS.MakeKwOnly
import KE.KDictPairs
import HandS.Small
import HandS.HeadHook1
import HandS.HeadHook2
import KE.KRevSl
import PyProof.ReprRoads
import HandS.StrMore
import HandS.RaiseMore
import HandS.CallLocal
import KE.KUnpackStar
import HandS.ExcIs
import KE.KIsAll
import HandS.Text
import HandS.Deep
import HandS.Dict
import PyProof.StrLawsFrom
import HandS.ExcInit
import HandS.ExcField
import KE.KExcIs
import HandS.Words
import PySem.Challenge.RW_appendedbook_k76_books_that_read_alike
import HandS.Head2
import HandS.HeadHook4
import Wide.All
import OpenK.AllK
import Wide.FinOn
import KE.KStateDown
import HandS.Head0
import HandS.Head1
import HandS.HeadHook3
section
set_option linter.all false
set_option autoImplicit false
namespace Fw
abbrev Tx := List Nat
abbrev K1 := Int ⊕ Tx
inductive D where
  | non
  | bl (b : Bool)
  | int (i : Int)
  | str (s : Tx)
  | tup (xs : List D)
  | lst (xs : List D)
  | dct (kvs : List (K1 × D))
  | obj (c : Nat) (fs : List (Nat × D))
  | ref (n : Nat)
  | fn (f : Nat)
  | roi (is : List Int)
  deriving Inhabited
inductive O where
  | lst (xs : List D)
  | ro (xs : List D)
  | dct (kvs : List (K1 × D))
  | ins (c : Nat) (fs : List (Nat × D))
  | dtu (kvs : List (List K1 × D))
abbrev Hh := List O
abbrev Sg := List (Option D)
structure Exn where
  cls : Nat
  fld : Option (Nat × D)
inductive R (α : Type) where
  | ok (a : α) (h : Hh)
  | xn (x : Exn) (h : Hh)
  | bad
namespace R
def bind {α β : Type} (r : R α) (f : α → Hh → R β) : R β := match r with
  | .ok a h => f a h
  | .xn x h => .xn x h
  | .bad => .bad
@[simp] theorem bind_ok {α β : Type} (a : α) (h : Hh) (f : α → Hh → R β) : (R.ok a h).bind f = f a h := (rfl)
@[simp] theorem bind_xn {α β : Type} (x : Exn) (h : Hh) (f : α → Hh → R β) : (R.xn x h : R α).bind f = .xn x h := (rfl)
@[simp] theorem bind_bad {α β : Type} (f : α → Hh → R β) : (R.bad : R α).bind f = .bad := (rfl)
end R
def opt (o : Option D) (h : Hh) : R D := match o with
  | some d => .ok d h
  | none => .bad
@[simp] theorem opt_some (d : D) (h : Hh) : opt (some d) h = .ok d h := (rfl)
@[simp] theorem opt_none (h : Hh) : opt none h = .bad := (rfl)
def line : Nat := 16777216
def asLst (h : Hh) : D → Option (List D)
  | .lst xs => some xs
  | .ref n => match h[n]? with
    | some (.lst xs) => some xs
    | _ => none
  | _ => none
def asSeq (h : Hh) : D → Option (List D)
  | .tup xs => some xs
  | .roi is => some (is.map .int)
  | .lst xs => some xs
  | .ref n => match h[n]? with
    | some (.lst xs) => some xs
    | some (.ro xs) => some xs
    | _ => none
  | _ => none
def asDct (h : Hh) : D → Option (List (K1 × D))
  | .dct kvs => some kvs
  | .ref n => match h[n]? with
    | some (.dct kvs) => some kvs
    | _ => none
  | _ => none
def asObj (h : Hh) : D → Option (Nat × List (Nat × D))
  | .obj c fs => some (c, fs)
  | .ref n => match h[n]? with
    | some (.ins c fs) => some (c, fs)
    | _ => none
  | _ => none
def key1 : D → Option K1
  | .int i => some (.inl i)
  | .str s => some (.inr s)
  | _ => none
def unkey : K1 → D
  | .inl i => .int i
  | .inr s => .str s
def tru (h : Hh) : D → Option Bool
  | .non => some false
  | .bl b => some b
  | .int i => some (i != 0)
  | .str s => if s.length ≤ line then some (!s.isEmpty) else none
  | .tup xs => some (!xs.isEmpty)
  | .lst xs => some (!xs.isEmpty)
  | .ref n => match h[n]? with
    | some (.lst xs) => some (!xs.isEmpty)
    | some (.ro xs) => some (!xs.isEmpty)
    | _ => none
  | _ => none
def seen (h : Hh) : Nat → D → Option D
  | _, .ref n => match h[n]? with
    | some (.lst xs) => some (.lst xs)
    | some (.ro xs) => some (.lst xs)
    | some (.dct kvs) => some (.dct kvs)
    | _ => none
  | _, d => some d
mutual
def D.flat : Nat → D → Bool
  | _, .non => true
  | _, .bl _ => true
  | _, .int _ => true
  | _, .str s => s.all (· < 1114112)
  | 0, .tup xs => xs.isEmpty
  | n + 1, .tup xs => flatAll n xs
  | 0, .lst xs => xs.isEmpty
  | n + 1, .lst xs => flatAll n xs
  | _, _ => false
def flatAll : Nat → List D → Bool
  | _, [] => true
  | n, x :: xs => x.flat n && flatAll n xs
end
mutual
def D.eqv : D → D → Bool
  | .non, .non => true
  | .bl a, .bl b => a == b
  | .bl a, .int j => (if a then 1 else 0) == j
  | .int i, .bl b => i == (if b then 1 else 0)
  | .int i, .int j => i == j
  | .str x, .str y => x == y
  | .lst xs, .lst ys => eqvAll xs ys
  | .tup xs, .tup ys => eqvAll xs ys
  | _, _ => false
def eqvAll : List D → List D → Bool
  | [], [] => true
  | x :: xs, y :: ys => x.eqv y && eqvAll xs ys
  | _, _ => false
end
def scalar : D → Bool
  | .non => true
  | .bl _ => true
  | .int _ => true
  | .str _ => true
  | _ => false
def scalPair : D → D → Bool
  | .bl _, .int _ => false
  | .int _, .bl _ => false
  | a, b => scalar a && scalar b
def emptyPair : D → D → Bool
  | .lst [], .lst _ => true
  | .lst _, .lst [] => true
  | .tup [], .tup _ => true
  | .tup _, .tup [] => true
  | _, _ => false
def eqD (h : Hh) (a b : D) : Option Bool :=
  if scalPair a b then some (a.eqv b) else
  match seen h 0 a, seen h 0 b with
  | some a, some b => if emptyPair a b then some (a.eqv b) else if a.flat 60 && b.flat 60 then some (a.eqv b) else none
  | _, _ => none
def flatItem (d : D) : Bool := scalar d
def D.isNon : D → Bool
  | .non => true
  | _ => false
inductive Bop where
  | add | sub | mul | fdiv | mod | pow
inductive Cop where
  | eq | ne | lt | le | gt | ge | is_ | isnt | in_ | notin
def asTexts : List D → Option (List Tx)
  | [] => some []
  | .str s :: r => (asTexts r).map (s :: ·)
  | _ :: _ => none
def asInts : List D → Option (List Int)
  | [] => some []
  | .int i :: r => (asInts r).map (i :: ·)
  | _ :: _ => none
def asBools : List D → Option (List Bool)
  | [] => some []
  | .bl b :: r => (asBools r).map (b :: ·)
  | _ :: _ => none
def big : Int := 18446744073709551616
def binop (h : Hh) : Bop → D → D → Option D
  | .add, .int i, .int j => some (.int (i + j))
  | .add, .str x, .str y => if x.length + y.length ≤ line then some (.str (x ++ y)) else none
  | .add, .tup xs, .tup ys => if xs.length + ys.length ≤ line then some (.tup (xs ++ ys)) else none
  | .add, a, b => match asLst h a, asLst h b with
    | some xs, some ys => if xs.length + ys.length ≤ line then some (.lst (xs ++ ys)) else none
    | _, _ => none
  | .sub, .int i, .int j => some (.int (i - j))
  | .mul, .int i, .int j => if (-big < i ∧ i < big) ∨ (-big < j ∧ j < big) then some (.int (i * j)) else none
  | .mul, .str x, .int j => if 0 ≤ j ∧ j ≤ 100000 ∧ x.length * j.toNat ≤ line then some (.str (List.flatten (List.replicate j.toNat x))) else none
  | .mul, .tup xs, .int j => if xs ≠ [] ∧ 2 ≤ j ∧ j ≤ 1000 ∧ xs.length ≤ 1000 then some (.tup (List.flatten (List.replicate j.toNat xs))) else none
  | .mul, .lst xs, .int j => if 0 ≤ j ∧ j ≤ 1000 ∧ xs.length ≤ 1000 then some (.lst (List.flatten (List.replicate j.toNat xs))) else none
  | .fdiv, .int i, .int j => if 0 < j ∧ j < 1073741824 then some (.int (i / j)) else none
  | .mod, .int i, .int j => if 0 < j then some (.int (i % j)) else none
  | .pow, .int i, .int j => if 0 ≤ j ∧ j ≤ 1000000 ∧ i.natAbs < 18446744073709551616 then some (.int (i ^ j.toNat)) else none
  | _, _, _ => none
def isPre : Tx → Tx → Bool
  | [], _ => true
  | _ :: _, [] => false
  | a :: x, b :: y => a == b && isPre x y
def isMem (h : Hh) (a b : D) : Option Bool := match asDct h b with
  | some kvs => (key1 a).map fun k => kvs.any fun q => decide (q.1 = k)
  | none => match asSeq h b with
    | some xs => if scalar a && xs.all scalar then some (xs.any fun y => y.eqv a) else none
    | none => none
def cmpop (h : Hh) : Cop → D → D → Option Bool
  | .eq, a, b => eqD h a b
  | .ne, a, b => (eqD h a b).map (!·)
  | .lt, .int i, .int j => some (decide (i < j))
  | .le, .int i, .int j => some (decide (i ≤ j))
  | .gt, .int i, .int j => some (decide (j < i))
  | .ge, .int i, .int j => some (decide (j ≤ i))
  | .lt, .str x, .str y => some (decide (x < y))
  | .le, .str x, .str y => some (!decide (y < x))
  | .is_, a, .non => some a.isNon
  | .isnt, a, .non => some (!a.isNon)
  | .is_, .bl a, .bl b => some (a == b)
  | .isnt, .bl a, .bl b => some (a != b)
  | .in_, .str [c], .str y => some (decide (c ∈ y))
  | .notin, .str [c], .str y => some (!decide (c ∈ y))
  | .in_, a, b => isMem h a b
  | .notin, a, b => (isMem h a b).map (!·)
  | _, _, _ => none
def ixn (n : Nat) (i : Int) : Option Nat := if 0 ≤ i then (if i < n then some i.toNat else none) else if -(n : Int) ≤ i then some (i + n).toNat else none
def look (k : K1) : List (K1 × D) → Option D
  | [] => none
  | (j, d) :: r => if j = k then some d else look k r
def put (k : K1) (d : D) (l : List (K1 × D)) : List (K1 × D) :=
  if l.any fun q => decide (q.1 = k) then l.map fun q => if q.1 = k then (q.1, d) else q else l ++ [(k, d)]
def drop1 (k : K1) (l : List (K1 × D)) : List (K1 × D) := l.filter fun q => decide (q.1 ≠ k)
def index (h : Hh) (a b : D) : Option D := match b with
  | .int i => (match a with
    | .str s => if s.length ≤ line then ((ixn s.length i).bind fun j => s[j]?).map fun c => .str [c] else none
    | _ => match asSeq h a with
      | some xs => (ixn xs.length i).bind fun j => xs[j]?
      | none => (asDct h a).bind fun kvs => look (.inl i) kvs)
  | .str s => (asDct h a).bind fun kvs => look (.inr s) kvs
  | _ => none
def six (n d : Nat) : Option Int → Nat
  | none => d
  | some v => if v < 0 then (v + (n : Int)).toNat else min v.toNat n
def cut {α : Type} (xs : List α) (lo hi : Option Int) : List α := (xs.drop (six xs.length 0 lo)).take (six xs.length xs.length hi - six xs.length 0 lo)
def slice (h : Hh) (a : D) (lo hi : Option Int) : Option D := match a with
  | .str s => if s.length ≤ line then some (.str (cut s lo hi)) else none
  | .tup xs => some (.tup (cut xs lo hi))
  | a => (asLst h a).map fun xs => .lst (cut xs lo hi)
mutual
def D.py : D → PySem.PyData
  | .non => .none
  | .bl b => .bool b
  | .int i => .int i
  | .str s => .str ⟨s.toArray⟩
  | .tup xs => .tuple (pyAll xs)
  | .lst xs => .list (pyAll xs)
  | _ => .none
def pyAll : List D → List PySem.PyData
  | [] => []
  | x :: xs => x.py :: pyAll xs
end
def joinT (sep : Tx) : List Tx → Tx
  | [] => []
  | [x] => x
  | x :: y :: r => x ++ sep ++ joinT sep (y :: r)
def digits (i : Int) : Tx := (toString i).toList.map Char.toNat
def reprD (d : D) : Tx := d.py.shown.cps.toList
def sortD (xs : List D) : List D := xs.mergeSort (PySem.W.dataLe false D.py)
def once (xs : List Tx) : List Tx := match xs with
  | [] => []
  | x :: xs => x :: (once xs).filter fun y => decide (y ≠ x)
def sortT (xs : List Tx) : List Tx := xs.mergeSort fun a b => !decide (b < a)
def sortI (xs : List Int) : List Int := xs.mergeSort fun a b => decide (a ≤ b)
def lenD (h : Hh) (d : D) : Option D := match d with
  | .str s => if s.length ≤ line then some (.int s.length) else none
  | d => match asSeq h d with
    | some xs => some (.int xs.length)
    | none => (asDct h d).map fun kvs => .int kvs.length
def absD (_ : Hh) : D → Option D
  | .int i => some (.int (if i < 0 then -i else i))
  | _ => none
def allD (h : Hh) (d : D) : Option D := ((asLst h d).bind asBools).map fun bs => .bl (bs.all id)
def anyD (h : Hh) (d : D) : Option D := ((asLst h d).bind asBools).map fun bs => .bl (bs.any id)
def sumD (h : Hh) (d : D) : Option D := ((asLst h d).bind asInts).map fun is => .int is.sum
def intD (_ : Hh) : D → Option D
  | .bl b => some (.int (if b then 1 else 0))
  | .int i => some (.int i)
  | _ => none
def strD (_ : Hh) : D → Option D
  | .int i => if i.natAbs < 2 ^ 1000 then some (.str (digits i)) else none
  | _ => none
def ordD (_ : Hh) : D → Option D
  | .str [c] => some (.int c)
  | _ => none
def listD (h : Hh) (d : D) : Option D := (asSeq h d).map .lst
def tupleD (h : Hh) (d : D) : Option D := match d with
  | .tup xs => some (.tup xs)
  | d => (asLst h d).map .tup
def empT : Nat := 1000
def dictD (h : Hh) (d : D) : Option D := match d with
  | .fn f => if f = empT then some (.dct []) else none
  | d => (asDct h d).map .dct
def intKeys : List (K1 × D) → Option (List Int)
  | [] => some []
  | (.inl i, _) :: r => (intKeys r).map (i :: ·)
  | _ => none
def textKeys : List (K1 × D) → Option (List Tx)
  | [] => some []
  | (.inr s, _) :: r => (textKeys r).map (s :: ·)
  | _ => none
def sortedL (h : Hh) (d : D) : Option D := (asLst h d).bind fun xs => match asInts xs with
  | some is => some (.lst ((sortI is).map .int))
  | none => if xs.length < 64 then (asTexts xs).map fun ts => .lst ((sortT ts).map .str) else none
def sortedK (h : Hh) (d : D) : Option D := (asDct h d).bind fun kvs => if kvs.length < 64 then (match intKeys kvs with
  | some is => some (.lst ((sortI is).map .int))
  | none => (textKeys kvs).map fun ts => .lst ((sortT ts).map .str)) else none
def minD (_ : Hh) : D → D → Option D
  | .int i, .int j => some (.int (if j < i then j else i))
  | _, _ => none
def maxD (_ : Hh) : D → D → Option D
  | .int i, .int j => some (.int (if j > i then j else i))
  | _, _ => none
inductive T1 where
  | non | bl | int | str | tup | lst | dct | own (c : Nat)
  deriving DecidableEq
def ty1 (h : Hh) : D → Option T1
  | .non => some .non
  | .bl _ => some .bl
  | .int _ => some .int
  | .str _ => some .str
  | .tup _ => some .tup
  | .lst _ => some .lst
  | .roi _ => some .lst
  | .dct _ => some .dct
  | .obj c _ => some (.own c)
  | .ref n => match h[n]? with
    | some (.lst _) => some .lst
    | some (.ro _) => some .lst
    | some (.dct _) => some .dct
    | some (.ins c _) => some (.own c)
    | some (.dtu _) => none
    | none => none
  | .fn _ => none
def isT (p : T1 → Option Bool) (h : Hh) (d : D) : Option D := ((ty1 h d).bind p).map .bl
def joinD (h : Hh) : D → D → Option (D × Option (Nat × O))
  | .str sep, d => (asSeq h d).bind fun xs => (asTexts xs).bind fun ts => if (ts.map List.length).sum + ts.length * sep.length ≤ line then some (.str (joinT sep ts), none) else none
  | _, _ => none
def appD (h : Hh) : D → D → Option (D × Option (Nat × O))
  | .ref n, d => match h[n]? with
    | some (.lst xs) => if xs.length < line then some (.non, some (n, .lst (xs ++ [d]))) else none
    | _ => none
  | _, _ => none
def popD (h : Hh) : D → D → Option (D × Option (Nat × O))
  | .ref n, .int i => match h[n]? with
    | some (.lst xs) => (ixn xs.length i).bind fun j => (xs[j]?).map fun d => (d, some (n, .lst (xs.eraseIdx j)))
    | _ => none
  | _, _ => none
def pop0D (h : Hh) : D → Option (D × Option (Nat × O))
  | .ref n => match h[n]? with
    | some (.lst xs) => (xs[xs.length - 1]?).map fun d => (d, some (n, .lst xs.dropLast))
    | _ => none
  | _ => none
def wr (h : Hh) : Option (Nat × O) → Hh
  | none => h
  | some (n, o) => h.set n o
@[simp] theorem wr_none (h : Hh) : wr h none = h := (rfl)
@[simp] theorem wr_some (h : Hh) (n : Nat) (o : O) : wr h (some (n, o)) = h.set n o := (rfl)
inductive G where
  | nm (i : Nat)
  | tp (gs : List G)
inductive It where
  | e | range | enum | zip
inductive SR where
  | nx (σ : Sg) (h : Hh)
  | rt (d : D) (h : Hh)
  | bk (σ : Sg) (h : Hh)
  | ct (σ : Sg) (h : Hh)
  | xn (x : Exn) (σ : Sg) (h : Hh)
  | bad
def sget (σ : Sg) (i : Nat) : Option D := match σ[i]? with
  | some (some d) => some d
  | _ => none
def wipe (σ : Sg) : List Nat → Sg
  | [] => σ
  | v :: vs => (wipe σ vs).set v none
mutual
def bindG (σ : Sg) : G → D → Option Sg
  | .nm i, d => some (σ.set i (some d))
  | .tp gs, .tup xs => bindGs σ gs xs
  | .tp gs, .lst xs => bindGs σ gs xs
  | _, _ => none
def bindGs (σ : Sg) : List G → List D → Option Sg
  | [], [] => some σ
  | g :: gs, x :: xs => match bindG σ g x with
    | some σ => bindGs σ gs xs
    | none => none
  | _, _ => none
end
mutual
def G.ix : G → List Nat
  | .nm i => [i]
  | .tp gs => ixs gs
def ixs : List G → List Nat
  | [] => []
  | g :: gs => g.ix ++ ixs gs
end
def rangeD (lo : Int) (n : Nat) : List D := (List.range n).map fun (i : Nat) => .int (lo + (i : Int))
def zipD : List D → List D → List D
  | x :: xs, y :: ys => .tup [x, y] :: zipD xs ys
  | _, _ => []
def zip3D : List D → List D → List D → List D
  | x :: xs, y :: ys, z :: zs => .tup [x, y, z] :: zip3D xs ys zs
  | _, _, _ => []
def enumD (xs : List D) : List D := xs.zipIdx.map fun q => .tup [.int q.2, q.1]
def lim : Int := 4611686018427387904
def walk : It → List D → Option (List D)
  | .e, [.str s] => some (s.map fun c => .str [c])
  | .e, [.lst xs] => some xs
  | .e, [.tup xs] => some xs
  | .range, [.int n] => if -lim ≤ n ∧ n < lim then some (rangeD 0 n.toNat) else none
  | .range, [.int m, .int n] => if -lim ≤ m ∧ m < lim ∧ -lim ≤ n ∧ n < lim then some (rangeD m (n - m).toNat) else none
  | .enum, [.lst xs] => some (enumD xs)
  | .zip, [.lst xs, .lst ys] => some (zipD xs ys)
  | .zip, [.tup xs, .tup ys] => some (zipD xs ys)
  | .zip, [.lst xs, .lst ys, .lst zs] => some (zip3D xs ys zs)
  | _, _ => none
abbrev Call := Nat → List D → Hh → R D
abbrev TM := Sg → Hh → R D
abbrev AM := Sg → Hh → R (List D)
abbrev BM := Sg → Hh → R Bool
abbrev SM := Sg → Hh → SR
def optB (o : Option Bool) (h : Hh) : R Bool := match o with
  | some d => .ok d h
  | none => .bad
@[simp] theorem optB_some (d : Bool) (h : Hh) : optB (some d) h = .ok d h := (rfl)
@[simp] theorem optB_none (h : Hh) : optB none h = .bad := (rfl)
def eC (d : D) : TM := fun _ h => .ok d h
def eV (i : Nat) : TM := fun σ h => opt (sget σ i) h
def aNil : AM := fun _ h => .ok [] h
def aCons (a : TM) (r : AM) : AM := fun σ h => (a σ h).bind fun d h => (r σ h).bind fun ds h => .ok (d :: ds) h
def eTup (as : AM) : TM := fun σ h => (as σ h).bind fun ds h => if ds.length ≤ line then .ok (.tup ds) h else .bad
def eLst (as : AM) : TM := fun σ h => (as σ h).bind fun ds h => if ds.length ≤ line then .ok (.lst ds) h else .bad
def eDct0 : TM := fun _ h => .ok (.dct []) h
def eNewL (as : AM) : TM := fun σ h => (as σ h).bind fun ds h => if ds.length ≤ line then .ok (.ref h.length) (h ++ [.lst ds]) else .bad
def eNewD : TM := fun _ h => .ok (.ref h.length) (h ++ [.dct []])
def eBin (op : Bop) (a b : TM) : TM := fun σ h => (a σ h).bind fun d h => (b σ h).bind fun e h => opt (binop h op d e) h
def eCmp (op : Cop) (a b : TM) : TM := fun σ h => (a σ h).bind fun d h => (b σ h).bind fun e h => opt ((cmpop h op d e).map .bl) h
def eAnd (a b : TM) : TM := fun σ h => (a σ h).bind fun d h => match tru h d with
  | none => .bad
  | some true => b σ h
  | some false => .ok d h
def eOr (a b : TM) : TM := fun σ h => (a σ h).bind fun d h => match tru h d with
  | none => .bad
  | some true => .ok d h
  | some false => b σ h
def eNot (a : TM) : TM := fun σ h => (a σ h).bind fun d h => opt ((tru h d).map fun t => .bl (!t)) h
def eIte (t : BM) (a b : TM) : TM := fun σ h => (t σ h).bind fun k h => if k then a σ h else b σ h
def eNeg (a : TM) : TM := fun σ h => (a σ h).bind fun d h => match d with
  | .int i => .ok (.int (-i)) h
  | _ => .bad
def eCall (c : List D → Hh → R D) (as : AM) : TM := fun σ h => (as σ h).bind fun ds h => c ds h
def eMeth (c : List D → Hh → R D) (cls : Nat) (a : TM) (as : AM) : TM := fun σ h => (a σ h).bind fun d h => match asObj h d with
  | some (k, _) => if k = cls then (as σ h).bind fun ds h => c (d :: ds) h else .bad
  | none => .bad
def eU (f : Hh → D → Option D) (a : TM) : TM := fun σ h => (a σ h).bind fun d h => opt (f h d) h
def eU2 (f : Hh → D → D → Option D) (a b : TM) : TM := fun σ h => (a σ h).bind fun d h => (b σ h).bind fun e h => opt (f h d e) h
def optW (h : Hh) (o : Option (D × Option (Nat × O))) : R D := match o with
  | none => .bad
  | some (r, w) => .ok r (wr h w)
@[simp] theorem optW_some (h : Hh) (r : D) (w : Option (Nat × O)) : optW h (some (r, w)) = .ok r (wr h w) := (rfl)
def eM (k : Hh → D → Bool) (f : Hh → D → D → Option (D × Option (Nat × O))) (a b : TM) : TM := fun σ h => (a σ h).bind fun d h => if k h d then (b σ h).bind fun e h => optW h (f h d e) else .bad
def eM0 (f : Hh → D → Option (D × Option (Nat × O))) (a : TM) : TM := fun σ h => (a σ h).bind fun d h => optW h (f h d)
def isLst (h : Hh) (d : D) : Bool := (asLst h d).isSome
def isStr (_ : Hh) : D → Bool
  | .str _ => true
  | _ => false
def eIx (a b : TM) : TM := fun σ h => (a σ h).bind fun d h => (b σ h).bind fun e h => opt (index h d e) h
abbrev OM := Sg → Hh → R (Option Int)
def oN : OM := fun _ h => .ok none h
def oS (a : TM) : OM := fun σ h => (a σ h).bind fun d h => match d with
  | .int i => .ok (some i) h
  | _ => .bad
def eSl (a : TM) (lo hi : OM) : TM := fun σ h => (a σ h).bind fun d h => (lo σ h).bind fun l h => (hi σ h).bind fun u h => opt (slice h d l u) h
def eFld (cls k : Nat) (a : TM) : TM := fun σ h => (a σ h).bind fun d h => match asObj h d with
  | some (c, fs) => if c = cls then opt (fs.lookup k) h else .bad
  | none => .bad
def eCallK (c : List D → Hh → R D) (g : List D → List D → List D) (as ks : AM) : TM := fun σ h => (as σ h).bind fun ds h => (ks σ h).bind fun es h => c (g ds es) h
def bT (a : TM) : BM := fun σ h => (a σ h).bind fun d h => optB (tru h d) h
def bCmp (op : Cop) (a b : TM) : BM := fun σ h => (a σ h).bind fun d h => (b σ h).bind fun e h => optB (cmpop h op d e) h
def bCh (op op' : Cop) (a b c : TM) : BM := fun σ h => (a σ h).bind fun d h => (b σ h).bind fun e h => match cmpop h op d e with
  | none => .bad
  | some false => .ok false h
  | some true => (c σ h).bind fun f h => optB (cmpop h op' e f) h
def eCh (op op' : Cop) (a b c : TM) : TM := fun σ h => (bCh op op' a b c σ h).bind fun k h => .ok (.bl k) h
def bAnd (a b : BM) : BM := fun σ h => (a σ h).bind fun k h => if k then b σ h else .ok false h
def bOr (a b : BM) : BM := fun σ h => (a σ h).bind fun k h => if k then .ok true h else b σ h
def bNot (a : BM) : BM := fun σ h => (a σ h).bind fun k h => .ok (!k) h
def bYes : BM := fun _ h => .ok true h
def lcL (step : D → Hh → R (Option D)) : List D → List D → Hh → R (List D)
  | [], acc, h => .ok acc h
  | x :: xs, acc, h => (step x h).bind fun o h => match o with
    | none => lcL step xs acc h
    | some d => if acc.length < line then lcL step xs (acc ++ [d]) h else .bad
def noX {α : Type} : R α → R α
  | .xn _ _ => .bad
  | r => r
@[simp] theorem noX_ok {α : Type} (a : α) (h : Hh) : noX (.ok a h) = .ok a h := (rfl)
@[simp] theorem noX_xn {α : Type} (x : Exn) (h : Hh) : noX (.xn x h : R α) = .bad := (rfl)
@[simp] theorem noX_bad {α : Type} : noX (.bad : R α) = .bad := (rfl)
def itM (it : It) (src : AM) : AM := fun σ h => (src σ h).bind fun ds h => match walk it ds with
  | none => .bad
  | some xs => .ok xs h
def lcStep (elt : TM) (g : G) (cond : BM) (own : List Nat) (σ : Sg) (x : D) (h : Hh) : R (Option D) := match bindG (wipe σ own) g x with
  | none => .bad
  | some σ => (cond σ h).bind fun t h => if t then (elt σ h).bind fun d h => .ok (some d) h else .ok none h
def eLc (elt : TM) (g : G) (it : It) (src : AM) (cond : BM) (own : List Nat) : TM := fun σ h => (itM it src σ h).bind fun xs h => (noX (lcL (lcStep elt g cond own σ) xs [] h)).bind fun ys h => .ok (.lst ys) h
def lcL2 (step : D → List D → Hh → R (List D)) : List D → List D → Hh → R (List D)
  | [], acc, h => .ok acc h
  | x :: xs, acc, h => (step x acc h).bind fun acc h => lcL2 step xs acc h
def lcStep2 (elt : TM) (g : G) (cond : BM) (g1 : G) (it1 : It) (src1 : AM) (cond1 : BM) (own own1 : List Nat) (σ : Sg) (x : D) (acc : List D) (h : Hh) : R (List D) := match bindG (wipe σ own) g x with
  | none => .bad
  | some σ => (cond σ h).bind fun t h => if t then (itM it1 src1 σ h).bind fun ys h => noX (lcL (lcStep elt g1 cond1 own1 σ) ys acc h) else .ok acc h
def eLc2 (elt : TM) (g : G) (it : It) (src : AM) (cond : BM) (g1 : G) (it1 : It) (src1 : AM) (cond1 : BM) (own own1 : List Nat) : TM := fun σ h => (itM it src σ h).bind fun xs h => (noX (lcL2 (lcStep2 elt g cond g1 it1 src1 cond1 own own1 σ) xs [] h)).bind fun ys h => .ok (.lst ys) h
def SR.of {α : Type} (σ : Sg) (r : R α) (k : α → Hh → SR) : SR := match r with
  | .ok a h => k a h
  | .xn x h => .xn x σ h
  | .bad => .bad
@[simp] theorem SR.of_ok {α : Type} (σ : Sg) (a : α) (h : Hh) (k : α → Hh → SR) : SR.of σ (.ok a h) k = k a h := (rfl)
@[simp] theorem SR.of_xn {α : Type} (σ : Sg) (x : Exn) (h : Hh) (k : α → Hh → SR) : SR.of σ (.xn x h) k = .xn x σ h := (rfl)
@[simp] theorem SR.of_bad {α : Type} (σ : Sg) (k : α → Hh → SR) : SR.of σ .bad k = .bad := (rfl)
def SR.then_ (r : SR) (k : Sg → Hh → SR) : SR := match r with
  | .nx σ h => k σ h
  | r => r
@[simp] theorem SR.then_nx (σ : Sg) (h : Hh) (k : Sg → Hh → SR) : SR.then_ (.nx σ h) k = k σ h := (rfl)
@[simp] theorem SR.then_rt (d : D) (h : Hh) (k : Sg → Hh → SR) : SR.then_ (.rt d h) k = .rt d h := (rfl)
@[simp] theorem SR.then_bk (σ : Sg) (h : Hh) (k : Sg → Hh → SR) : SR.then_ (.bk σ h) k = .bk σ h := (rfl)
@[simp] theorem SR.then_ct (σ : Sg) (h : Hh) (k : Sg → Hh → SR) : SR.then_ (.ct σ h) k = .ct σ h := (rfl)
@[simp] theorem SR.then_xn (x : Exn) (σ : Sg) (h : Hh) (k : Sg → Hh → SR) : SR.then_ (.xn x σ h) k = .xn x σ h := (rfl)
@[simp] theorem SR.then_bad (k : Sg → Hh → SR) : SR.then_ .bad k = .bad := (rfl)
def sNil : SM := fun σ h => .nx σ h
def sCons (a b : SM) : SM := fun σ h => (a σ h).then_ b
def sSet (i : Nat) (e : TM) : SM := fun σ h => .of σ (e σ h) fun d h => .nx (σ.set i (some d)) h
def sAsg (g : G) (e : TM) : SM := fun σ h => .of σ (e σ h) fun d h => match bindG σ g d with
  | some σ => .nx σ h
  | none => .bad
def augD : Bop → D → D → Option D
  | .add, .int i, .int j => some (.int (i + j))
  | .add, .str x, .str y => if x.length + y.length ≤ line then some (.str (x ++ y)) else none
  | .sub, .int i, .int j => some (.int (i - j))
  | _, _, _ => none
def sAug (i : Nat) (op : Bop) (e : TM) : SM := fun σ h => match sget σ i with
  | none => .bad
  | some d => .of σ (e σ h) fun e h => match augD op d e with
    | some r => .nx (σ.set i (some r)) h
    | none => .bad
def setIx (h : Hh) (a b c : D) : Option Hh := match a with
  | .ref n => match h[n]?, b with
    | some (.lst xs), .int i => (ixn xs.length i).map fun j => h.set n (.lst (xs.set j c))
    | some (.dct kvs), b => (key1 b).bind fun k => if kvs.length < line then some (h.set n (.dct (put k c kvs))) else none
    | _, _ => none
  | _ => none
def sSetI (a b c : TM) : SM := fun σ h => .of σ (c σ h) fun v h => .of σ (a σ h) fun o h => .of σ (b σ h) fun i h => match setIx h o i v with
  | some h => .nx σ h
  | none => .bad
def putF (k : Nat) (d : D) : List (Nat × D) → List (Nat × D)
  | [] => [(k, d)]
  | (j, e) :: r => if j = k then (j, d) :: r else (j, e) :: putF k d r
def setFld (h : Hh) (cls k : Nat) (o v : D) : Option Hh := match o with
  | .ref n => match h[n]? with
    | some (.ins c fs) => if c = cls ∧ fs.length < 100 then some (h.set n (.ins c (putF k v fs))) else none
    | _ => none
  | _ => none
def sSetF (cls : Nat) (a : TM) (k : Nat) (c : TM) : SM := fun σ h => .of σ (c σ h) fun v h => .of σ (a σ h) fun o h => match setFld h cls k o v with
  | some h => .nx σ h
  | none => .bad
def sEx (e : TM) : SM := fun σ h => .of σ (e σ h) fun _ h => .nx σ h
def sRet (e : TM) : SM := fun σ h => .of σ (e σ h) fun d h => .rt d h
def sRetN : SM := fun _ h => .rt .non h
def sIf (t : BM) (a b : SM) : SM := fun σ h => .of σ (t σ h) fun k h => if k then a σ h else b σ h
def forL (body : D → Sg → Hh → SR) : List D → Sg → Hh → SR
  | [], σ, h => .nx σ h
  | x :: xs, σ, h => match body x σ h with
    | .nx σ h => forL body xs σ h
    | .ct σ h => forL body xs σ h
    | .bk σ h => .nx σ h
    | r => r
def forB (g : G) (b : SM) (x : D) (σ : Sg) (h : Hh) : SR := match bindG σ g x with
  | none => .bad
  | some σ => b σ h
def sFor (g : G) (it : It) (src : AM) (b : SM) : SM := fun σ h => .of σ (itM it src σ h) fun xs h => forL (forB g b) xs σ h
def whL (t : BM) (b : SM) : Nat → Sg → Hh → SR
  | 0, _, _ => .bad
  | n + 1, σ, h => .of σ (t σ h) fun k h => if k then (match b σ h with
    | .nx σ h => whL t b n σ h
    | .ct σ h => whL t b n σ h
    | .bk σ h => .nx σ h
    | r => r) else .nx σ h
def sWh (fuel : Nat) (t : BM) (b : SM) : SM := whL t b fuel
def sBrk : SM := fun σ h => .bk σ h
def sCnt : SM := fun σ h => .ct σ h
def sRaise (c : Nat) : SM := fun σ h => .xn ⟨c, none⟩ σ h
mutual
def D.closed : D → Bool
  | .tup xs => closedAll xs
  | .lst xs => closedAll xs
  | .dct kvs => closedK kvs
  | .obj _ fs => closedF fs
  | .ref _ => false
  | _ => true
def closedAll : List D → Bool
  | [] => true
  | x :: xs => x.closed && closedAll xs
def closedK : List (K1 × D) → Bool
  | [] => true
  | x :: xs => x.2.closed && closedK xs
def closedF : List (Nat × D) → Bool
  | [] => true
  | x :: xs => x.2.closed && closedF xs
end
def O.closed : O → Bool
  | .lst xs => closedAll xs
  | .ro xs => closedAll xs
  | .dct kvs => closedK kvs
  | .ins _ fs => closedF fs
  | .dtu _ => false
def lend (k : Nat) : List D → Option (List D × List Nat)
  | [] => some ([], [])
  | .ref n :: r => (lend (k + 1) r).map fun q => (.ref k :: q.1, n :: q.2)
  | d :: r => if d.closed then (lend k r).map fun q => (d :: q.1, q.2) else none
def lentO (h : Hh) : List Nat → Option Hh
  | [] => some []
  | n :: r => match h[n]? with
    | some o => if o.closed then (lentO h r).map (o :: ·) else none
    | none => none
mutual
def D.map_ (g : Nat → Option D) : D → Option D
  | .tup xs => (mapAll g xs).map .tup
  | .lst xs => (mapAll g xs).map .lst
  | .dct kvs => (mapK g kvs).map .dct
  | .obj c fs => (mapF g fs).map (.obj c)
  | .ref n => g n
  | d => some d
def mapAll (g : Nat → Option D) : List D → Option (List D)
  | [] => some []
  | x :: xs => (x.map_ g).bind fun y => (mapAll g xs).map (y :: ·)
def mapK (g : Nat → Option D) : List (K1 × D) → Option (List (K1 × D))
  | [] => some []
  | x :: xs => (x.2.map_ g).bind fun y => (mapK g xs).map ((x.1, y) :: ·)
def mapF (g : Nat → Option D) : List (Nat × D) → Option (List (Nat × D))
  | [] => some []
  | x :: xs => (x.2.map_ g).bind fun y => (mapF g xs).map ((x.1, y) :: ·)
end
def frz (h : Hh) (k : Nat) : Nat → Nat → Option D
  | 0, _ => none
  | f + 1, n => if n < k then none else match h[n]? with
    | some (.lst xs) => (mapAll (frz h k f) xs).map .lst
    | some (.dct kvs) => (mapK (frz h k f) kvs).map .dct
    | some (.ins c fs) => (mapF (frz h k f) fs).map (.obj c)
    | _ => none
def frzO (h : Hh) (k : Nat) : O → Option O
  | .lst xs => (mapAll (frz h k 4) xs).map .lst
  | .ro xs => (mapAll (frz h k 4) xs).map .ro
  | .dct kvs => (mapK (frz h k 4) kvs).map .dct
  | .ins c fs => (mapF (frz h k 4) fs).map (.ins c)
  | .dtu _ => none
def tell (h : Hh) (ns : List Nat) (d : D) : Option D := match d with
  | .ref n => match ns[n]? with
    | some m => some (.ref m)
    | none => frz h ns.length 4 n
  | d => d.map_ (frz h ns.length 4)
def giveBack (hc : Hh) (k : Nat) : List Nat → Nat → Hh → Option Hh
  | [], _, h => some h
  | n :: ns, i, h => match hc[i]? with
    | some o => (frzO hc k o).bind fun o => giveBack hc k ns (i + 1) (h.set n o)
    | none => none
def tellX (h : Hh) (ns : List Nat) (x : Exn) : Option Exn := match x.fld with
  | none => some ⟨x.cls, none⟩
  | some (k, d) => (tell h ns d).map fun d => ⟨x.cls, some (k, d)⟩
def okB (d : Option D) (h : Option Hh) : R D := match d, h with
  | some d, some h => .ok d h
  | _, _ => .bad
@[simp] theorem okB_some (d : D) (h : Hh) : okB (some d) (some h) = .ok d h := (rfl)
def xnB (x : Option Exn) (h : Option Hh) : R D := match x, h with
  | some x, some h => .xn x h
  | _, _ => .bad
@[simp] theorem xnB_some (x : Exn) (h : Hh) : xnB (some x) (some h) = .xn x h := (rfl)
def back (ns : List Nat) (h : Hh) : SR → R D
  | .nx _ hc => okB (some .non) (giveBack hc ns.length ns 0 h)
  | .rt d hc => okB (tell hc ns d) (giveBack hc ns.length ns 0 h)
  | .xn x _ hc => xnB (tellX hc ns x) (giveBack hc ns.length ns 0 h)
  | _ => .bad
def mkBack (ns : List Nat) (h : Hh) : SR → R D
  | .nx _ hc => back ns h (.rt (.ref ns.length) hc)
  | .rt .non hc => back ns h (.rt (.ref ns.length) hc)
  | .xn x σ hc => back ns h (.xn x σ hc)
  | _ => .bad
def startD (N : Nat) (ds : List D) : Sg := ds.map some ++ List.replicate (N - ds.length) none
def lent (ds : List D) (h : Hh) : Option (List D × List Nat × Hh) := match lend 0 ds with
  | none => none
  | some (ds', ns) => if ns.Nodup then match lentO h ns with
    | none => none
    | some hc => some (ds', ns, hc) else none
def own (np N : Nat) (b : SM) (ds : List D) (h : Hh) : R D := if ds.length = np then (match lent ds h with
  | none => .bad
  | some (ds', ns, hc) => back ns h (b (startD N ds') hc)) else .bad
def make (c np N : Nat) (b : SM) (ds : List D) (h : Hh) : R D := if ds.length + 1 = np then (match lent ds h with
  | none => .bad
  | some (ds', ns, hc) => mkBack ns h (b (startD N (.ref ns.length :: ds')) (hc ++ [.ins c []]))) else .bad
def SR.out : SR → R D
  | .nx _ h => .ok .non h
  | .rt d h => .ok d h
  | .xn x _ h => .xn x h
  | _ => .bad
def full (np N : Nat) (b : SM) (ds : List D) (h : Hh) : R D := if ds.length = np then (b (startD N ds) h).out else .bad
end Fw
end
section
set_option Elab.async false
set_option linter.all false
set_option maxRecDepth 100000
set_option autoImplicit false
set_option maxHeartbeats 1000000
namespace Fw
open PySem PySem.Spec PyProof.Rows L2
structure Wd where
  K : PySem.W.Frag
  fa : Nat → Addr
  ca : Nat → Addr
  an : Nat → Str
  inj : ∀ j k, an j = an k → j = k
def toS (t : Tx) : Str := ⟨t.toArray⟩
theorem toS_inj {a b : Tx} (h : toS a = toS b) : a = b := by
  have := congrArg (fun s : Str => s.cps.toList) h
  simpa [toS] using this
def keyS : K1 → Key
  | .inl i => .inl i
  | .inr s => .inr (toS s)
theorem keyS_inj {a b : K1} (h : keyS a = keyS b) : a = b := by
  cases a <;> cases b <;> simp [keyS] at h ⊢
  · exact h
  · exact toS_inj h
def KTup (K : PySem.W.Frag) (a : Addr) (vs : List V) : Prop :=
  ∃ (o : Obj) (its : Array Value) (n : Nat), K.lookup a = some o ∧ o.cls = .type "tuple" ∧ o.data = .seq its n ∧ its.size ≤ sizeLine ∧ Vals vs its.toList
def KLst (K : PySem.W.Frag) (a : Addr) (vs : List V) : Prop :=
  ∃ (o : Obj) (its : Array Value) (n : Nat), K.lookup a = some o ∧ o.cls = .type "list" ∧ o.dict = none ∧ o.data = .seq its n ∧ its.size ≤ sizeLine ∧ Vals vs its.toList
def RoI (K : PySem.W.Frag) (Z ρ : List Addr) (H : Hp) (a : Addr) (is : List Int) : Prop := (a ∉ Z ∧ a ∉ ρ ∧ Rd H a (.lst (is.map V.int))) ∨ KLst K a (is.map V.int)
mutual
inductive RD (W : Wd) (Z ρ : List Addr) (H : Hp) : D → V → Prop
  | non : RD W Z ρ H .non .non
  | bl (b : Bool) : RD W Z ρ H (.bl b) (.bl b)
  | int (i : Int) : RD W Z ρ H (.int i) (.int i)
  | str (s : Tx) : RD W Z ρ H (.str s) (.str (toS s))
  | tup {a : Addr} {ds : List D} {vs : List V} : a ∉ Z → a ∉ ρ → H a = some (.tup vs) → RDs W Z ρ H ds vs → RD W Z ρ H (.tup ds) (.ref a)
  | tupK {a : Addr} {ds : List D} {vs : List V} : KTup W.K a vs → RDs W Z ρ H ds vs → RD W Z ρ H (.tup ds) (.ref a)
  | lst {a : Addr} {ds : List D} {vs : List V} : a ∉ Z → a ∉ ρ → H a = some (.lst vs) → RDs W Z ρ H ds vs → RD W Z ρ H (.lst ds) (.ref a)
  | dct {a : Addr} {kds : List (K1 × D)} {kvs : List (Key × V)} : a ∉ Z → a ∉ ρ → Rd H a (.dK kvs) → RKs W Z ρ H kds kvs → RD W Z ρ H (.dct kds) (.ref a)
  | obj {a dx : Addr} {c : Nat} {fs : List (Nat × D)} {gs : List (Str × V)} : a ∉ Z → a ∉ ρ → H a = some (.ins (W.ca c) dx gs) → RFs W Z ρ H fs gs → RD W Z ρ H (.obj c fs) (.ref a)
  | ref {a : Addr} {n : Nat} : ρ[n]? = some a → RD W Z ρ H (.ref n) (.ref a)
  | fn (f : Nat) : RD W Z ρ H (.fn f) (.ref (W.fa f))
  | roi {a : Addr} {is : List Int} : RoI W.K Z ρ H a is → RD W Z ρ H (.roi is) (.ref a)
inductive RDs (W : Wd) (Z ρ : List Addr) (H : Hp) : List D → List V → Prop
  | nil : RDs W Z ρ H [] []
  | cons {d : D} {ds : List D} {v : V} {vs : List V} : RD W Z ρ H d v → RDs W Z ρ H ds vs → RDs W Z ρ H (d :: ds) (v :: vs)
inductive RKs (W : Wd) (Z ρ : List Addr) (H : Hp) : List (K1 × D) → List (Key × V) → Prop
  | nil : RKs W Z ρ H [] []
  | cons {k : K1} {d : D} {ds : List (K1 × D)} {v : V} {vs : List (Key × V)} : RD W Z ρ H d v → RKs W Z ρ H ds vs → RKs W Z ρ H ((k, d) :: ds) ((keyS k, v) :: vs)
inductive RFs (W : Wd) (Z ρ : List Addr) (H : Hp) : List (Nat × D) → List (Str × V) → Prop
  | nil : RFs W Z ρ H [] []
  | cons {k : Nat} {d : D} {ds : List (Nat × D)} {v : V} {vs : List (Str × V)} : RD W Z ρ H d v → RFs W Z ρ H ds vs → RFs W Z ρ H ((k, d) :: ds) ((W.an k, v) :: vs)
end
structure Ext (ρ : List Addr) (H : Hp) (ρ' : List Addr) (H' : Hp) : Prop where
  pre : ρ <+: ρ'
  keep : ∀ a o, a ∉ ρ → H a = some o → a ∉ ρ' ∧ H' a = some o
theorem Ext.refl {ρ : List Addr} {H : Hp} : Ext ρ H ρ H := ⟨List.prefix_rfl, fun _ _ h e => ⟨h, e⟩⟩
theorem Ext.trans {ρ ρ1 ρ2 : List Addr} {H H1 H2 : Hp} (x : Ext ρ H ρ1 H1) (y : Ext ρ1 H1 ρ2 H2) : Ext ρ H ρ2 H2 :=
  ⟨x.pre.trans y.pre, fun a o h e => let ⟨h1, e1⟩ := x.keep a o h e; y.keep a o h1 e1⟩
theorem Ext.rd {ρ ρ' : List Addr} {H H' : Hp} (x : Ext ρ H ρ' H') {a : Addr} {u : HO} (h : a ∉ ρ) (r : Rd H a u) : a ∉ ρ' ∧ Rd H' a u := by
  rcases r with r | ⟨o, r⟩
  · exact ⟨(x.keep a _ h r).1, .inl (x.keep a _ h r).2⟩
  · exact ⟨(x.keep a _ h r).1, .inr ⟨o, (x.keep a _ h r).2⟩⟩
theorem pre_get {ρ ρ' : List Addr} (h : ρ <+: ρ') {n : Nat} {a : Addr} (e : ρ[n]? = some a) : ρ'[n]? = some a := by
  obtain ⟨t, rfl⟩ := h
  rw [List.getElem?_append_left (List.getElem?_eq_some_iff.mp e).1]
  exact e
section
variable {W : Wd} {Z ρ ρ' : List Addr} {H H' : Hp}
mutual
theorem RD.mono (x : Ext ρ H ρ' H') : ∀ {d : D} {v : V}, RD W Z ρ H d v → RD W Z ρ' H' d v
  | _, _, .non => .non
  | _, _, .bl b => .bl b
  | _, _, .int i => .int i
  | _, _, .str s => .str s
  | _, _, .tup z r q t => .tup z (x.keep _ _ r q).1 (x.keep _ _ r q).2 (RDs.mono x t)
  | _, _, .tupK k t => .tupK k (RDs.mono x t)
  | _, _, .lst z r q t => .lst z (x.keep _ _ r q).1 (x.keep _ _ r q).2 (RDs.mono x t)
  | _, _, .dct z r q t => .dct z (x.rd r q).1 (x.rd r q).2 (RKs.mono x t)
  | _, _, .obj z r q t => .obj z (x.keep _ _ r q).1 (x.keep _ _ r q).2 (RFs.mono x t)
  | _, _, .ref e => .ref (pre_get x.pre e)
  | _, _, .fn f => .fn f
  | _, _, .roi q => .roi (q.elim (fun ⟨z, r, q⟩ => .inl ⟨z, (x.rd r q).1, (x.rd r q).2⟩) .inr)
theorem RDs.mono (x : Ext ρ H ρ' H') : ∀ {ds : List D} {vs : List V}, RDs W Z ρ H ds vs → RDs W Z ρ' H' ds vs
  | _, _, .nil => .nil
  | _, _, .cons r t => .cons (RD.mono x r) (RDs.mono x t)
theorem RKs.mono (x : Ext ρ H ρ' H') : ∀ {ds : List (K1 × D)} {vs : List (Key × V)}, RKs W Z ρ H ds vs → RKs W Z ρ' H' ds vs
  | _, _, .nil => .nil
  | _, _, .cons r t => .cons (RD.mono x r) (RKs.mono x t)
theorem RFs.mono (x : Ext ρ H ρ' H') : ∀ {ds : List (Nat × D)} {vs : List (Str × V)}, RFs W Z ρ H ds vs → RFs W Z ρ' H' ds vs
  | _, _, .nil => .nil
  | _, _, .cons r t => .cons (RD.mono x r) (RFs.mono x t)
end
theorem RDs.length {ds : List D} {vs : List V} (r : RDs W Z ρ H ds vs) : ds.length = vs.length := by
  induction vs generalizing ds with
  | nil => cases r; rfl
  | cons v vs ih =>
    cases r with
    | cons _ t => simp [ih t]
theorem RDs.get {n : Nat} {d : D} : ∀ {ds : List D} {vs : List V}, RDs W Z ρ H ds vs → ds[n]? = some d → ∃ v, vs[n]? = some v ∧ RD W Z ρ H d v := by
  induction n with
  | zero =>
    intro ds vs r e
    cases r with
    | nil => simp at e
    | cons r t => simp at e; subst e; exact ⟨_, rfl, r⟩
  | succ n ih =>
    intro ds vs r e
    cases r with
    | nil => simp at e
    | cons r t => simpa using ih t (by simpa using e)
theorem RDs.append : ∀ {ds es : List D} {vs us : List V}, RDs W Z ρ H ds vs → RDs W Z ρ H es us → RDs W Z ρ H (ds ++ es) (vs ++ us) := by
  intro ds
  induction ds with
  | nil => intro es vs us r t; cases r; exact t
  | cons d ds ih => intro es vs us r t; cases r with | cons r1 r2 => exact .cons r1 (ih r2 t)
theorem RDs.drop : ∀ {n : Nat} {ds : List D} {vs : List V}, RDs W Z ρ H ds vs → RDs W Z ρ H (ds.drop n) (vs.drop n) := by
  intro n
  induction n with
  | zero => intro ds vs r; exact r
  | succ n ih => intro ds vs r; cases r with | nil => exact .nil | cons _ t => exact ih t
theorem RDs.take : ∀ {n : Nat} {ds : List D} {vs : List V}, RDs W Z ρ H ds vs → RDs W Z ρ H (ds.take n) (vs.take n) := by
  intro n
  induction n with
  | zero => intro ds vs r; exact .nil
  | succ n ih => intro ds vs r; cases r with | nil => exact .nil | cons r t => exact .cons r (ih t)
theorem RDs.reverse : ∀ {ds : List D} {vs : List V}, RDs W Z ρ H ds vs → RDs W Z ρ H ds.reverse vs.reverse := by
  intro ds
  induction ds with
  | nil => intro vs r; cases r; exact .nil
  | cons d ds ih => intro vs r; cases r with | cons r t => simpa using (ih t).append (.cons r .nil)
theorem RDs.set {d : D} {v : V} (r : RD W Z ρ H d v) : ∀ {n : Nat} {ds : List D} {vs : List V}, RDs W Z ρ H ds vs → RDs W Z ρ H (ds.set n d) (vs.set n v) := by
  intro n
  induction n with
  | zero => intro ds vs t; cases t with | nil => exact .nil | cons _ t => exact .cons r t
  | succ n ih => intro ds vs t; cases t with | nil => exact .nil | cons q t => exact .cons q (ih t)
end
inductive OR (W : Wd) (Z ρ : List Addr) (H : Hp) (a : Addr) : O → Prop
  | lst {ds : List D} {vs : List V} : H a = some (.lst vs) → RDs W Z ρ H ds vs → OR W Z ρ H a (.lst ds)
  | ro {ds : List D} {vs : List V} : Rd H a (.lst vs) → RDs W Z ρ H ds vs → OR W Z ρ H a (.ro ds)
  | dct {kds : List (K1 × D)} {kvs : List (Key × V)} : H a = some (.dK kvs) → RKs W Z ρ H kds kvs → OR W Z ρ H a (.dct kds)
  | ins {c : Nat} {dx : Addr} {fs : List (Nat × D)} {gs : List (Str × V)} : H a = some (.ins (W.ca c) dx gs) → RFs W Z ρ H fs gs → OR W Z ρ H a (.ins c fs)
  | dtu {kds : List (List K1 × D)} {kvs : List (List Key × V)} : H a = some (.dT kvs) → kvs.map (·.1) = kds.map (fun q => q.1.map keyS) → RDs W Z ρ H (kds.map (·.2)) (kvs.map (·.2)) → OR W Z ρ H a (.dtu kds)
structure Sim (W : Wd) (Z ρ : List Addr) (h : Hh) (H : Hp) : Prop where
  len : ρ.length = h.length
  nd : ρ.Nodup
  dis : ∀ z ∈ Z, z ∉ ρ ∧ ∃ o, H z = some o
  obj : ∀ (n : Nat) (o : O) (a : Addr), h[n]? = some o → ρ[n]? = some a → OR W Z ρ H a o
section
variable {W : Wd} {Z ρ ρ' : List Addr} {h h' : Hh} {H H' : Hp}
theorem Sim.at_ (S : Sim W Z ρ h H) {n : Nat} {o : O} (e : h[n]? = some o) : ∃ a, ρ[n]? = some a ∧ OR W Z ρ H a o := by
  have hn : n < ρ.length := by rw [S.len]; exact (List.getElem?_eq_some_iff.mp e).1
  exact ⟨ρ[n], by simp [hn], S.obj n o _ e (by simp [hn])⟩
theorem OR.there {a : Addr} {o : O} (r : OR W Z ρ H a o) : ∃ u, H a = some u := by
  cases r with
  | lst e _ => exact ⟨_, e⟩
  | ro e _ =>
    rcases e with e | ⟨_, e⟩
    · exact ⟨_, e⟩
    · exact ⟨_, e⟩
  | dct e _ => exact ⟨_, e⟩
  | ins e _ => exact ⟨_, e⟩
  | dtu e _ _ => exact ⟨_, e⟩
theorem Sim.new (S : Sim W Z ρ h H) {p : Addr} (n : H p = none) : p ∉ Z ∧ p ∉ ρ := by
  refine ⟨fun hz => ?_, fun hp => ?_⟩
  · obtain ⟨_, o, e⟩ := S.dis p hz
    rw [n] at e; cases e
  · obtain ⟨i, hi⟩ := List.mem_iff_getElem?.mp hp
    have hl : i < h.length := by rw [← S.len]; exact (List.getElem?_eq_some_iff.mp hi).1
    obtain ⟨u, e⟩ := (S.obj i h[i] p (by simp [hl]) hi).there
    rw [n] at e; cases e
theorem Ext.laid {p : Addr} {o : HO} (n : H p = none) : Ext ρ H ρ (upd H p o) :=
  ⟨List.prefix_rfl, fun a u h e => ⟨h, by rw [upd_ne (ne_of_none e n)]; exact e⟩⟩
theorem OR.laid {p a : Addr} {o : O} {u : HO} (n : H p = none) (r : OR W Z ρ H a o) : OR W Z ρ (upd H p u) a o := by
  have x : Ext ρ H ρ (upd H p u) := Ext.laid n
  cases r with
  | lst e t => exact .lst (by rw [upd_ne (ne_of_none e n)]; exact e) (t.mono x)
  | ro e t =>
    refine .ro ?_ (t.mono x)
    rcases e with e | ⟨ob, e⟩
    · exact .inl (by rw [upd_ne (ne_of_none e n)]; exact e)
    · exact .inr ⟨ob, by rw [upd_ne (ne_of_none e n)]; exact e⟩
  | dct e t => exact .dct (by rw [upd_ne (ne_of_none e n)]; exact e) (t.mono x)
  | ins e t => exact .ins (by rw [upd_ne (ne_of_none e n)]; exact e) (t.mono x)
  | dtu e k t => exact .dtu (by rw [upd_ne (ne_of_none e n)]; exact e) k (t.mono x)
theorem Sim.laid {p : Addr} {o : HO} (S : Sim W Z ρ h H) (n : H p = none) : Sim W Z ρ h (upd H p o) :=
  ⟨S.len, S.nd, fun z hz => let ⟨h1, u, e⟩ := S.dis z hz; ⟨h1, u, by rw [upd_ne (ne_of_none e n)]; exact e⟩, fun m u a e1 e2 => (S.obj m u a e1 e2).laid n⟩
end
def RX (W : Wd) (Z ρ : List Addr) (H : Hp) (x : Exn) (cls : Value) (dd : Option Addr) : Prop :=
  cls = .ref (W.ca x.cls) ∧ match x.fld with
    | none => dd = none
    | some (k, d) => ∃ a v, dd = some a ∧ H a = some (.xd [(W.an k, v)]) ∧ a ∉ ρ ∧ RD W Z ρ H d v
def Post {α : Type} (W : Wd) (Z ρ : List Addr) (H : Hp) (r : R α) (Q : α → List Addr → Hh → Hp → Prop) (E : XK) : Prop := match r with
  | .ok a h' => ∀ ρ' H', Ext ρ H ρ' H' → Sim W Z ρ' h' H' → Q a ρ' h' H'
  | .xn x h' => ∀ ρ' H' cls dd, Ext ρ H ρ' H' → Sim W Z ρ' h' H' → RX W Z ρ' H' x cls dd → E cls dd H'
  | .bad => False
section
variable {α β : Type} {W : Wd} {Z ρ ρ1 : List Addr} {H H1 : Hp} {r : R α} {Q Q' : α → List Addr → Hh → Hp → Prop} {E : XK}
theorem Post.mono (x : Ext ρ H ρ1 H1) (p : Post W Z ρ H r Q E) : Post W Z ρ1 H1 r Q E := by
  cases r with
  | ok a h => exact fun ρ' H' y S => p ρ' H' (x.trans y) S
  | xn e h => exact fun ρ' H' cls dd y S => p ρ' H' cls dd (x.trans y) S
  | bad => exact p
theorem Post.imp (p : Post W Z ρ H r Q E) (f : ∀ a ρ' h' H', Ext ρ H ρ' H' → Sim W Z ρ' h' H' → Q a ρ' h' H' → Q' a ρ' h' H') : Post W Z ρ H r Q' E := by
  cases r with
  | ok a h => exact fun ρ' H' y S => f _ _ _ _ y S (p ρ' H' y S)
  | xn e h => exact p
  | bad => exact p
theorem Post.bind {k : α → Hh → R β} {Q : β → List Addr → Hh → Hp → Prop} (p : Post W Z ρ H (r.bind k) Q E) : Post W Z ρ H r (fun a ρ1 h1 H1 => Post W Z ρ1 H1 (k a h1) Q E) E := by
  cases r with
  | ok a h => exact fun ρ' H' y S => p.mono y
  | xn e h => exact p
  | bad => exact p
end
structure RSg (W : Wd) (Z ρ : List Addr) (H : Hp) (σd : Sg) (σ : L2.St) : Prop where
  len : σd.length = σ.length
  at_ : ∀ (i : Nat) (d : D), σd[i]? = some (some d) → ∃ v, σ[i]? = some (some v) ∧ RD W Z ρ H d v
theorem RSg.mono {W : Wd} {Z ρ ρ1 : List Addr} {H H1 : Hp} {σd : Sg} {σ : L2.St} (x : Ext ρ H ρ1 H1) (r : RSg W Z ρ H σd σ) : RSg W Z ρ1 H1 σd σ :=
  ⟨r.len, fun i d e => let ⟨v, e1, r1⟩ := r.at_ i d e; ⟨v, e1, r1.mono x⟩⟩
def Ans (W : Wd) (Z ρ : List Addr) (h : Hh) (H : Hp) (r : D) (Q : VK) : Prop := ∀ ρ' H' v, Ext ρ H ρ' H' → Sim W Z ρ' h H' → RD W Z ρ' H' r v → Q v H'
theorem Ans.now {W : Wd} {Z ρ : List Addr} {h : Hh} {H : Hp} {r : D} {Q : VK} (a : Ans W Z ρ h H r Q) (S : Sim W Z ρ h H) {v : V} (rv : RD W Z ρ H r v) : Q v H := a ρ H v Ext.refl S rv
theorem Ans.tup {W : Wd} {Z ρ : List Addr} {h : Hh} {H : Hp} {ds : List D} {vs : List V} {Q : VK} (a : Ans W Z ρ h H (.tup ds) Q) (S : Sim W Z ρ h H) (r : RDs W Z ρ H ds vs) (p : Addr) (n : H p = none) : Q (.ref p) (upd H p (.tup vs)) :=
  a ρ _ _ (Ext.laid n) (S.laid n) (.tup (S.new n).1 (S.new n).2 upd_same (r.mono (Ext.laid n)))
theorem Ans.lst {W : Wd} {Z ρ : List Addr} {h : Hh} {H : Hp} {ds : List D} {vs : List V} {Q : VK} (a : Ans W Z ρ h H (.lst ds) Q) (S : Sim W Z ρ h H) (r : RDs W Z ρ H ds vs) (p : Addr) (n : H p = none) : Q (.ref p) (upd H p (.lst vs)) :=
  a ρ _ _ (Ext.laid n) (S.laid n) (.lst (S.new n).1 (S.new n).2 upd_same (r.mono (Ext.laid n)))
theorem Ans.dct {W : Wd} {Z ρ : List Addr} {h : Hh} {H : Hp} {ds : List (K1 × D)} {vs : List (Key × V)} {Q : VK} (a : Ans W Z ρ h H (.dct ds) Q) (S : Sim W Z ρ h H) (r : RKs W Z ρ H ds vs) (p : Addr) (n : H p = none) : Q (.ref p) (upd H p (.dK vs)) :=
  a ρ _ _ (Ext.laid n) (S.laid n) (.dct (S.new n).1 (S.new n).2 (Rd.of upd_same) (r.mono (Ext.laid n)))
section
variable {W : Wd} {Z ρ : List Addr} {h : Hh} {H : Hp} {d : D} {v : V}
theorem asLst_ok (S : Sim W Z ρ h H) (r : RD W Z ρ H d v) {xs : List D} (e : asLst h d = some xs) : ∃ a vs, v = .ref a ∧ H a = some (.lst vs) ∧ RDs W Z ρ H xs vs := by
  cases r <;> simp only [asLst] at e
  case lst a ds vs z ra q t => cases e; exact ⟨_, _, rfl, q, t⟩
  case ref a n en =>
    cases eo : h[n]? with
    | none => rw [eo] at e; cases e
    | some o =>
      rw [eo] at e
      have q := S.obj n o a eo en
      cases o <;> dsimp only at e <;> cases e
      cases q with | lst q t => exact ⟨_, _, rfl, q, t⟩
  all_goals cases e
theorem asDct_ok (S : Sim W Z ρ h H) (r : RD W Z ρ H d v) {xs : List (K1 × D)} (e : asDct h d = some xs) : ∃ a vs, v = .ref a ∧ Rd H a (.dK vs) ∧ RKs W Z ρ H xs vs := by
  cases r <;> simp only [asDct] at e
  case dct a ds vs z ra q t => cases e; exact ⟨_, _, rfl, q, t⟩
  case ref a n en =>
    cases eo : h[n]? with
    | none => rw [eo] at e; cases e
    | some o =>
      rw [eo] at e
      have q := S.obj n o a eo en
      cases o <;> simp at e
      case dct ys => subst e; cases q with | dct q t => exact ⟨_, _, rfl, .inl q, t⟩
  all_goals cases e
theorem tup_ok {xs : List D} (r : RD W Z ρ H (.tup xs) v) : ∃ a vs, v = .ref a ∧ SqT W.K H a vs ∧ RDs W Z ρ H xs vs := by
  cases r with
  | tup z ra q t => exact ⟨_, _, rfl, SqT.of q, t⟩
  | tupK k t => exact ⟨_, _, rfl, .inr k, t⟩
theorem rds_ints : ∀ is : List Int, RDs W Z ρ H (is.map .int) (is.map V.int)
  | [] => .nil
  | i :: is => .cons (.int i) (rds_ints is)
theorem RoI.sq {a : Addr} {is : List Int} (q : RoI W.K Z ρ H a is) : SqL W.K H a (is.map V.int) := q.elim (fun ⟨_, _, q⟩ => .inl q) .inr
theorem asSeq_ok (S : Sim W Z ρ h H) (r : RD W Z ρ H d v) {xs : List D} (e : asSeq h d = some xs) : ∃ a vs, v = .ref a ∧ (SqL W.K H a vs ∨ SqT W.K H a vs) ∧ RDs W Z ρ H xs vs := by
  cases r <;> simp only [asSeq] at e
  case tup a ds vs z ra q t => cases e; exact ⟨_, _, rfl, .inr (SqT.of q), t⟩
  case tupK a ds vs q t => cases e; exact ⟨_, _, rfl, .inr (.inr q), t⟩
  case lst a ds vs z ra q t => cases e; exact ⟨_, _, rfl, .inl (SqL.of q), t⟩
  case roi a is q => cases e; exact ⟨_, _, rfl, .inl q.sq, rds_ints is⟩
  case ref a n en =>
    cases eo : h[n]? with
    | none => rw [eo] at e; cases e
    | some o =>
      rw [eo] at e
      have q := S.obj n o a eo en
      cases o <;> dsimp only at e <;> cases e
      · cases q with | lst q t => exact ⟨_, _, rfl, .inl (SqL.of q), t⟩
      · cases q with | ro q t => exact ⟨_, _, rfl, .inl (.inl q), t⟩
  all_goals cases e
theorem asTexts_ok : ∀ {ds : List D} {vs : List V} {ts : List Tx}, RDs W Z ρ H ds vs → asTexts ds = some ts → vs = ts.map fun t => V.str (toS t) := by
  intro ds
  induction ds with
  | nil => intro vs is r e; cases r; simp [asTexts] at e; subst e; rfl
  | cons d ds ih =>
    intro vs is r e
    cases r with
    | cons r t =>
      cases r <;> simp [asTexts] at e
      case str i =>
        obtain ⟨js, e1, rfl⟩ := e
        simp [ih t e1]
theorem asBools_ok : ∀ {ds : List D} {vs : List V} {bs : List Bool}, RDs W Z ρ H ds vs → asBools ds = some bs → vs = bs.map V.bl := by
  intro ds
  induction ds with
  | nil => intro vs is r e; cases r; simp [asBools] at e; subst e; rfl
  | cons d ds ih =>
    intro vs is r e
    cases r with
    | cons r t =>
      cases r <;> simp [asBools] at e
      case bl i =>
        obtain ⟨js, e1, rfl⟩ := e
        simp [ih t e1]
end
section
variable {W : Wd} {Z ρ : List Addr} {h : Hh} {H : Hp} {d : D} {v : V}
theorem RKs.len {ds : List (K1 × D)} {vs : List (Key × V)} (r : RKs W Z ρ H ds vs) : ds.length = vs.length := by
  induction vs generalizing ds with
  | nil => cases r; rfl
  | cons v vs ih => cases r with | cons _ t => simp [ih t]
theorem isEmpty_eq {α β : Type} {xs : List α} {ys : List β} (e : xs.length = ys.length) : xs.isEmpty = ys.isEmpty := by
  cases xs <;> cases ys <;> simp_all
theorem tru_ok (S : Sim W Z ρ h H) (r : RD W Z ρ H d v) {t : Bool} (e : tru h d = some t) : L2.TruV W.K v H t := by
  cases r <;> simp only [tru] at e
  case non => cases e; rfl
  case bl b => cases e; rfl
  case int i => cases e; rfl
  case str s =>
    split at e
    · cases e
      rename_i hl
      refine ⟨by simpa [toS, Str.length, sizeLine_eq, line] using hl, ?_⟩
      cases s <;> simp [toS, Str.length]
      omega
    · cases e
  case tup a ds vs z ra q t =>
    cases e
    exact .inr (.inl ⟨vs, SqT.of q, by rw [isEmpty_eq t.length]⟩)
  case tupK a ds vs q t =>
    cases e
    exact .inr (.inl ⟨vs, .inr q, by rw [isEmpty_eq t.length]⟩)
  case lst a ds vs z ra q t =>
    cases e
    exact .inl ⟨vs, SqL.of q, by rw [isEmpty_eq t.length]⟩
  case ref a n en =>
    cases eo : h[n]? with
    | none => rw [eo] at e; cases e
    | some o =>
      rw [eo] at e
      have q := S.obj n o a eo en
      cases o <;> dsimp only at e <;> cases e
      case some.lst.refl ys => cases q with | lst q t => exact .inl ⟨_, SqL.of q, by rw [isEmpty_eq t.length]⟩
      case some.ro.refl ys => cases q with | ro q t => exact .inl ⟨_, .inl q, by rw [isEmpty_eq t.length]⟩
  all_goals cases e
end
end Fw
end
section
set_option Elab.async false
set_option linter.all false
set_option maxRecDepth 100000
set_option autoImplicit false
set_option maxHeartbeats 1000000
namespace Fw
open PySem PySem.Spec PyProof.Rows L2
theorem toS_len (t : Tx) : (toS t).length = t.length := by simp [toS, Str.length]
theorem toS_cat (a b : Tx) : toS a ++ toS b = toS (a ++ b) := by
  show Str.append _ _ = _
  simp [toS, Str.append]
theorem toS_list (t : Tx) : (toS t).cps.toList = t := by simp [toS]
theorem toS_of (s : Str) : toS s.cps.toList = s := by cases s; simp [toS]
theorem line_eq : line = sizeLine := by rw [sizeLine_eq]; rfl
def copOf : Cop → CmpOp
  | .eq => .Eq | .ne => .NotEq | .lt => .Lt | .le => .LtE | .gt => .Gt | .ge => .GtE | .is_ => .Is | .isnt => .IsNot | .in_ => .In | .notin => .NotIn
def bopOf : Bop → Operator
  | .add => .Add | .sub => .Sub | .mul => .Mult | .fdiv => .FloorDiv | .mod => .Mod | .pow => .Pow
def r2 (W : Wd) (f : Hh → D → D → Option D) : R2 := fun x y H Q => ∃ Z ρ h d e r, Sim W Z ρ h H ∧ RD W Z ρ H d x ∧ RD W Z ρ H e y ∧ f h d e = some r ∧ Fw.Ans W Z ρ h H r Q
section
variable {X : Cx} {W : Wd}
theorem mul_text {x : Tx} {j : Int} (h0 : 0 ≤ j) (h1 : j ≤ 100000) (h2 : x.length * j.toNat ≤ line) : MulOk (toS x) j ∧ Txt.mul (toS x) j = toS (List.replicate j.toNat x).flatten := by
  have hn : ((j.toNat : Nat) : Int) = j := Int.toNat_of_nonneg h0
  refine ⟨⟨?_, fun h3 _ => ?_, fun _ _ => ?_⟩, ?_⟩
  · simp only [Bool.or_eq_false_iff, decide_eq_false_iff_not]
    omega
  · rw [toS_len]
    intro hgt
    have hj : 0 < j := by omega
    refine absurd hgt (Int.not_lt.mpr ?_)
    rw [Int.le_ediv_iff_mul_le hj]
    have h4 : ((x.length * j.toNat : Nat) : Int) ≤ (line : Int) := by exact_mod_cast h2
    rw [Int.natCast_mul, hn] at h4
    have : (line : Int) ≤ 2 ^ 63 - 1 := by decide
    omega
  · rw [toS_len]
    simp only [Builtin.Str.tooLong, decide_eq_false_iff_not, ← line_eq]
    omega
  · unfold Txt.mul
    by_cases h3 : j < 1
    · rw [if_pos h3]
      have : j.toNat = 0 := by omega
      rw [this]
      rfl
    · rw [if_neg h3]
      have fold : ∀ (n : Nat) (a : Array Nat), ((List.replicate n (toS x).cps).foldl (· ++ ·) a).toList = a.toList ++ (List.replicate n x).flatten := by
        intro n
        induction n with
        | zero => intro a; simp
        | succ n ih => intro a; rw [List.replicate_succ, List.foldl_cons, ih]; simp [List.replicate_succ, toS]
      split
      · rename_i hc
        simp only [Bool.or_eq_true, beq_iff_eq] at hc
        rcases hc with hc | hc
        · subst hc; simp
        · have : x = [] := by rw [toS_len] at hc; exact List.length_eq_zero_iff.mp hc
          subst this
          simp
      · show (⟨_⟩ : Str) = ⟨_⟩
        congr 1
        apply Array.toList_inj.mp
        rw [fold]
        simp
theorem op_bin (hK : X.K = W.K) (op : Bop) : OpR X (binaryOp (bopOf op)) (r2 W fun h => binop h op) := by
  intro pins s σ H x y v u Q I rx ry hq
  obtain ⟨Z, ρ, h, d, e, r, S, rd, re, hf, hA⟩ := hq
  cases op
  case add =>
    show wpAny _ _ (binaryOp .Add v u) _ _ s
    by_cases hi : ∃ i j, d = .int i ∧ e = .int j
    · obtain ⟨i, j, rfl, rfl⟩ := hi
      cases rd; cases re
      simp only [binop] at hf
      cases hf
      exact op_add pins s σ H _ _ v u Q I rx ry ⟨i, j, rfl, rfl, hA.now S (.int _)⟩
    by_cases hs : ∃ i j, d = .str i ∧ e = .str j
    · obtain ⟨i, j, rfl, rfl⟩ := hs
      cases rd; cases re
      simp only [binop] at hf
      split at hf
      · cases hf
        rename_i hl
        exact op_add_str pins s σ H _ _ v u Q I rx ry ⟨_, _, rfl, rfl, by rw [toS_len, toS_len, ← line_eq]; exact hl, by rw [toS_cat]; exact hA.now S (.str _)⟩
      · cases hf
    by_cases ht : ∃ i j, d = .tup i ∧ e = .tup j
    · obtain ⟨ds, es, rfl, rfl⟩ := ht
      simp only [binop] at hf
      split at hf
      · cases hf
        rename_i hl
        obtain ⟨a, vs, rfl, qa, ra⟩ := tup_ok rd
        obtain ⟨b, us, rfl, qb, rb⟩ := tup_ok re
        refine op_catA pins s σ H _ _ v u Q I rx ry ⟨a, b, vs, us, rfl, rfl, hK ▸ qa, hK ▸ qb, by rw [← ra.length, ← rb.length, ← line_eq]; exact hl, fun e0 => ?_, fun _ e0 => ?_, fun _ _ p n => ?_⟩
        · subst e0
          cases ra
          exact hA.now S re
        · subst e0
          cases rb
          rw [List.append_nil] at hA
          exact hA.now S rd
        · exact hA.tup S (ra.append rb) p n
      · cases hf
    · have hf' : (match asLst h d, asLst h e with
        | some xs, some ys => if xs.length + ys.length ≤ line then some (D.lst (xs ++ ys)) else none
        | _, _ => none) = some r := by
        rw [← hf]
        cases d <;> cases e <;> first
          | rfl
          | exact absurd ⟨_, _, rfl, rfl⟩ hi
          | exact absurd ⟨_, _, rfl, rfl⟩ hs
          | exact absurd ⟨_, _, rfl, rfl⟩ ht
      cases e1 : asLst h d with
      | none => rw [e1] at hf'; cases hf'
      | some xs =>
        cases e2 : asLst h e with
        | none => rw [e1, e2] at hf'; cases hf'
        | some ys =>
          rw [e1, e2] at hf'
          dsimp only at hf'
          split at hf'
          · cases hf'
            rename_i hl
            obtain ⟨a, vs, rfl, qa, ra⟩ := asLst_ok S rd e1
            obtain ⟨b, us, rfl, qb, rb⟩ := asLst_ok S re e2
            exact op_cat pins s σ H _ _ v u Q I rx ry ⟨a, b, vs, us, rfl, rfl, qa, qb, by rw [← ra.length, ← rb.length, ← line_eq]; exact hl, fun p n => hA.lst S (ra.append rb) p n⟩
          · cases hf'
  case sub =>
    cases d <;> cases e <;> simp only [binop] at hf <;> first | (cases hf; done) | skip
    cases rd; cases re
    cases hf
    exact op_sub pins s σ H _ _ v u Q I rx ry ⟨_, _, rfl, rfl, hA.now S (.int _)⟩
  case mul =>
    cases d <;> cases e <;> simp only [binop] at hf <;> first | (cases hf; done) | skip
    · cases rd; cases re
      split at hf
      · cases hf
        rename_i hl
        exact op_mul pins s σ H _ _ v u Q I rx ry ⟨_, _, rfl, rfl, hl, hA.now S (.int _)⟩
      · cases hf
    · cases rd; cases re
      split at hf
      · cases hf
        rename_i x j hl
        obtain ⟨tk, rfl⟩ := rx
        obtain ⟨tk', rfl⟩ := ry
        obtain ⟨m1, m2⟩ := mul_text hl.1 hl.2.1 hl.2.2
        refine SB.mul m1 fun t' k => ?_
        exact ⟨.str (Txt.mul (toS x) j), H, I.tok _, ⟨_, rfl⟩, by rw [m2]; exact hA.now S (.str _)⟩
      · cases hf
    · cases re
      split at hf
      · cases hf
        rename_i xs j hl
        obtain ⟨a, vs, rfl, qa, ra⟩ := tup_ok rd
        refine op_repT pins s σ H _ _ v u Q I rx ry ⟨a, j, vs, rfl, rfl, hK ▸ qa, fun z => hl.1 ?_, hl.2.1, hl.2.2.1, by rw [← ra.length]; exact hl.2.2.2, fun p n => hA.tup S ?_ p n⟩
        · subst z; cases ra; rfl
        · generalize j.toNat = m
          induction m with
          | zero => exact .nil
          | succ m ih => simpa [List.replicate_succ] using ra.append ih
      · cases hf
    · cases re
      split at hf
      · cases hf
        rename_i xs j hl
        obtain ⟨a, vs, rfl, qa, ra⟩ := asLst_ok S rd (show asLst h (.lst xs) = some xs from rfl)
        refine op_rep pins s σ H _ _ v u Q I rx ry ⟨a, j, vs, rfl, rfl, qa, by omega, by omega, ?_, fun p n => hA.lst S ?_ p n⟩
        · rw [← ra.length, ← line_eq]
          have h1 : xs.length * j.toNat ≤ 1000 * 1000 := Nat.mul_le_mul hl.2.2 (by omega)
          have h2 : 1000 * 1000 ≤ line := by decide
          omega
        · generalize j.toNat = m
          induction m with
          | zero => exact .nil
          | succ m ih => simpa [List.replicate_succ] using ra.append ih
      · cases hf
  case fdiv =>
    cases d <;> cases e <;> simp only [binop] at hf <;> first | (cases hf; done) | skip
    cases rd; cases re
    split at hf
    · cases hf
      rename_i hl
      exact op_fdiv pins s σ H _ _ v u Q I rx ry ⟨_, _, rfl, rfl, hl, hA.now S (.int _)⟩
    · cases hf
  case mod =>
    cases d <;> cases e <;> simp only [binop] at hf <;> first | (cases hf; done) | skip
    cases rd; cases re
    split at hf
    · cases hf
      rename_i hl
      exact op_mod pins s σ H _ _ v u Q I rx ry ⟨_, _, rfl, rfl, hl, hA.now S (.int _)⟩
    · cases hf
  case pow =>
    cases d <;> cases e <;> simp only [binop] at hf <;> first | (cases hf; done) | skip
    cases rd; cases re
    split at hf
    · cases hf
      rename_i hl
      exact op_pow pins s σ H _ _ v u Q I rx ry ⟨_, _, rfl, rfl, hl, hA.now S (.int _)⟩
    · cases hf
end
theorem strOk_of {s : Tx} (h : s.all (fun c => decide (c < 1114112)) = true) : PyData.strOk (toS s) = true := by
  simp only [PyData.strOk, toS, ← Array.all_toList]
  exact h
mutual
theorem flat_py : ∀ (n : Nat) (d : D), d.flat n = true → d.py.canLay0 = true ∧ d.py.depth ≤ n + 1
  | n, .non, _ => by simp [D.py, PyData.canLay0, PyData.depth]
  | n, .bl _, _ => by simp [D.py, PyData.canLay0, PyData.depth]
  | n, .int _, _ => by simp [D.py, PyData.canLay0, PyData.depth]
  | n, .str s, h => by
    have h' : s.all (fun c => decide (c < 1114112)) = true := by simpa [D.flat] using h
    have h2 := strOk_of h'
    simp only [D.py, PyData.canLay0, PyData.depth]
    exact ⟨h2, Nat.zero_le _⟩
  | 0, .tup xs, h => by
    have : xs = [] := by simpa [D.flat] using h
    subst this
    simp [D.py, pyAll, PyData.canLay0, PyData.canLayAll0, PyData.depth, PyData.depthAll]
  | n + 1, .tup xs, h => by
    have h' := flatAll_py n xs (by simpa [D.flat] using h)
    simp only [D.py, PyData.canLay0, PyData.depth]
    exact ⟨h'.1, by omega⟩
  | 0, .lst xs, h => by
    have : xs = [] := by simpa [D.flat] using h
    subst this
    simp [D.py, pyAll, PyData.canLay0, PyData.canLayAll0, PyData.depth, PyData.depthAll]
  | n + 1, .lst xs, h => by
    have h' := flatAll_py n xs (by simpa [D.flat] using h)
    simp only [D.py, PyData.canLay0, PyData.depth]
    exact ⟨h'.1, by omega⟩
  | _, .dct _, h => by simp [D.flat] at h
  | _, .obj _ _, h => by simp [D.flat] at h
  | _, .ref _, h => by simp [D.flat] at h
  | _, .fn _, h => by simp [D.flat] at h
  | _, .roi _, h => by simp [D.flat] at h
theorem flatAll_py : ∀ (n : Nat) (xs : List D), flatAll n xs = true → PyData.canLayAll0 (pyAll xs) = true ∧ PyData.depthAll (pyAll xs) ≤ n + 1
  | n, [], _ => by simp [pyAll, PyData.canLayAll0, PyData.depthAll]
  | n, x :: xs, h => by
    have h' : x.flat n = true ∧ flatAll n xs = true := by simpa [flatAll] using h
    have h1 := flat_py n x h'.1
    have h2 := flatAll_py n xs h'.2
    simp only [pyAll, PyData.canLayAll0, PyData.depthAll]
    exact ⟨by simp [h1.1, h2.1], by omega⟩
end
theorem flat_shaped {d : D} (h : d.flat 60 = true) : SeqAt.shaped d.py = true := by
  have := flat_py 60 d h
  simp only [SeqAt.shaped, Bool.and_eq_true, decide_eq_true_eq]
  exact ⟨this.1, by omega⟩
mutual
theorem flat_eqv : ∀ (n m : Nat) (d e : D), d.flat n = true → e.flat m = true → PyData.eqv d.py e.py = d.eqv e
  | n, m, d, e, h1, h2 => by
    cases d <;> cases e <;> first
      | (simp [D.flat] at h1; done)
      | (simp [D.flat] at h2; done)
      | (simp [D.py, PyData.eqv, D.eqv]; done)
      | skip
    · simp only [D.py, PyData.eqv, D.eqv]
      rename_i a b
      by_cases e : a = b
      · subst e; simp
      · have : ¬ (⟨a.toArray⟩ : Str) = ⟨b.toArray⟩ := fun q => e (toS_inj q)
        rw [beq_eq_false_iff_ne.mpr this, beq_eq_false_iff_ne.mpr e]
    · rename_i xs ys
      simp only [D.py, PyData.eqv, D.eqv]
      cases n <;> cases m
      · have a1 : xs = [] := by simpa [D.flat] using h1
        have a2 : ys = [] := by simpa [D.flat] using h2
        subst a1 a2; simp [pyAll, PyData.eqvAll, eqvAll]
      · have a1 : xs = [] := by simpa [D.flat] using h1
        subst a1; cases ys <;> simp [pyAll, PyData.eqvAll, eqvAll]
      · have a2 : ys = [] := by simpa [D.flat] using h2
        subst a2; cases xs <;> simp [pyAll, PyData.eqvAll, eqvAll]
      · exact flatAll_eqv _ _ xs ys (by simpa [D.flat] using h1) (by simpa [D.flat] using h2)
    · rename_i xs ys
      simp only [D.py, PyData.eqv, D.eqv]
      cases n <;> cases m
      · have a1 : xs = [] := by simpa [D.flat] using h1
        have a2 : ys = [] := by simpa [D.flat] using h2
        subst a1 a2; simp [pyAll, PyData.eqvAll, eqvAll]
      · have a1 : xs = [] := by simpa [D.flat] using h1
        subst a1; cases ys <;> simp [pyAll, PyData.eqvAll, eqvAll]
      · have a2 : ys = [] := by simpa [D.flat] using h2
        subst a2; cases xs <;> simp [pyAll, PyData.eqvAll, eqvAll]
      · exact flatAll_eqv _ _ xs ys (by simpa [D.flat] using h1) (by simpa [D.flat] using h2)
theorem flatAll_eqv : ∀ (n m : Nat) (xs ys : List D), flatAll n xs = true → flatAll m ys = true → PyData.eqvAll (pyAll xs) (pyAll ys) = eqvAll xs ys
  | n, m, [], [], _, _ => by simp [pyAll, PyData.eqvAll, eqvAll]
  | n, m, [], y :: ys, _, _ => by simp [pyAll, PyData.eqvAll, eqvAll]
  | n, m, x :: xs, [], _, _ => by simp [pyAll, PyData.eqvAll, eqvAll]
  | n, m, x :: xs, y :: ys, h1, h2 => by
    have h1' : x.flat n = true ∧ flatAll n xs = true := by simpa [flatAll] using h1
    have h2' : y.flat m = true ∧ flatAll m ys = true := by simpa [flatAll] using h2
    simp only [pyAll, PyData.eqvAll, eqvAll]
    rw [flat_eqv n m x y h1'.1 h2'.1, flatAll_eqv n m xs ys h1'.2 h2'.2]
end
section
variable {W : Wd} {Z ρ : List Addr} {h : Hh} {H : Hp}
mutual
theorem flat_dp : ∀ {d : D} {v : V} (n : Nat), d.flat n = true → RD W Z ρ H d v → Dp W.K H v d.py
  | _, _, _, _, .non => by simpa [D.py] using Dp.non
  | _, _, _, _, .bl b => by simpa [D.py] using Dp.bl b
  | _, _, _, _, .int i => by simpa [D.py] using Dp.int i
  | _, _, _, _, .str s => by simp only [D.py]; exact Dp.str (toS s)
  | _, _, 0, h, .tup _ _ q t => by simp only [D.py]; exact .tup (SqT.of q) (flat_dps 0 (by cases t with | nil => simp [flatAll] | cons _ _ => simp [D.flat] at h) t)
  | _, _, n + 1, h, .tup _ _ q t => by simp only [D.py]; exact .tup (SqT.of q) (flat_dps n (by simpa [D.flat] using h) t)
  | _, _, 0, h, .tupK q t => by simp only [D.py]; exact .tup (.inr q) (flat_dps 0 (by cases t with | nil => simp [flatAll] | cons _ _ => simp [D.flat] at h) t)
  | _, _, n + 1, h, .tupK q t => by simp only [D.py]; exact .tup (.inr q) (flat_dps n (by simpa [D.flat] using h) t)
  | _, _, 0, h, .lst _ _ q t => by simp only [D.py]; exact .lst (SqL.of q) (flat_dps 0 (by cases t with | nil => simp [flatAll] | cons _ _ => simp [D.flat] at h) t)
  | _, _, n + 1, h, .lst _ _ q t => by simp only [D.py]; exact .lst (SqL.of q) (flat_dps n (by simpa [D.flat] using h) t)
  | _, _, n, h, .dct _ _ _ _ => by cases n <;> simp [D.flat] at h
  | _, _, n, h, .obj _ _ _ _ => by cases n <;> simp [D.flat] at h
  | _, _, n, h, .ref _ => by cases n <;> simp [D.flat] at h
  | _, _, n, h, .fn _ => by cases n <;> simp [D.flat] at h
  | _, _, n, h, .roi _ => by cases n <;> simp [D.flat] at h
theorem flat_dps : ∀ {ds : List D} {vs : List V} (n : Nat), flatAll n ds = true → RDs W Z ρ H ds vs → DpAll W.K H vs (pyAll ds)
  | _, _, _, _, .nil => by simpa [pyAll] using DpAll.nil
  | _, _, n, h, .cons r t => by
    simp only [flatAll, Bool.and_eq_true] at h
    simp only [pyAll]
    exact .cons (flat_dp n h.1 r) (flat_dps n h.2 t)
end
theorem seen_dp (S : Sim W Z ρ h H) {d d' : D} {v : V} (r : RD W Z ρ H d v) (e : seen h 0 d = some d') (f : d'.flat 60 = true) : Dp W.K H v d'.py := by
  have r0 := r
  cases r
  case ref a n en =>
    simp only [seen] at e
    cases eo : h[n]? with
    | none => rw [eo] at e; cases e
    | some o =>
      rw [eo] at e
      have q := S.obj n o a eo en
      cases o <;> dsimp only at e <;> cases e
      · cases q with | lst q t => simp only [D.py]; exact .lst (SqL.of q) (flat_dps 59 (by simpa [D.flat] using f) t)
      · cases q with | ro q t => simp only [D.py]; exact .lst (.inl q) (flat_dps 59 (by simpa [D.flat] using f) t)
      · simp [D.flat] at f
  all_goals
    simp only [seen, Option.some.injEq] at e
    subst e
    exact flat_dp 60 f r0
theorem seen_lst (S : Sim W Z ρ h H) {d : D} {v : V} {ds : List D} (r : RD W Z ρ H d v) (e : seen h 0 d = some (.lst ds)) : ∃ a vs, v = .ref a ∧ SqL W.K H a vs ∧ vs.length = ds.length := by
  cases r
  case ref a n en =>
    simp only [seen] at e
    cases eo : h[n]? with
    | none => rw [eo] at e; cases e
    | some o =>
      rw [eo] at e
      have q := S.obj n o a eo en
      cases o <;> dsimp only at e <;> cases e
      · cases q with | lst q t => exact ⟨a, _, rfl, SqL.of q, t.length.symm⟩
      · cases q with | ro q t => exact ⟨a, _, rfl, .inl q, t.length.symm⟩
  all_goals
    simp only [seen, Option.some.injEq] at e
    cases e
  case lst a vs h1 h2 q t => exact ⟨a, _, rfl, SqL.of q, t.length.symm⟩
theorem seen_tup {d : D} {v : V} {ds : List D} (r : RD W Z ρ H d v) (e : seen h 0 d = some (.tup ds)) : ∃ a vs, v = .ref a ∧ SqT W.K H a vs ∧ vs.length = ds.length := by
  cases r
  case ref a n en =>
    simp only [seen] at e
    cases eo : h[n]? with
    | none => rw [eo] at e; cases e
    | some o => rw [eo] at e; cases o <;> dsimp only at e <;> cases e
  all_goals
    simp only [seen, Option.some.injEq] at e
    cases e
  case tup a vs h1 h2 q t => exact ⟨a, _, rfl, SqT.of q, t.length.symm⟩
  case tupK a vs q t => exact ⟨a, _, rfl, .inr q, t.length.symm⟩
theorem eqvAll_len : ∀ {xs ys : List D}, xs = [] ∨ ys = [] → eqvAll xs ys = decide (xs.length = ys.length)
  | [], [], _ => rfl
  | [], _ :: _, _ => rfl
  | _ :: _, [], _ => rfl
  | _ :: _, _ :: _, h => by simp at h
theorem emptyPair_cases {a b : D} (e : emptyPair a b = true) : (∃ xs ys, a = .lst xs ∧ b = .lst ys ∧ (xs = [] ∨ ys = [])) ∨ (∃ xs ys, a = .tup xs ∧ b = .tup ys ∧ (xs = [] ∨ ys = [])) := by
  unfold emptyPair at e
  split at e
  · exact .inl ⟨_, _, rfl, rfl, .inl rfl⟩
  · exact .inl ⟨_, _, rfl, rfl, .inr rfl⟩
  · exact .inr ⟨_, _, rfl, rfl, .inl rfl⟩
  · exact .inr ⟨_, _, rfl, rfl, .inr rfl⟩
  · cases e
theorem empty_rc {X : Cx} {pins : List (Addr × Obj)} {σ : L2.St} {s : Shared} {A : Around} (I : Inv X pins σ H s) (hK : X.K = W.K) (hu : A.units < cLine) (S : Sim W Z ρ h H) {d e a b : D} {x y : V} {v u : Value}
    (rd : RD W Z ρ H d x) (re : RD W Z ρ H e y) (ea : seen h 0 d = some a) (eb : seen h 0 e = some b) (he : emptyPair a b = true) (rx : RelV x v) (ry : RelV y u) :
    SeqAt.RcAt A s v u (a.eqv b) ∧ SeqAt.RcNeAt A s v u (!a.eqv b) := by
  rcases emptyPair_cases he with ⟨xs, ys, rfl, rfl, hz⟩ | ⟨xs, ys, rfl, rfl, hz⟩
  · obtain ⟨p, vs, rfl, q1, l1⟩ := seen_lst S rd ea
    obtain ⟨p', vs', rfl, q2, l2⟩ := seen_lst S re eb
    cases rx; cases ry
    obtain ⟨its, r1, ⟨o1, n1, ho1, hc1, _, hd1⟩, _⟩ := I.list (hK ▸ q1)
    obtain ⟨its', r2, ⟨o2, n2, ho2, hc2, _, hd2⟩, _⟩ := I.list (hK ▸ q2)
    have m1 : its.length = xs.length := by rw [← r1.length]; exact l1
    have m2 : its'.length = ys.length := by rw [← r2.length]; exact l2
    have h1 : s.heap.IsList p its.toArray := ⟨o1, ho1, hc1, n1, hd1⟩
    have h2 : s.heap.IsList p' its'.toArray := ⟨o2, ho2, hc2, n2, hd2⟩
    simp only [D.eqv, eqvAll_len hz]
    by_cases q : xs.length = ys.length
    · have z1 : xs.length = 0 := by rcases hz with rfl | rfl <;> simp_all
      have z2 : its.toArray.size = 0 := by simp [m1, z1]
      have hs : its.toArray.size = its'.toArray.size := by simp [m1, m2, q]
      have k1 := SeqAt.RcAt.lists (e := fun _ => true) h1 h2 hs hu (fun j h1 h2 => absurd h1 (by omega))
      have k2 := SeqAt.RcNeAt.lists (e := fun _ => true) h1 h2 hs hu (fun j h1 h2 => absurd h1 (by omega))
      rw [z2] at k1 k2
      simpa [q] using And.intro k1 k2
    · have hs : (its.toArray.size != its'.toArray.size) = true := by simp [m1, m2, q]
      have k1 := SeqAt.RcAt.lists_lengths h1 h2 hs hu
      have k2 := SeqAt.RcNeAt.lists_lengths h1 h2 hs hu
      simpa [q] using And.intro k1 k2
  · obtain ⟨p, vs, rfl, q1, l1⟩ := seen_tup rd ea
    obtain ⟨p', vs', rfl, q2, l2⟩ := seen_tup re eb
    cases rx; cases ry
    obtain ⟨its, r1, ⟨o1, ho1, hc1, n1, hd1⟩, _⟩ := I.tuple (hK ▸ q1)
    obtain ⟨its', r2, ⟨o2, ho2, hc2, n2, hd2⟩, _⟩ := I.tuple (hK ▸ q2)
    have m1 : its.length = xs.length := by rw [← r1.length]; exact l1
    have m2 : its'.length = ys.length := by rw [← r2.length]; exact l2
    have h1 : s.heap.IsTuple p its.toArray := ⟨o1, ho1, hc1, n1, hd1⟩
    have h2 : s.heap.IsTuple p' its'.toArray := ⟨o2, ho2, hc2, n2, hd2⟩
    simp only [D.eqv, eqvAll_len hz]
    have z2 : min its.toArray.size its'.toArray.size = 0 := by rcases hz with rfl | rfl <;> simp_all
    have k1 := SeqAt.RcAt.tuples (e := fun _ => true) h1 h2 hu (fun j h1 h2 => absurd (Nat.lt_min.mpr ⟨h1, h2⟩) (by omega))
    have k2 := SeqAt.RcNeAt.tuples (e := fun _ => true) h1 h2 hu (fun j h1 h2 => absurd (Nat.lt_min.mpr ⟨h1, h2⟩) (by omega))
    rw [z2] at k1 k2
    have m : (its.toArray.size == its'.toArray.size) = decide (xs.length = ys.length) := by
      rw [Bool.eq_iff_iff]
      simp [m1, m2]
    rw [m] at k1 k2
    simpa using And.intro k1 k2
end
section
variable {W : Wd} {Z ρ : List Addr} {h : Hh} {H : Hp} {a b : D} {v u : V}
theorem scal_ok (ra : RD W Z ρ H a v) (rb : RD W Z ρ H b u) (e : scalPair a b = true) : scal v u = true ∧ decide (v = u) = a.eqv b := by
  cases ra <;> cases rb <;> first
    | (simp [scalPair, scalar] at e; done)
    | (simp [scal, D.eqv]; done)
    | skip
  · exact ⟨rfl, by simp only [D.eqv]; exact dec_bl⟩
  · exact ⟨rfl, by simp only [D.eqv]; exact dec_int⟩
  · refine ⟨rfl, ?_⟩
    rename_i x y
    simp only [D.eqv]
    rw [dec_str]
    by_cases q : x = y
    · subst q; simp
    · have : ¬ toS x = toS y := fun z => q (toS_inj z)
      rw [beq_eq_false_iff_ne.mpr this, beq_eq_false_iff_ne.mpr q]
theorem flatV_ok (ra : RD W Z ρ H a v) (e : scalar a = true) : flatV v = true := by
  cases ra <;> simp [scalar] at e <;> rfl
theorem eqV_ok (ra : RD W Z ρ H a v) (rb : RD W Z ρ H b u) (e : scalar a = true) (f : scalar b = true) : eqV v u = a.eqv b := by
  cases ra <;> cases rb <;> first
    | (simp [scalar] at e; done)
    | (simp [scalar] at f; done)
    | (simp [eqV, D.eqv]; done)
    | skip
  rename_i x y
  simp only [D.eqv, eqV]
  by_cases q : x = y
  · subst q; simp
  · have : ¬ toS x = toS y := fun z => q (toS_inj z)
    rw [beq_eq_false_iff_ne.mpr this, beq_eq_false_iff_ne.mpr q]
theorem inV_ok (ra : RD W Z ρ H a v) (e : scalar a = true) : ∀ {xs : List D} {vs : List V}, RDs W Z ρ H xs vs → xs.all scalar = true → vs.all flatV = true ∧ inV v vs = xs.any fun y => y.eqv a := by
  intro xs
  induction xs with
  | nil => intro vs r _; cases r; exact ⟨rfl, rfl⟩
  | cons x xs ih =>
    intro vs r f
    cases r with
    | cons r t =>
      rw [List.all_cons, Bool.and_eq_true] at f
      obtain ⟨i1, i2⟩ := ih t f.2
      refine ⟨by rw [List.all_cons, flatV_ok r f.1, i1]; rfl, ?_⟩
      simp only [inV, List.any_cons] at i2 ⊢
      rw [eqV_ok r ra f.1 e, i2]
end
section
variable {X : Cx} {W : Wd}
def r2b (W : Wd) (f : Hh → D → D → Option Bool) : R2 := fun x y H Q => ∃ Z ρ h d e r, Sim W Z ρ h H ∧ RD W Z ρ H d x ∧ RD W Z ρ H e y ∧ f h d e = some r ∧ Fw.Ans W Z ρ h H (.bl r) Q
theorem key1_ok {Z ρ : List Addr} {H : Hp} {d : D} {v : V} {k : K1} (r : RD W Z ρ H d v) (e : key1 d = some k) : v = kV (keyS k) := by
  cases r <;> simp [key1] at e <;> subst e <;> rfl
theorem RKs.any {Z ρ : List Addr} {H : Hp} (k : K1) : ∀ {kds : List (K1 × D)} {kvs : List (Key × V)}, RKs W Z ρ H kds kvs → (kds.any fun q => decide (q.1 = k)) = (valV kvs (keyS k)).isSome := by
  intro kds
  induction kds with
  | nil => intro kvs r; cases r; rfl
  | cons q kds ih =>
    intro kvs r
    cases r with
    | @cons k' d _ v vs r t =>
      rw [List.any_cons, ih t]
      by_cases e : k' = k
      · subst e
        rw [valV_pos (by rfl)]
        simp
      · rw [valV_neg (fun z => e (keyS_inj z))]
        simp [e]
theorem RKs.look {Z ρ : List Addr} {H : Hp} {k : K1} {d : D} : ∀ {kds : List (K1 × D)} {kvs : List (Key × V)}, RKs W Z ρ H kds kvs → Fw.look k kds = some d → ∃ v, valV kvs (keyS k) = some v ∧ RD W Z ρ H d v := by
  intro kds
  induction kds with
  | nil => intro kvs r e; simp [Fw.look] at e
  | cons q kds ih =>
    intro kvs r e
    cases r with
    | @cons k' d' _ v vs r t =>
      simp only [Fw.look] at e
      by_cases q : k' = k
      · subst q
        rw [if_pos rfl] at e
        cases e
        exact ⟨v, valV_pos (by rfl), r⟩
      · rw [if_neg q] at e
        rw [valV_neg (fun z => q (keyS_inj z))]
        exact ih t e
theorem mem_in (hK : X.K = W.K) (hu : X.A.units + 64 < cLine) (pins : List (Addr × Obj)) (s : Shared) (σ : L2.St) (H : Hp) (x y : V) (v u : Value) (Q : VK) (I : Inv X pins σ H s) (rx : RelV x v) (ry : RelV y u)
    {Z ρ : List Addr} {h : Hh} {d e : D} {r : Bool} (S : Sim W Z ρ h H) (rd : RD W Z ρ H d x) (re : RD W Z ρ H e y) (hm : isMem h d e = some r) (hb : ∀ b, b = r → Q (.bl b) H) :
    wpAny (model X.prog X.w) X.A (compareOp .In v u) (EP X pins σ Q) X.xe s := by
  have hu1 : X.A.units + 1 < cLine := by omega
  unfold isMem at hm
  cases e1 : asDct h e with
  | some kvs =>
    rw [e1] at hm
    cases e2 : key1 d with
    | none => rw [e2] at hm; cases hm
    | some k =>
      rw [e2] at hm
      cases hm
      obtain ⟨a, vs, rfl, q, t⟩ := asDct_ok S re e1
      obtain rfl : u = Value.ref a := ry
      have hk := key1_ok rd e2
      exact d_in hu1 I (o := valV vs (keyS k)) (.inl ⟨vs, keyS k, q, hk, rfl⟩) rx fun s' I' => ⟨.bl _, H, I', rfl, hb _ (t.any k).symm⟩
  | none =>
    rw [e1] at hm
    cases e2 : asSeq h e with
    | none => rw [e2] at hm; cases hm
    | some xs =>
      rw [e2] at hm
      dsimp only at hm
      split at hm
      · rename_i hc
        cases hm
        rw [Bool.and_eq_true] at hc
        obtain ⟨a, vs, rfl, q, t⟩ := asSeq_ok S re e2
        obtain ⟨i1, i2⟩ := inV_ok rd hc.1 t hc.2
        exact op_in_seq pins s σ H _ _ v u Q I rx ry ⟨a, vs, rfl, hK ▸ q, flatV_ok rd hc.1, i1, hb _ (by simpa using i2)⟩
      · cases hm
theorem mem_notin (hK : X.K = W.K) (hu : X.A.units + 64 < cLine) (pins : List (Addr × Obj)) (s : Shared) (σ : L2.St) (H : Hp) (x y : V) (v u : Value) (Q : VK) (I : Inv X pins σ H s) (rx : RelV x v) (ry : RelV y u)
    {Z ρ : List Addr} {h : Hh} {d e : D} {r : Bool} (S : Sim W Z ρ h H) (rd : RD W Z ρ H d x) (re : RD W Z ρ H e y) (hm : isMem h d e = some r) (hb : ∀ b, b = !r → Q (.bl b) H) :
    wpAny (model X.prog X.w) X.A (compareOp .NotIn v u) (EP X pins σ Q) X.xe s := by
  have hu1 : X.A.units + 1 < cLine := by omega
  unfold isMem at hm
  cases e1 : asDct h e with
  | some kvs =>
    rw [e1] at hm
    cases e2 : key1 d with
    | none => rw [e2] at hm; cases hm
    | some k =>
      rw [e2] at hm
      cases hm
      obtain ⟨a, vs, rfl, q, t⟩ := asDct_ok S re e1
      obtain rfl : u = Value.ref a := ry
      have hk := key1_ok rd e2
      exact d_notIn hu1 I (o := valV vs (keyS k)) (.inl ⟨vs, keyS k, q, hk, rfl⟩) rx fun s' I' => ⟨.bl _, H, I', rfl, hb _ (congrArg (fun b => !b) (t.any k).symm)⟩
  | none =>
    rw [e1] at hm
    cases e2 : asSeq h e with
    | none => rw [e2] at hm; cases hm
    | some xs =>
      rw [e2] at hm
      dsimp only at hm
      split at hm
      · rename_i hc
        cases hm
        rw [Bool.and_eq_true] at hc
        obtain ⟨a, vs, rfl, q, t⟩ := asSeq_ok S re e2
        obtain ⟨i1, i2⟩ := inV_ok rd hc.1 t hc.2
        exact op_notIn_seq pins s σ H _ _ v u Q I rx ry ⟨a, vs, rfl, hK ▸ q, flatV_ok rd hc.1, i1, hb _ (by simp [i2])⟩
      · cases hm
theorem op_cmp (hK : X.K = W.K) (hu : X.A.units + 64 < cLine) (op : Cop) : OpR X (compareOp (copOf op)) (r2b W fun h => cmpop h op) := by
  intro pins s σ H x y v u Q I rx ry hq
  obtain ⟨Z, ρ, h, d, e, r, S, rd, re, hf, hA⟩ := hq
  have hb : ∀ {b : Bool}, b = r → Q (.bl b) H := fun {b} q => by subst q; exact hA.now S (.bl _)
  cases op
  case eq =>
    simp only [cmpop, eqD] at hf
    split at hf
    · rename_i hs
      cases hf
      obtain ⟨h1, h2⟩ := scal_ok rd re hs
      exact op_eq pins s σ H _ _ v u Q I rx ry ⟨h1, hb h2⟩
    · split at hf
      · rename_i a b ea eb
        split at hf
        · rename_i hep
          cases hf
          exact EqBoolInt.of_rc (empty_rc I hK (by omega) S rd re ea eb hep rx ry).1 ⟨.bl _, H, I, rfl, hb rfl⟩
        split at hf
        · rename_i hfl
          cases hf
          rw [Bool.and_eq_true] at hfl
          exact op_eqD hu pins s σ H _ _ v u Q I rx ry ⟨a.py, b.py, hK ▸ seen_dp S rd ea hfl.1, hK ▸ seen_dp S re eb hfl.2, flat_shaped hfl.1, flat_shaped hfl.2, hb (flat_eqv 60 60 a b hfl.1 hfl.2)⟩
        · cases hf
      · cases hf
  case ne =>
    simp only [cmpop, eqD] at hf
    split at hf
    · rename_i hs
      cases hf
      obtain ⟨h1, h2⟩ := scal_ok rd re hs
      exact op_ne pins s σ H _ _ v u Q I rx ry ⟨h1, hb (by rw [h2])⟩
    · split at hf
      · rename_i a b ea eb
        split at hf
        · rename_i hep
          cases hf
          exact EqBoolInt.of_rcne (empty_rc I hK (by omega) S rd re ea eb hep rx ry).2 ⟨.bl _, H, I, rfl, hb rfl⟩
        split at hf
        · rename_i hfl
          cases hf
          rw [Bool.and_eq_true] at hfl
          exact op_neD hu pins s σ H _ _ v u Q I rx ry ⟨a.py, b.py, hK ▸ seen_dp S rd ea hfl.1, hK ▸ seen_dp S re eb hfl.2, flat_shaped hfl.1, flat_shaped hfl.2, hb (by rw [flat_eqv 60 60 a b hfl.1 hfl.2])⟩
        · cases hf
      · cases hf
  case lt =>
    cases d <;> cases e <;> simp only [cmpop] at hf <;> first | (cases hf; done) | skip
    · cases rd; cases re; cases hf
      exact op_lt pins s σ H _ _ v u Q I rx ry ⟨_, _, rfl, rfl, hb rfl⟩
    · cases rd; cases re; cases hf
      exact op_lt_str pins s σ H _ _ v u Q I rx ry ⟨_, _, rfl, rfl, hb (by rw [toS_list, toS_list])⟩
  case le =>
    cases d <;> cases e <;> simp only [cmpop] at hf <;> first | (cases hf; done) | skip
    · cases rd; cases re; cases hf
      exact op_le pins s σ H _ _ v u Q I rx ry ⟨_, _, rfl, rfl, hb rfl⟩
    · cases rd; cases re; cases hf
      exact op_le_str pins s σ H _ _ v u Q I rx ry ⟨_, _, rfl, rfl, hb (by rw [toS_list, toS_list])⟩
  case gt =>
    cases d <;> cases e <;> simp only [cmpop] at hf <;> first | (cases hf; done) | skip
    cases rd; cases re; cases hf
    exact op_gt pins s σ H _ _ v u Q I rx ry ⟨_, _, rfl, rfl, hb rfl⟩
  case ge =>
    cases d <;> cases e <;> simp only [cmpop] at hf <;> first | (cases hf; done) | skip
    cases rd; cases re; cases hf
    exact op_ge pins s σ H _ _ v u Q I rx ry ⟨_, _, rfl, rfl, hb rfl⟩
  case is_ =>
    by_cases he : e = .non
    · subst he
      cases re
      have hr : d.isNon = r := by cases d <;> simpa [cmpop] using hf
      refine op_isN pins s σ H _ _ v u Q I rx ry ⟨rfl, hb ?_⟩
      rw [← hr]
      cases rd <;> rfl
    · cases d <;> cases e <;> simp only [cmpop] at hf <;> first | (cases hf; done) | (exact absurd rfl he) | skip
      cases rd; cases re; cases hf
      exact op_isBl pins s σ H _ _ v u Q I rx ry ⟨_, _, rfl, rfl, hb (by rename_i a b; cases a <;> cases b <;> rfl)⟩
  case isnt =>
    by_cases he : e = .non
    · subst he
      cases re
      have hr : (!d.isNon) = r := by cases d <;> simpa [cmpop] using hf
      refine op_notN pins s σ H _ _ v u Q I rx ry ⟨rfl, hb ?_⟩
      rw [← hr]
      cases rd <;> rfl
    · cases d <;> cases e <;> simp only [cmpop] at hf <;> first | (cases hf; done) | (exact absurd rfl he) | skip
      cases rd; cases re; cases hf
      exact op_notBl pins s σ H _ _ v u Q I rx ry ⟨_, _, rfl, rfl, hb (by rename_i a b; cases a <;> cases b <;> rfl)⟩
  case in_ =>
    by_cases hs : ∃ c y, d = .str [c] ∧ e = .str y
    · obtain ⟨c, z, rfl, rfl⟩ := hs
      cases rd; cases re
      simp only [cmpop, Option.some.injEq] at hf
      exact op_in_sign pins s σ H _ _ v u Q I rx ry ⟨c, toS z, rfl, rfl, hb (by rw [toS_list]; exact hf)⟩
    · have hm : isMem h d e = some r := by
        rw [← hf]
        cases d <;> try (cases e <;> rfl)
        rename_i a
        match a, hs with
        | [], _ => cases e <;> rfl
        | [c], hs => cases e <;> first | rfl | (exact absurd ⟨c, _, rfl, rfl⟩ hs)
        | _ :: _ :: _, _ => cases e <;> rfl
      exact mem_in hK hu pins s σ H _ _ v u Q I rx ry S rd re hm (fun b q => hb q)
  case notin =>
    by_cases hs : ∃ c y, d = .str [c] ∧ e = .str y
    · obtain ⟨c, z, rfl, rfl⟩ := hs
      cases rd; cases re
      simp only [cmpop, Option.some.injEq] at hf
      exact op_notIn_sign pins s σ H _ _ v u Q I rx ry ⟨c, toS z, rfl, rfl, hb (by rw [toS_list]; exact hf)⟩
    · have hm : (isMem h d e).map (!·) = some r := by
        rw [← hf]
        cases d <;> try (cases e <;> rfl)
        rename_i a
        match a, hs with
        | [], _ => cases e <;> rfl
        | [c], hs => cases e <;> first | rfl | (exact absurd ⟨c, _, rfl, rfl⟩ hs)
        | _ :: _ :: _, _ => cases e <;> rfl
      cases hm' : isMem h d e with
      | none => rw [hm'] at hm; cases hm
      | some r' =>
        rw [hm'] at hm
        cases hm
        exact mem_notin hK hu pins s σ H _ _ v u Q I rx ry S rd re hm' (fun b q => hb (by rw [q]))
theorem ixn_eq (n : Nat) (i : Int) : ixn n i = L2.ixN n i := rfl
theorem ix_all (hK : X.K = W.K) (hu : X.A.units + 64 < cLine) : IxR X (r2 W index) := by
  intro value sl pins s σ H x y v u Q I rx ry hq hs
  obtain ⟨Z, ρ, h, d, e, r, S, rd, re, hf, hA⟩ := hq
  have dict : ∀ {k : K1} {kvs : List (K1 × D)}, asDct h d = some kvs → key1 e = some k → look k kvs = some r → wpAny (model X.prog X.w) X.A (subscriptTail value sl v u) (EP X pins σ Q) X.xe s := by
    intro k kvs e1 e2 e3
    obtain ⟨a, vs, rfl, q, t⟩ := asDct_ok S rd e1
    obtain rfl : v = Value.ref a := rx
    obtain ⟨z, hz, rz⟩ := t.look e3
    have g : DGet H a y (some z) := .inl ⟨vs, keyS k, q, key1_ok re e2, hz.symm⟩
    exact tail_any (dict_typeIs I g) PySem.F.slot_dict_getitem.lookup (d_getItem (by omega) I g ry fun w' s3 I3 rw' => ⟨z, H, I3, rw', hA.now S rz⟩) hs
  cases e <;> simp only [index] at hf <;> first | (cases hf; done) | skip
  · rename_i i
    by_cases hd : ∃ t, d = .str t
    · obtain ⟨t, rfl⟩ := hd
      simp only at hf
      split at hf
      · rename_i hl
        cases e1 : (ixn t.length i).bind fun j => t[j]? with
        | none => rw [e1] at hf; cases hf
        | some c =>
          rw [e1] at hf
          cases hf
          cases rd
          cases re
          refine ix_str value sl pins s σ H _ _ v u Q I rx ry ⟨toS t, i, c, rfl, rfl, by rw [toS_len, ← line_eq]; exact hl, ?_, hA.now S (.str [c])⟩ hs
          rw [toS_list]
          exact e1
      · cases hf
    · have hf' : (match asSeq h d with
        | some xs => (ixn xs.length i).bind fun j => xs[j]?
        | none => (asDct h d).bind fun kvs => look (.inl i) kvs) = some r := by
        rw [← hf]
        cases d <;> first | rfl | (exact absurd ⟨_, rfl⟩ hd)
      cases e1 : asSeq h d with
      | some xs =>
        rw [e1] at hf'
        dsimp only at hf'
        obtain ⟨a, vs, rfl, q, t⟩ := asSeq_ok S rd e1
        cases re
        cases e2 : ixn xs.length i with
        | none => rw [e2] at hf'; cases hf'
        | some j =>
          rw [e2] at hf'
          obtain ⟨z, hz, rz⟩ := t.get hf'
          have hat : atI vs i = some z := by
            show (L2.ixN vs.length i).bind _ = _
            rw [← t.length, ← ixn_eq, e2]
            exact hz
          rcases q with q | q
          · exact ix_list value sl pins s σ H _ _ v u Q I rx ry ⟨a, vs, i, z, rfl, rfl, hK ▸ q, hat, hA.now S rz⟩ hs
          · exact ix_tup value sl pins s σ H _ _ v u Q I rx ry ⟨a, vs, i, z, rfl, rfl, hK ▸ q, hat, hA.now S rz⟩ hs
      | none =>
        rw [e1] at hf'
        cases e2 : asDct h d with
        | none => rw [e2] at hf'; cases hf'
        | some kvs => rw [e2] at hf'; exact dict e2 rfl hf'
  · rename_i t
    cases e2 : asDct h d with
    | none => rw [e2] at hf; cases hf
    | some kvs => rw [e2] at hf; exact dict e2 rfl hf
def rSl (W : Wd) : V → Option Int → Option Int → Hp → VK → Prop := fun x lo hi H Q => ∃ Z ρ h d r, Sim W Z ρ h H ∧ RD W Z ρ H d x ∧ slice h d lo hi = some r ∧ Fw.Ans W Z ρ h H r Q
theorem six_eq (n d : Nat) (o : Option Int) : six n d o = HT.sIx n d o := by cases o <;> rfl
theorem sl_all (hK : X.K = W.K) : SlR X (rSl W) := by
  intro pins s σ H x v vl vu lo hi sl Q I rx hs pl pu hq
  obtain ⟨Z, ρ, h, d, r, S, rd, hf, hA⟩ := hq
  have lst : ∀ {xs : List D}, asLst h d = some xs → r = .lst (cut xs lo hi) → ∃ T id, typeLookup (.type T) "__getitem__" = pure (some (.builtin id)) ∧ s.TypeIs v T ∧ wpAny (model X.prog X.w) X.A (getItem v (.ref sl)) (EP X pins σ Q) X.xe s := by
    intro xs e1 e2
    subst e2
    obtain ⟨a, vs, rfl, q, t⟩ := asLst_ok S rd e1
    refine sl_list pins s σ H _ v vl vu lo hi sl Q I rx hs pl pu ⟨a, vs, rfl, SqL.of q, fun p n => hA.lst S ?_ p n⟩
    unfold cut cutV
    rw [six_eq, six_eq, t.length]
    exact t.drop.take
  cases d <;> simp only [slice] at hf
  case str t =>
    split at hf
    · rename_i hl
      cases hf
      cases rd
      refine C8.sl_txt pins s σ H _ v vl vu lo hi sl Q I rx hs pl pu ⟨toS t, rfl, by rw [toS_len, ← line_eq]; exact hl, ?_⟩
      have e : Txt.slice (toS t) lo hi = toS (cut t lo hi) := by
        rw [← C8.cutS_slice]
        unfold cutS cut toS
        rw [six_eq, six_eq]
        simp [Str.length]
      rw [e]
      exact hA.now S (.str _)
    · cases hf
  case tup xs =>
    cases hf
    obtain ⟨a, vs, rfl, q, t⟩ := tup_ok rd
    refine sl_tupA pins s σ H _ v vl vu lo hi sl Q I rx hs pl pu ⟨a, vs, rfl, hK ▸ q, fun hw => ?_, fun _ p n => ?_⟩
    · have e : cut xs lo hi = xs := by
        unfold cut
        rw [six_eq, six_eq, t.length, hw.1, hw.2]
        simp [← t.length]
      rw [e] at hA
      exact hA.now S rd
    · refine hA.tup S ?_ p n
      unfold cut cutV
      rw [six_eq, six_eq, t.length]
      exact t.drop.take
  case lst xs => exact lst rfl (by cases hf; rfl)
  case ref n =>
    cases e1 : asLst h (.ref n) with
    | none => rw [e1] at hf; cases hf
    | some xs => rw [e1] at hf; exact lst e1 (by cases hf; rfl)
  all_goals simp [asLst] at hf
end
end Fw
end
section
set_option Elab.async false
set_option linter.all false
set_option maxRecDepth 100000
set_option autoImplicit false
set_option maxHeartbeats 1000000
namespace Fw
open PySem PySem.Spec PyProof.Rows L2
def tE (W : Wd) (wx : WX) (f : TM) : TE := fun σ H Q => ∃ Z ρ σd h, Sim W Z ρ h H ∧ RSg W Z ρ H σd σ ∧ Post W Z ρ H (f σd h) (fun d ρ' _ H' => ∀ v, RD W Z ρ' H' d v → Q v H') (fun cls dd H' => wx cls dd σ H')
def tA (W : Wd) (wx : WX) (f : AM) : TA := fun σ H Q => ∃ Z ρ σd h, Sim W Z ρ h H ∧ RSg W Z ρ H σd σ ∧ Post W Z ρ H (f σd h) (fun ds ρ' _ H' => ∀ vs, RDs W Z ρ' H' ds vs → Q vs H') (fun cls dd H' => wx cls dd σ H')
def tB (W : Wd) (wx : WX) (f : BM) : TT := fun σ H Q => ∃ Z ρ σd h, Sim W Z ρ h H ∧ RSg W Z ρ H σd σ ∧ Post W Z ρ H (f σd h) (fun k _ _ H' => Q k H') (fun cls dd H' => wx cls dd σ H')
def tOp1 (W : Wd) (wx : WX) (f : OM) : TO := fun σ H Q => ∃ Z ρ σd h, Sim W Z ρ h H ∧ RSg W Z ρ H σd σ ∧ Post W Z ρ H (f σd h) (fun k _ _ H' => Q k H') (fun cls dd H' => wx cls dd σ H')
structure Jc (X : Cx) (W : Wd) (wx : WX) : Prop where
  hK : X.K = W.K
  hu : X.A.units + 64 < cLine
  hu2 : X.A.units + 190 < cLine
  gd : X.A.guards = some []
  tk : Takes X wx
abbrev EJ (X : Cx) (W : Wd) (wx : WX) (e : Expr) (f : TM) : Prop := PE X e (tE W wx f)
abbrev AJ (X : Cx) (W : Wd) (wx : WX) (es : List Expr) (f : AM) : Prop := PA X es (tA W wx f)
abbrev BJ (X : Cx) (W : Wd) (wx : WX) (e : Expr) (f : BM) : Prop := PT X e (tB W wx f)
abbrev WJ (X : Cx) (W : Wd) (wx : WX) (e : Expr) (f : BM) : Prop := PW X e (tB W wx f)
abbrev OJ (X : Cx) (W : Wd) (wx : WX) (e : Option Expr) (f : OM) : Prop := PO X e (tOp1 W wx f)
section
variable {W : Wd} {Z ρ : List Addr} {h : Hh} {H : Hp} {E : XK}
theorem post_opt {o : Option D} {Q : VK} (p : Post W Z ρ H (opt o h) (fun d ρ' _ H' => ∀ v, RD W Z ρ' H' d v → Q v H') E) : ∃ r, o = some r ∧ Fw.Ans W Z ρ h H r Q := by
  cases o with
  | none => exact p.elim
  | some r => exact ⟨r, rfl, fun ρ' H' v x S rv => p ρ' H' x S v rv⟩
theorem post_optB {o : Option Bool} {Q : Bool → Hp → Prop} (S : Sim W Z ρ h H) (p : Post W Z ρ H (optB o h) (fun k _ _ H' => Q k H') E) : ∃ r, o = some r ∧ Q r H := by
  cases o with
  | none => exact p.elim
  | some r => exact ⟨r, rfl, p ρ H Ext.refl S⟩
theorem post_now {α : Type} {a : α} {Q : α → List Addr → Hh → Hp → Prop} (S : Sim W Z ρ h H) (p : Post W Z ρ H (.ok a h) Q E) : Q a ρ h H := p ρ H Ext.refl S
end
variable {X : Cx} {W : Wd} {wx : WX} {a b c e : Expr} {fa fb fc f : TM} {ga gb : BM} {pos : Pos} {es rest : List Expr} {fs : AM}
theorem ej_c {v : V} {d : D} (h : PE X e (tC v)) (hd : ∀ Z ρ H, RD W Z ρ H d v) : EJ X W wx e (eC d) :=
  ⟨fun pins s σ H Q I ⟨Z, ρ, σd, h0, S, rs, p⟩ => h.run pins s σ H Q I (post_now S p v (hd Z ρ H))⟩
theorem ej_int {i : Int} {j pos} : EJ X W wx (.Constant (.int i) j pos) (eC (.int i)) := ej_c pe_int fun _ _ _ => .int i
theorem ej_bl {i : Bool} {j pos} : EJ X W wx (.Constant (.bool i) j pos) (eC (.bl i)) := ej_c pe_bl fun _ _ _ => .bl i
theorem ej_non {j pos} : EJ X W wx (.Constant .none j pos) (eC .non) := ej_c pe_non fun _ _ _ => .non
theorem ej_str {x : Str} {t : Tx} {j pos} (h : x = toS t := by rfl) : EJ X W wx (.Constant (.str x) j pos) (eC (.str t)) := by subst h; exact ej_c pe_str fun _ _ _ => .str t
theorem ej_v {i : Nat} {x : Str} (hN : X.N[i]? = some x) (hv : Vis X.env.scope x) (hd : (x == ("__debug__" : Str)) = false := by decide) (hcd : (x == ("__classdict__" : Str)) = false := by decide) : EJ X W wx (.Name x pos) (eV i) :=
  ⟨fun pins s σ H Q I ⟨Z, ρ, σd, h0, S, rs, p⟩ => by
    obtain ⟨d, hd', hA⟩ := post_opt p
    have : σd[i]? = some (some d) := by
      unfold sget at hd'
      split at hd'
      · rename_i d' q; cases hd'; exact q
      · cases hd'
    obtain ⟨v, hv', rv⟩ := rs.at_ i d this
    exact (pe_var hN hv hd hcd).run pins s σ H Q I ⟨v, hv', hA.now S rv⟩⟩
theorem aj_nil : AJ X W wx [] aNil := ⟨fun pos pins s σ H Q I ⟨Z, ρ, σd, h0, S, rs, p⟩ => pa_nil.run pos pins s σ H Q I (post_now S p [] .nil)⟩
theorem aj_cons (ha : EJ X W wx e f) (hr : AJ X W wx es fs) (hs : starEach (e :: es) X.env = (false, eval e X.env) :: starEach es X.env := by rfl) : AJ X W wx (e :: es) (aCons f fs) :=
  ⟨fun pos pins s σ H Q I ⟨Z, ρ, σd, h0, S, rs, p⟩ => (pa_cons ha hr hs).run pos pins s σ H Q I
    ⟨Z, ρ, σd, h0, S, rs, (Post.bind p).imp fun d ρ1 h1 H1 x1 S1 p1 v rv =>
      ⟨Z, ρ1, σd, h1, S1, rs.mono x1, (Post.bind p1).imp fun ds ρ2 h2 H2 x2 S2 p2 vs rvs => post_now S2 p2 (v :: vs) (.cons (rv.mono x2) rvs)⟩⟩⟩
theorem ej_tup {k} (ha : AJ X W wx es fs) : EJ X W wx (.Tuple es k pos) (eTup fs) :=
  ⟨fun pins s σ H Q I ⟨Z, ρ, σd, h0, S, rs, p⟩ => (pe_tup ha).run pins s σ H Q I
    ⟨Z, ρ, σd, h0, S, rs, (Post.bind p).imp fun ds ρ1 h1 H1 x1 S1 p1 vs rvs => by
      split at p1
      · rename_i hl
        refine ⟨by rw [← rvs.length, ← line_eq]; exact hl, fun q n => ?_⟩
        exact Fw.Ans.tup (fun ρ' H' v x S rv => p1 ρ' H' x S v rv) S1 rvs q n
      · exact p1.elim⟩⟩
theorem ej_lst (ha : AJ X W wx es fs) : EJ X W wx (.List es pos) (eLst fs) :=
  ⟨fun pins s σ H Q I ⟨Z, ρ, σd, h0, S, rs, p⟩ => (pe_lst ha).run pins s σ H Q I
    ⟨Z, ρ, σd, h0, S, rs, (Post.bind p).imp fun ds ρ1 h1 H1 x1 S1 p1 vs rvs => by
      split at p1
      · rename_i hl
        refine ⟨by rw [← rvs.length, ← line_eq]; exact hl, fun q n => ?_⟩
        exact Fw.Ans.lst (fun ρ' H' v x S rv => p1 ρ' H' x S v rv) S1 rvs q n
      · exact p1.elim⟩⟩
theorem getElem?_snoc {α : Type} {xs : List α} {x : α} {n : Nat} {y : α} (h : (xs ++ [x])[n]? = some y) : (n < xs.length ∧ xs[n]? = some y) ∨ (n = xs.length ∧ y = x) := by
  by_cases hn : n < xs.length
  · rw [List.getElem?_append_left hn] at h
    exact .inl ⟨hn, h⟩
  · rw [List.getElem?_append_right (by omega)] at h
    have : n - xs.length = 0 := by
      have := (List.getElem?_eq_some_iff.mp h).1
      simp at this
      omega
    rw [this] at h
    simp at h
    exact .inr ⟨by omega, h.symm⟩
section
variable {Z ρ : List Addr} {h : Hh} {H : Hp}
theorem Ext.own {p : Addr} {o : HO} (n : H p = none) : Ext ρ H (ρ ++ [p]) (upd H p o) :=
  ⟨List.prefix_append _ _, fun a u hr e => by
    refine ⟨fun hm => ?_, ?_⟩
    · rcases List.mem_append.mp hm with hm | hm
      · exact hr hm
      · have : a = p := by simpa using hm
        subst this; rw [n] at e; cases e
    · rw [upd_ne (ne_of_none e n)]; exact e⟩
theorem OR.mono' {p a : Addr} {o : O} {u : HO} (n : H p = none) (r : OR W Z ρ H a o) : OR W Z (ρ ++ [p]) (upd H p u) a o := by
  have x : Ext ρ H (ρ ++ [p]) (upd H p u) := Ext.own n
  cases r with
  | lst e t => exact .lst (by rw [upd_ne (ne_of_none e n)]; exact e) (t.mono x)
  | ro e t =>
    refine .ro ?_ (t.mono x)
    rcases e with e | ⟨ob, e⟩
    · exact .inl (by rw [upd_ne (ne_of_none e n)]; exact e)
    · exact .inr ⟨ob, by rw [upd_ne (ne_of_none e n)]; exact e⟩
  | dct e t => exact .dct (by rw [upd_ne (ne_of_none e n)]; exact e) (t.mono x)
  | ins e t => exact .ins (by rw [upd_ne (ne_of_none e n)]; exact e) (t.mono x)
  | dtu e k t => exact .dtu (by rw [upd_ne (ne_of_none e n)]; exact e) k (t.mono x)
theorem Sim.own {p : Addr} {o : HO} {ob : O} (S : Sim W Z ρ h H) (n : H p = none) (r : OR W Z (ρ ++ [p]) (upd H p o) p ob) : Sim W Z (ρ ++ [p]) (h ++ [ob]) (upd H p o) where
  len := by simp [S.len]
  nd := List.nodup_append.mpr ⟨S.nd, by simp, fun a ha b hb => by
    have hb : b = p := by simpa using hb
    subst hb; exact fun e => (S.new n).2 (e ▸ ha)⟩
  dis := fun z hz => by
    obtain ⟨h1, u, e⟩ := S.dis z hz
    refine ⟨fun hm => ?_, u, by rw [upd_ne (ne_of_none e n)]; exact e⟩
    rcases List.mem_append.mp hm with hm | hm
    · exact h1 hm
    · have : z = p := by simpa using hm
      subst this; exact (S.new n).1 hz
  obj := fun m u a e1 e2 => by
    rcases getElem?_snoc e1 with ⟨hm, e1⟩ | ⟨hm, rfl⟩
    · rw [List.getElem?_append_left (by rw [S.len]; exact hm)] at e2
      exact (S.obj m u a e1 e2).mono' n
    · subst hm
      rw [List.getElem?_append_right (by rw [S.len]; exact Nat.le_refl _), S.len] at e2
      simp at e2
      subst e2
      exact r
end
theorem ej_newL (ha : AJ X W wx es fs) : EJ X W wx (.List es pos) (eNewL fs) :=
  ⟨fun pins s σ H Q I ⟨Z, ρ, σd, h0, S, rs, p⟩ => (pe_lst ha).run pins s σ H Q I
    ⟨Z, ρ, σd, h0, S, rs, (Post.bind p).imp fun ds ρ1 h1 H1 x1 S1 p1 vs rvs => by
      split at p1
      · rename_i hl
        refine ⟨by rw [← rvs.length, ← line_eq]; exact hl, fun q n => ?_⟩
        have S2 := S1.own (o := .lst vs) (ob := .lst ds) n (.lst upd_same (rvs.mono (Ext.own n)))
        exact p1 (ρ1 ++ [q]) _ (Ext.own n) S2 (.ref q) (.ref (by rw [← S1.len]; simp))
      · exact p1.elim⟩⟩
theorem ej_bin (J : Jc X W wx) {op : Bop} {o : Operator} (ho : o = bopOf op := by rfl) (ha : EJ X W wx a fa) (hb : EJ X W wx b fb) : EJ X W wx (.BinOp a o b pos) (eBin op fa fb) := by
  subst ho
  exact ⟨fun pins s σ H Q I ⟨Z, ρ, σd, h0, S, rs, p⟩ => (pe_op (op_bin J.hK op) ha hb).run pins s σ H Q I
    ⟨Z, ρ, σd, h0, S, rs, (Post.bind p).imp fun d ρ1 h1 H1 x1 S1 p1 v rv =>
      ⟨Z, ρ1, σd, h1, S1, rs.mono x1, (Post.bind p1).imp fun e ρ2 h2 H2 x2 S2 p2 u ru => by
        obtain ⟨r, e1, hA⟩ := post_opt p2
        exact ⟨Z, ρ2, h2, d, e, r, S2, rv.mono x2, ru, e1, hA⟩⟩⟩⟩
section
variable {Z ρ : List Addr} {h : Hh} {H : Hp} {E : XK}
theorem post_cmp {o : Option Bool} {Q : VK} (p : Post W Z ρ H (opt (o.map .bl) h) (fun d ρ' _ H' => ∀ v, RD W Z ρ' H' d v → Q v H') E) : ∃ r, o = some r ∧ Fw.Ans W Z ρ h H (.bl r) Q := by
  obtain ⟨r, e, hA⟩ := post_opt p
  cases o with
  | none => cases e
  | some k => cases e; exact ⟨k, rfl, hA⟩
end
theorem ej_cmp (J : Jc X W wx) {op : Cop} {o : CmpOp} (ho : o = copOf op := by rfl) (ha : EJ X W wx a fa) (hb : EJ X W wx b fb) (hm : behindInMarks o b = false := by with_unfolding_all rfl) : EJ X W wx (.Compare a [o] [b] pos) (eCmp op fa fb) := by
  subst ho
  exact ⟨fun pins s σ H Q I ⟨Z, ρ, σd, h0, S, rs, p⟩ => (pe_cmpR (op_cmp J.hK J.hu op) ha hb hm).run pins s σ H Q I
    ⟨Z, ρ, σd, h0, S, rs, (Post.bind p).imp fun d ρ1 h1 H1 x1 S1 p1 v rv =>
      ⟨Z, ρ1, σd, h1, S1, rs.mono x1, (Post.bind p1).imp fun e ρ2 h2 H2 x2 S2 p2 u ru => by
        obtain ⟨r, e1, hA⟩ := post_cmp p2
        exact ⟨Z, ρ2, h2, d, e, r, S2, rv.mono x2, ru, e1, hA⟩⟩⟩⟩
theorem bj_cmp (J : Jc X W wx) {op : Cop} {o : CmpOp} (ho : o = copOf op := by rfl) (ha : EJ X W wx a fa) (hb : EJ X W wx b fb) (hm : behindInMarks o b = false := by with_unfolding_all rfl) : BJ X W wx (.Compare a [o] [b] pos) (bCmp op fa fb) := by
  subst ho
  exact ⟨fun pins s σ H Q I ⟨Z, ρ, σd, h0, S, rs, p⟩ => (pt_cmpR (op_cmp J.hK J.hu op) ha hb hm).run pins s σ H Q I
    ⟨Z, ρ, σd, h0, S, rs, (Post.bind p).imp fun d ρ1 h1 H1 x1 S1 p1 v rv =>
      ⟨Z, ρ1, σd, h1, S1, rs.mono x1, (Post.bind p1).imp fun e ρ2 h2 H2 x2 S2 p2 u ru => by
        obtain ⟨r, e1, q⟩ := post_optB S2 p2
        refine ⟨Z, ρ2, h2, d, e, r, S2, rv.mono x2, ru, e1, fun ρ' H' v x S' rv' => ?_⟩
        cases rv'
        exact ⟨r, rfl, by
          have := p2
          rw [e1] at this
          exact this ρ' H' x S'⟩⟩⟩⟩
theorem chain_core {op op' : Cop} {Z ρ : List Addr} {h : Hh} {H : Hp} {d e : D} {v u : V} {σd : Sg} {σ : L2.St} {Q : Bool → List Addr → Hh → Hp → Prop} {Q' : VK} (S : Sim W Z ρ h H) (rs : RSg W Z ρ H σd σ) (rv : RD W Z ρ H d v) (ru : RD W Z ρ H e u)
    (p : Post W Z ρ H (match cmpop h op d e with
      | none => .bad
      | some false => R.ok false h
      | some true => (fc σd h).bind fun f h => optB (cmpop h op' e f) h) Q fun cls dd H' => wx cls dd σ H')
    (q : ∀ k ρ' h' H', Sim W Z ρ' h' H' → Q k ρ' h' H' → Q' (.bl k) H') :
    r2b W (fun h => cmpop h op) v u H fun z H3 => ∃ k, z = .bl k ∧ (if k = true then tE W wx fc σ H3 fun w' H4 => r2b W (fun h => cmpop h op') u w' H4 Q' else Q' (.bl false) H3) := by
  cases hc : cmpop h op d e with
  | none => rw [hc] at p; exact p.elim
  | some k =>
    rw [hc] at p
    refine ⟨Z, ρ, h, d, e, k, S, rv, ru, hc, fun ρ' H' w x S' rw' => ?_⟩
    cases rw'
    refine ⟨k, rfl, ?_⟩
    cases k with
    | false => exact q _ _ _ _ S' (p ρ' H' x S')
    | true =>
      have p' := p.mono x
      rw [if_pos rfl]
      refine ⟨Z, ρ', σd, h, S', rs.mono x, (Post.bind p').imp fun g ρ2 h2 H2 x2 S2 p2 w rw2 => ?_⟩
      cases hc2 : cmpop h2 op' e g with
      | none => rw [hc2] at p2; exact p2.elim
      | some k2 =>
        rw [hc2] at p2
        exact ⟨Z, ρ2, h2, e, g, k2, S2, (ru.mono x).mono x2, rw2, hc2, fun ρ3 H3 w3 x3 S3 r3 => by cases r3; exact q _ _ _ _ S3 (p2 ρ3 H3 x3 S3)⟩
theorem ej_ch (J : Jc X W wx) {op op' : Cop} {o o' : CmpOp} (ho : o = copOf op := by rfl) (ho' : o' = copOf op' := by rfl) (ha : EJ X W wx a fa) (hb : EJ X W wx b fb) (hc : EJ X W wx c fc)
    (hm : lastMarks [o, o'] [b, c] = false := by with_unfolding_all rfl) : EJ X W wx (.Compare a [o, o'] [b, c] pos) (eCh op op' fa fb fc) := by
  subst ho ho'
  exact ⟨fun pins s σ H Q I ⟨Z, ρ, σd, h0, S, rs, p⟩ => (pe_chain (op_cmp J.hK J.hu op) (op_cmp J.hK J.hu op') ha hb hc hm).run pins s σ H Q I
    ⟨Z, ρ, σd, h0, S, rs, (Post.bind (Post.bind p)).imp fun d ρ1 h1 H1 x1 S1 p1 v rv =>
      ⟨Z, ρ1, σd, h1, S1, rs.mono x1, (Post.bind p1).imp fun e ρ2 h2 H2 x2 S2 p2 u ru =>
        chain_core S2 ((rs.mono x1).mono x2) (rv.mono x2) ru p2 fun k _ _ H' S' q => post_now S' q _ (.bl k)⟩⟩⟩
theorem ej_and (J : Jc X W wx) (ha : EJ X W wx a fa) (hb : EJ X W wx (.BoolOp .And (b :: rest) pos) fb) : EJ X W wx (.BoolOp .And (a :: b :: rest) pos) (eAnd fa fb) :=
  ⟨fun pins s σ H Q I ⟨Z, ρ, σd, h0, S, rs, p⟩ => (pe_andT ha hb).run pins s σ H Q I
    ⟨Z, ρ, σd, h0, S, rs, (Post.bind p).imp fun d ρ1 h1 H1 x1 S1 p1 v rv => by
      cases ht : tru h1 d with
      | none => rw [ht] at p1; exact p1.elim
      | some k =>
        rw [ht] at p1
        refine ⟨k, J.hK ▸ tru_ok S1 rv ht, ?_⟩
        cases k with
        | true => exact ⟨Z, ρ1, σd, h1, S1, rs.mono x1, p1⟩
        | false => exact post_now S1 p1 v rv⟩⟩
theorem ej_or (J : Jc X W wx) (ha : EJ X W wx a fa) (hb : EJ X W wx (.BoolOp .Or (b :: rest) pos) fb) : EJ X W wx (.BoolOp .Or (a :: b :: rest) pos) (eOr fa fb) :=
  ⟨fun pins s σ H Q I ⟨Z, ρ, σd, h0, S, rs, p⟩ => (pe_orT ha hb).run pins s σ H Q I
    ⟨Z, ρ, σd, h0, S, rs, (Post.bind p).imp fun d ρ1 h1 H1 x1 S1 p1 v rv => by
      cases ht : tru h1 d with
      | none => rw [ht] at p1; exact p1.elim
      | some k =>
        rw [ht] at p1
        refine ⟨k, J.hK ▸ tru_ok S1 rv ht, ?_⟩
        cases k with
        | false => exact ⟨Z, ρ1, σd, h1, S1, rs.mono x1, p1⟩
        | true => exact post_now S1 p1 v rv⟩⟩
theorem ej_one {op} (ha : EJ X W wx a fa) : EJ X W wx (.BoolOp op [a] pos) fa := pe_one ha
theorem ej_not (J : Jc X W wx) (ha : EJ X W wx a fa) : EJ X W wx (.UnaryOp .Not a pos) (eNot fa) :=
  ⟨fun pins s σ H Q I ⟨Z, ρ, σd, h0, S, rs, p⟩ => (pe_notT ha).run pins s σ H Q I
    ⟨Z, ρ, σd, h0, S, rs, (Post.bind p).imp fun d ρ1 h1 H1 x1 S1 p1 v rv => by
      cases ht : tru h1 d with
      | none => rw [ht] at p1; exact p1.elim
      | some k =>
        rw [ht] at p1
        exact ⟨k, J.hK ▸ tru_ok S1 rv ht, post_now S1 p1 _ (.bl _)⟩⟩⟩
theorem bj_t (J : Jc X W wx) (ha : EJ X W wx a fa) (he : ∀ whole, isTrue a X.env whole = (do let v ← whole; standAt a.pos; holding [v] (truthy v)) := by intro _; rfl) : BJ X W wx a (bT fa) :=
  ⟨fun pins s σ H Q I ⟨Z, ρ, σd, h0, S, rs, p⟩ => (pt_truth ha he).run pins s σ H Q I
    ⟨Z, ρ, σd, h0, S, rs, (Post.bind p).imp fun d ρ1 h1 H1 x1 S1 p1 v rv => by
      obtain ⟨k, ht, q⟩ := post_optB S1 p1
      exact ⟨k, J.hK ▸ tru_ok S1 rv ht, q⟩⟩⟩
theorem wj_and1 (ha : BJ X W wx a ga) : WJ X W wx (.BoolOp .And [a] pos) ga := pw_and1 ha
theorem wj_or1 (ha : BJ X W wx a ga) : WJ X W wx (.BoolOp .Or [a] pos) ga := pw_or1 ha
theorem wj_and (ha : BJ X W wx a ga) (hb : WJ X W wx (.BoolOp .And (b :: rest) pos) gb) : WJ X W wx (.BoolOp .And (a :: b :: rest) pos) (bAnd ga gb) :=
  ⟨fun whole pins s σ H Q I ⟨Z, ρ, σd, h0, S, rs, p⟩ => (pw_and ha hb).run whole pins s σ H Q I
    ⟨Z, ρ, σd, h0, S, rs, (Post.bind p).imp fun k ρ1 h1 H1 x1 S1 p1 => by
      cases k with
      | true => exact ⟨Z, ρ1, σd, h1, S1, rs.mono x1, p1⟩
      | false => exact post_now S1 p1⟩⟩
theorem wj_or (ha : BJ X W wx a ga) (hb : WJ X W wx (.BoolOp .Or (b :: rest) pos) gb) : WJ X W wx (.BoolOp .Or (a :: b :: rest) pos) (bOr ga gb) :=
  ⟨fun whole pins s σ H Q I ⟨Z, ρ, σd, h0, S, rs, p⟩ => (pw_or ha hb).run whole pins s σ H Q I
    ⟨Z, ρ, σd, h0, S, rs, (Post.bind p).imp fun k ρ1 h1 H1 x1 S1 p1 => by
      cases k with
      | false => exact ⟨Z, ρ1, σd, h1, S1, rs.mono x1, p1⟩
      | true => exact post_now S1 p1⟩⟩
theorem bj_w (h : WJ X W wx a ga) : BJ X W wx a ga := PW.pt h
theorem bj_not (ha : BJ X W wx a ga) : BJ X W wx (.UnaryOp .Not a pos) (bNot ga) :=
  ⟨fun pins s σ H Q I ⟨Z, ρ, σd, h0, S, rs, p⟩ => (pt_not ha).run pins s σ H Q I
    ⟨Z, ρ, σd, h0, S, rs, (Post.bind p).imp fun k ρ1 h1 H1 x1 S1 p1 => post_now S1 p1⟩⟩
theorem ej_ite (hc : BJ X W wx c ga) (ha : EJ X W wx a fa) (hb : EJ X W wx b fb) : EJ X W wx (.IfExp c a b pos) (eIte ga fa fb) :=
  ⟨fun pins s σ H Q I ⟨Z, ρ, σd, h0, S, rs, p⟩ => (pe_ifExp hc ha hb).run pins s σ H Q I
    ⟨Z, ρ, σd, h0, S, rs, (Post.bind p).imp fun k ρ1 h1 H1 x1 S1 p1 => by
      cases k with
      | false => exact ⟨Z, ρ1, σd, h1, S1, rs.mono x1, p1⟩
      | true => exact ⟨Z, ρ1, σd, h1, S1, rs.mono x1, p1⟩⟩⟩
theorem ej_ix (J : Jc X W wx) (ha : EJ X W wx a fa) (hb : EJ X W wx b fb) (hs : PlainIx b := by intro _ _; rfl) : EJ X W wx (.Subscript a b pos) (eIx fa fb) :=
  ⟨fun pins s σ H Q I ⟨Z, ρ, σd, h0, S, rs, p⟩ => (pe_ix (ix_all J.hK J.hu) ha hb hs).run pins s σ H Q I
    ⟨Z, ρ, σd, h0, S, rs, (Post.bind p).imp fun d ρ1 h1 H1 x1 S1 p1 v rv =>
      ⟨Z, ρ1, σd, h1, S1, rs.mono x1, (Post.bind p1).imp fun e ρ2 h2 H2 x2 S2 p2 u ru => by
        obtain ⟨r, e1, hA⟩ := post_opt p2
        exact ⟨Z, ρ2, h2, d, e, r, S2, rv.mono x2, ru, e1, hA⟩⟩⟩⟩
theorem oj_n : OJ X W wx none oN := ⟨fun pins s σ H Q I ⟨Z, ρ, σd, h0, S, rs, p⟩ => po_none.run pins s σ H Q I (post_now S p)⟩
theorem oj_s (ha : EJ X W wx a fa) : OJ X W wx (some a) (oS fa) :=
  ⟨fun pins s σ H Q I ⟨Z, ρ, σd, h0, S, rs, p⟩ => (po_some ha).run pins s σ H Q I
    ⟨Z, ρ, σd, h0, S, rs, (Post.bind p).imp fun d ρ1 h1 H1 x1 S1 p1 v rv => by
      cases d <;> first | (exact p1.elim) | skip
      cases rv
      exact ⟨_, rfl, post_now S1 p1⟩⟩⟩
theorem ej_sl (J : Jc X W wx) {lo hi : Option Expr} {l u : OM} {p2 : Pos} (ha : EJ X W wx a fa) (hl : OJ X W wx lo l) (hh : OJ X W wx hi u) : EJ X W wx (.Subscript a (.Slice lo hi none p2) pos) (eSl fa l u) :=
  ⟨fun pins s σ H Q I ⟨Z, ρ, σd, h0, S, rs, p⟩ => (pe_slice (sl_all J.hK) ha hl hh).run pins s σ H Q I
    ⟨Z, ρ, σd, h0, S, rs, (Post.bind p).imp fun d ρ1 h1 H1 x1 S1 p1 v rv =>
      ⟨Z, ρ1, σd, h1, S1, rs.mono x1, (Post.bind p1).imp fun l ρ2 h2 H2 x2 S2 p2 =>
        ⟨Z, ρ2, σd, h2, S2, (rs.mono x1).mono x2, (Post.bind p2).imp fun u ρ3 h3 H3 x3 S3 p3 => by
          obtain ⟨r, e1, hA⟩ := post_opt p3
          exact ⟨Z, ρ3, h3, d, r, S3, (rv.mono x2).mono x3, e1, hA⟩⟩⟩⟩⟩
end Fw
end
section
set_option Elab.async false
set_option linter.all false
set_option maxRecDepth 100000
set_option autoImplicit false
set_option maxHeartbeats 1000000
namespace Fw
open PySem PySem.Spec PyProof.Rows L2
section
variable {W : Wd} {Z ρ : List Addr} {H : Hp} {σd : Sg} {σ : L2.St}
theorem RSg.set (r : RSg W Z ρ H σd σ) {i : Nat} {d : D} {v : V} (rv : RD W Z ρ H d v) : RSg W Z ρ H (σd.set i (some d)) (σ.set i (some v)) where
  len := by simp [r.len]
  at_ := fun j e h => by
    by_cases hij : i = j
    · subst hij
      by_cases hl : i < σd.length
      · rw [List.getElem?_set_self hl] at h
        cases h
        exact ⟨v, by rw [List.getElem?_set_self (by rw [← r.len]; exact hl)], rv⟩
      · rw [List.getElem?_eq_none (by simpa using hl)] at h; cases h
    · rw [List.getElem?_set_ne hij] at h
      rw [List.getElem?_set_ne hij]
      exact r.at_ j e h
theorem RSg.wipe (r : RSg W Z ρ H σd σ) : ∀ vs : List Nat, RSg W Z ρ H (Fw.wipe σd vs) (L2.wipe σ vs)
  | [] => r
  | v :: vs => by
    have ih := r.wipe vs
    refine ⟨by simp [Fw.wipe, L2.wipe, ih.len], fun j e h => ?_⟩
    simp only [Fw.wipe] at h
    by_cases hij : v = j
    · subst hij
      by_cases hl : v < (Fw.wipe σd vs).length
      · rw [List.getElem?_set_self hl] at h; cases h
      · rw [List.getElem?_eq_none (by simpa using hl)] at h; cases h
    · rw [List.getElem?_set_ne hij] at h
      simp only [L2.wipe]
      rw [List.getElem?_set_ne hij]
      exact ih.at_ j e h
end
theorem wipe_set {σ : L2.St} {i : Nat} {x : Option V} : ∀ {vs : List Nat}, i ∈ vs → L2.wipe (σ.set i x) vs = L2.wipe σ vs
  | [], h => absurd h (by simp)
  | v :: vs, h => by
    simp only [L2.wipe]
    by_cases hv : i ∈ vs
    · rw [wipe_set hv]
    · have : i = v := by simpa [hv] using h
      subst this
      have out : ∀ (vs : List Nat) (σ : L2.St), i ∉ vs → L2.wipe (σ.set i x) vs = (L2.wipe σ vs).set i x := by
        intro vs
        induction vs with
        | nil => intro σ _; rfl
        | cons w ws ih =>
          intro σ hw
          simp only [L2.wipe]
          rw [ih σ (fun q => hw (List.mem_cons_of_mem _ q))]
          exact List.set_comm _ _ (fun q => hw (by subst q; exact List.mem_cons_self))
      rw [out vs σ hv, List.set_set]
mutual
def gOf (K : PySem.W.Frag) : G → TG
  | .nm i => gName i
  | .tp gs => fun v σ H Q => gTup K gs.length (gsOf K gs) v σ H Q ∨ gLst K gs.length (gsOf K gs) v σ H Q
def gsOf (K : PySem.W.Frag) : List G → TGs
  | [] => gNil
  | g :: gs => gCons (gOf K g) (gsOf K gs)
end
theorem bindGs_len : ∀ {gs : List G} {xs : List D} {σ σ' : Sg}, bindGs σ gs xs = some σ' → xs.length = gs.length
  | [], [], _, _, _ => rfl
  | [], _ :: _, _, _, h => by simp [bindGs] at h
  | _ :: _, [], _, _, h => by simp [bindGs] at h
  | g :: gs, x :: xs, σ, σ', h => by
    simp only [bindGs] at h
    split at h
    · simp [bindGs_len h]
    · cases h
section
variable {W : Wd} {K : PySem.W.Frag} {Z ρ : List Addr} {H : Hp}
mutual
theorem bindG_ok (hK : K = W.K) : ∀ (g : G) {d : D} {v : V} {σd σd' : Sg} {σ : L2.St} {Q : L2.St → Hp → Prop}, RSg W Z ρ H σd σ → RD W Z ρ H d v → bindG σd g d = some σd' →
    (∀ σ', RSg W Z ρ H σd' σ' → (∀ own : List Nat, (∀ i ∈ g.ix, i ∈ own) → L2.wipe σ' own = L2.wipe σ own) → Q σ' H) → gOf K g v σ H Q
  | .nm i, d, v, σd, σd', σ, Q, rs, rv, e, q => by
    simp only [bindG] at e
    cases e
    exact q _ (rs.set rv) fun own ho => wipe_set (ho i (by simp [G.ix]))
  | .tp gs, d, v, σd, σd', σ, Q, rs, rv, e, q => by
    cases rv <;> simp only [bindG] at e <;> first | (cases e; done) | skip
    case tup a ds vs z ra h t =>
      refine .inl ⟨a, vs, rfl, SqT.of h, by rw [← t.length]; exact bindGs_len e, bindGs_ok hK gs rs t e fun σ' r w => q σ' r fun own ho => w own (by simpa [G.ix] using ho)⟩
    case tupK a ds vs h t =>
      refine .inl ⟨a, vs, rfl, hK ▸ .inr h, by rw [← t.length]; exact bindGs_len e, bindGs_ok hK gs rs t e fun σ' r w => q σ' r fun own ho => w own (by simpa [G.ix] using ho)⟩
    case lst a ds vs z ra h t =>
      refine .inr ⟨a, vs, rfl, SqL.of h, by rw [← t.length]; exact bindGs_len e, bindGs_ok hK gs rs t e fun σ' r w => q σ' r fun own ho => w own (by simpa [G.ix] using ho)⟩
theorem bindGs_ok (hK : K = W.K) : ∀ (gs : List G) {ds : List D} {vs : List V} {σd σd' : Sg} {σ : L2.St} {Q : L2.St → Hp → Prop}, RSg W Z ρ H σd σ → RDs W Z ρ H ds vs → bindGs σd gs ds = some σd' →
    (∀ σ', RSg W Z ρ H σd' σ' → (∀ own : List Nat, (∀ i ∈ ixs gs, i ∈ own) → L2.wipe σ' own = L2.wipe σ own) → Q σ' H) → gsOf K gs vs σ H Q
  | [], ds, vs, σd, σd', σ, Q, rs, rv, e, q => by
    cases rv with
    | nil => simp only [bindGs] at e; cases e; exact ⟨rfl, q _ rs fun _ _ => rfl⟩
    | cons _ _ => simp [bindGs] at e
  | g :: gs, ds, vs, σd, σd', σ, Q, rs, rv, e, q => by
    cases rv with
    | nil => simp [bindGs] at e
    | cons r t =>
      simp only [bindGs] at e
      split at e
      · rename_i σ1 e1
        refine ⟨_, _, rfl, bindG_ok hK g rs r e1 fun σ' r1 w1 => bindGs_ok hK gs r1 t e fun σ2 r2 w2 => q σ2 r2 fun own ho => ?_⟩
        rw [w2 own (fun i hi => ho i (by simp [ixs, hi])), w1 own (fun i hi => ho i (by simp [ixs, hi]))]
      · cases e
end
end
abbrev GJ (X : Cx) (tg : Expr) (g : G) : Prop := PG X tg (gOf X.K g)
abbrev GsJ (X : Cx) (tg : List Expr) (gs : List G) : Prop := PGs X tg (gsOf X.K gs)
section
variable {X : Cx} {pos : Pos}
theorem gj_nm {i : Nat} {x : Str} (hN : X.N.Nodup) (hi : X.N[i]? = some x) (hx : Loc X.env.scope x) (hf : X.fn x = true ∨ X.env.scope.names.lookup x = some .local := by first | exact .inl rfl | exact .inr rfl | assumption) : GJ X (.Name x pos) (.nm i) := pg_name hN hi hx hf
theorem gsj_nil : GsJ X [] [] := pgs_nil
theorem gsj_cons {e : Expr} {es : List Expr} {g : G} {gs : List G} (h1 : GJ X e g) (h2 : GsJ X es gs)
    (hs : (assignEach (e :: es) X.env).map (·.2) = assign e X.env :: (assignEach es X.env).map (·.2) := by rfl) : GsJ X (e :: es) (g :: gs) := pgs_cons h1 h2 hs
theorem gj_tp {es : List Expr} {k : Nat} {gs : List G} (hc : X.calm = true) (h : GsJ X es gs)
    (hn : (assignEach es X.env).length = gs.length := by rfl) (hst : (assignEach es X.env).findIdx? (·.1) = none := by rfl) : GJ X (.Tuple es k pos) (.tp gs) := by
  refine ⟨fun pins s σ H v u Q I r q => ?_⟩
  rcases q with q | q
  · exact (pg_tup hc h hn hst).run pins s σ H v u Q I r q
  · exact (pg_lst hc h hn hst).run pins s σ H v u Q I r q
end
def PostS (W : Wd) (Z ρ : List Addr) (H : Hp) (r : SR) (D : Ends) (wx : WX) : Prop := match r with
  | .nx σd h => ∀ ρ' H' σ', Ext ρ H ρ' H' → Sim W Z ρ' h H' → RSg W Z ρ' H' σd σ' → D.nx σ' H'
  | .bk σd h => ∀ ρ' H' σ', Ext ρ H ρ' H' → Sim W Z ρ' h H' → RSg W Z ρ' H' σd σ' → D.bk σ' H'
  | .ct σd h => ∀ ρ' H' σ', Ext ρ H ρ' H' → Sim W Z ρ' h H' → RSg W Z ρ' H' σd σ' → D.ct σ' H'
  | .rt d h => ∀ ρ' H' v, Ext ρ H ρ' H' → Sim W Z ρ' h H' → RD W Z ρ' H' d v → D.rt v H'
  | .xn x σd h => ∀ ρ' H' σ' cls dd, Ext ρ H ρ' H' → Sim W Z ρ' h H' → RSg W Z ρ' H' σd σ' → RX W Z ρ' H' x cls dd → wx cls dd σ' H'
  | .bad => False
def tS (W : Wd) (wx : WX) (f : SM) : TS := fun D σ H => ∃ Z ρ σd h, Sim W Z ρ h H ∧ RSg W Z ρ H σd σ ∧ PostS W Z ρ H (f σd h) D wx
abbrev SJ (X : Cx) (W : Wd) (wx : WX) (st : Stmt) (f : SM) : Prop := PS X st (tS W wx f)
abbrev SsJ (X : Cx) (W : Wd) (wx : WX) (st : List Stmt) (f : SM) : Prop := PSs X st (tS W wx f)
section
variable {W : Wd} {Z ρ ρ1 : List Addr} {H H1 : Hp} {r : SR} {D D' : Ends} {wx wx' : WX}
theorem PostS.mono (x : Ext ρ H ρ1 H1) (p : PostS W Z ρ H r D wx) : PostS W Z ρ1 H1 r D wx := by
  cases r with
  | nx σ h => exact fun ρ' H' σ' y => p ρ' H' σ' (x.trans y)
  | bk σ h => exact fun ρ' H' σ' y => p ρ' H' σ' (x.trans y)
  | ct σ h => exact fun ρ' H' σ' y => p ρ' H' σ' (x.trans y)
  | rt d h => exact fun ρ' H' v y => p ρ' H' v (x.trans y)
  | xn e σ h => exact fun ρ' H' σ' cls dd y => p ρ' H' σ' cls dd (x.trans y)
  | bad => exact p
theorem PostS.of {α : Type} {σd : Sg} {σ : L2.St} {a : R α} {k : α → Hh → SR} (rs : RSg W Z ρ H σd σ) (p : PostS W Z ρ H (SR.of σd a k) D wx) :
    Post W Z ρ H a (fun v ρ1 h1 H1 => PostS W Z ρ1 H1 (k v h1) D wx) (fun cls dd H' => wx cls dd σ H') := by
  cases a with
  | ok v h => exact fun ρ' H' x _ => p.mono x
  | xn e h => exact fun ρ' H' cls dd x S rx => p ρ' H' σ cls dd x S (rs.mono x) rx
  | bad => exact p
theorem PostS.nx {σd : Sg} {σ : L2.St} {h : Hh} (S : Sim W Z ρ h H) (rs : RSg W Z ρ H σd σ) (p : PostS W Z ρ H (.nx σd h) D wx) : D.nx σ H := p ρ H σ Ext.refl S rs
theorem PostS.then_ {k : Sg → Hh → SR} (p : PostS W Z ρ H (r.then_ k) D wx) : PostS W Z ρ H r { D with nx := fun σ' H' => ∃ ρ' σd' h', Sim W Z ρ' h' H' ∧ RSg W Z ρ' H' σd' σ' ∧ PostS W Z ρ' H' (k σd' h') D wx } wx := by
  cases r with
  | nx σ h => exact fun ρ' H' σ' x S rs => ⟨ρ', σ, h, S, rs, PostS.mono x p⟩
  | bk σ h => exact p
  | ct σ h => exact p
  | rt d h => exact p
  | xn e σ h => exact p
  | bad => exact p
end
structure Js (X : Cx) (W : Wd) (wx : WX) : Prop extends Jc X W wx where
  hN : X.N.Nodup
  hc : X.calm = true
  hp : PassesOwn (model X.prog X.w) X.A X.env X.xe
section
variable {X : Cx} {W : Wd} {wx : WX} {e c : Expr} {f : TM} {g : BM} {fs : AM} {pos : Pos} {st : Stmt} {rest : List Stmt} {a b : SM}
theorem ss_nil : SsJ X W wx [] sNil := ⟨fun pins s σ H D I ⟨Z, ρ, σd, h0, S, rs, p⟩ => pss_nil.run pins s σ H D I (p.nx S rs)⟩
theorem ss_cons (h1 : SJ X W wx st a) (h2 : SsJ X W wx rest b) : SsJ X W wx (st :: rest) (sCons a b) :=
  ⟨fun pins s σ H D I ⟨Z, ρ, σd, h0, S, rs, p⟩ => (pss_cons h1 h2).run pins s σ H D I
    ⟨Z, ρ, σd, h0, S, rs, by
      have q := PostS.then_ p
      cases hr : a σd h0 with
      | nx σ h => rw [hr] at q; exact fun ρ' H' σ' x S rs => let ⟨ρ2, σ2, h2, S2, r2, p2⟩ := q ρ' H' σ' x S rs; ⟨Z, ρ2, σ2, h2, S2, r2, p2⟩
      | bk σ h => rw [hr] at q; exact q
      | ct σ h => rw [hr] at q; exact q
      | rt d h => rw [hr] at q; exact q
      | xn e σ h => rw [hr] at q; exact q
      | bad => rw [hr] at q; exact q⟩⟩
theorem sj_ex (he : EJ X W wx e f) (hs : swapsWith e none pos.line X.env = pure false := by rfl) : SJ X W wx (.Expr e pos) (sEx f) :=
  ⟨fun pins s σ H D I ⟨Z, ρ, σd, h0, S, rs, p⟩ => (ps_expr he hs).run pins s σ H D I
    ⟨Z, ρ, σd, h0, S, rs, (PostS.of rs p).imp fun d ρ1 h1 H1 x1 S1 p1 v rv => p1.nx S1 (rs.mono x1)⟩⟩
theorem sj_ret (he : EJ X W wx e f) : SJ X W wx (.Return (some e) pos) (sRet f) :=
  ⟨fun pins s σ H D I ⟨Z, ρ, σd, h0, S, rs, p⟩ => (ps_ret he).run pins s σ H D I
    ⟨Z, ρ, σd, h0, S, rs, (PostS.of rs p).imp fun d ρ1 h1 H1 x1 S1 p1 v rv => p1 ρ1 H1 v Ext.refl S1 rv⟩⟩
theorem sj_if {p q : List Stmt} (hc : BJ X W wx c g) (ha : SsJ X W wx p a) (hb : SsJ X W wx q b) : SJ X W wx (.If c p q pos) (sIf g a b) :=
  ⟨fun pins s σ H D I ⟨Z, ρ, σd, h0, S, rs, p⟩ => (ps_if hc ha hb).run pins s σ H D I
    ⟨Z, ρ, σd, h0, S, rs, (PostS.of rs p).imp fun k ρ1 h1 H1 x1 S1 p1 => by
      cases k with
      | true => exact ⟨Z, ρ1, σd, h1, S1, rs.mono x1, p1⟩
      | false => exact ⟨Z, ρ1, σd, h1, S1, rs.mono x1, p1⟩⟩⟩
theorem sj_set {i : Nat} {x : Str} {pos' : Pos} (J : Js X W wx) (hi : X.N[i]? = some x) (hx : Loc X.env.scope x) (he : EJ X W wx e f) (hs : swapsWith e (some (.Name x pos')) pos.line X.env = pure false := by rfl) (hf : X.fn x = true ∨ X.env.scope.names.lookup x = some .local := by first | exact .inl rfl | exact .inr rfl | assumption) :
    SJ X W wx (.Assign [.Name x pos'] e pos) (sSet i f) :=
  ⟨fun pins s σ H D I ⟨Z, ρ, σd, h0, S, rs, p⟩ => (ps_set J.hN hi hx he hs hf).run pins s σ H D I
    ⟨Z, ρ, σd, h0, S, rs, (PostS.of rs p).imp fun d ρ1 h1 H1 x1 S1 p1 v rv => p1.nx S1 ((rs.mono x1).set rv)⟩⟩
theorem sj_asg {tg : Expr} {gt : G} (J : Js X W wx) (he : EJ X W wx e f) (hg : GJ X tg gt) (hs : swapsWithSole [tg] e pos.line X.env = pure false := by rfl) (hw : swappedStores [tg] e X.env = pure none := by rfl)
    (h1 : (assignEach [tg] X.env).map (·.2) = [assign tg X.env] := by rfl) : SJ X W wx (.Assign [tg] e pos) (sAsg gt f) :=
  ⟨fun pins s σ H D I ⟨Z, ρ, σd, h0, S, rs, p⟩ => (ps_asg he hg hs hw h1).run pins s σ H D I
    ⟨Z, ρ, σd, h0, S, rs, (PostS.of rs p).imp fun d ρ1 h1 H1 x1 S1 p1 v rv => by
      cases hb : bindG σd gt d with
      | none => rw [hb] at p1; exact p1.elim
      | some σ2 =>
        rw [hb] at p1
        exact bindG_ok J.hK gt (rs.mono x1) rv hb fun σ' r' _ => p1.nx S1 r'⟩⟩
theorem wh_post {Z ρ : List Addr} {H : Hp} {r : SR} {D : Ends} {k : Sg → Hh → SR} (p : PostS W Z ρ H (match r with
      | .nx σ h => k σ h
      | .ct σ h => k σ h
      | .bk σ h => .nx σ h
      | r => r) D wx) {N : L2.St → Hp → Prop} (hN : ∀ ρ' H' σ' σd' h', Sim W Z ρ' h' H' → RSg W Z ρ' H' σd' σ' → Ext ρ H ρ' H' → PostS W Z ρ' H' (k σd' h') D wx → N σ' H') :
    PostS W Z ρ H r { D with nx := N, ct := N, bk := D.nx } wx := by
  cases r with
  | nx σ h => exact fun ρ' H' σ' x S rs => hN ρ' H' σ' σ h S rs x (PostS.mono x p)
  | ct σ h => exact fun ρ' H' σ' x S rs => hN ρ' H' σ' σ h S rs x (PostS.mono x p)
  | bk σ h => exact p
  | rt d h => exact p
  | xn e σ h => exact p
  | bad => exact p
theorem sj_wh {p : List Stmt} {n : Nat} (J : Js X W wx) (hc : BJ X W wx c g) (hb : SsJ X W wx p b) : SJ X W wx (.While c p [] pos) (sWh n g b) :=
  ⟨fun pins s σ H D I ⟨Z, ρ, σd, h0, S, rs, p⟩ => (ps_while J.hp hc hb).run pins s σ H D I
    ⟨fun m σ H => ∃ ρ σd h, Sim W Z ρ h H ∧ RSg W Z ρ H σd σ ∧ PostS W Z ρ H (whL g b m σd h) D wx, ⟨n, ρ, σd, h0, S, rs, p⟩, fun m σ H ⟨ρ, σd, h, S, rs, p⟩ => by
      cases m with
      | zero => exact p.elim
      | succ m =>
        refine ⟨Z, ρ, σd, h, S, rs, (PostS.of rs p).imp fun k ρ1 h1 H1 x1 S1 p1 => ?_⟩
        cases k with
        | false => exact p1.nx S1 (rs.mono x1)
        | true =>
          rw [if_pos rfl]
          refine ⟨fun σ' H' => ∃ ρ σd h, Sim W Z ρ h H' ∧ RSg W Z ρ H' σd σ' ∧ PostS W Z ρ H' (whL g b m σd h) D wx, fun σ' H' q => ⟨m, Nat.lt_succ_self m, q⟩, Z, ρ1, σd, h1, S1, rs.mono x1, ?_⟩
          exact wh_post p1 fun ρ' H' σ' σd' h' S' rs' _ q => ⟨ρ', σd', h', S', rs', q⟩⟩⟩
end
structure ExtZ (Z ρ : List Addr) (H : Hp) (ρ' : List Addr) (H' : Hp) : Prop where
  pre : ρ <+: ρ'
  keep : ∀ a o, a ∉ Z → a ∉ ρ → H a = some o → a ∉ ρ' ∧ H' a = some o
theorem Ext.z {Z ρ ρ' : List Addr} {H H' : Hp} (x : Ext ρ H ρ' H') : ExtZ Z ρ H ρ' H' := ⟨x.pre, fun a o _ => x.keep a o⟩
theorem ExtZ.rd {Z ρ ρ' : List Addr} {H H' : Hp} (x : ExtZ Z ρ H ρ' H') {a : Addr} {u : HO} (z : a ∉ Z) (h : a ∉ ρ) (r : Rd H a u) : a ∉ ρ' ∧ Rd H' a u := by
  rcases r with r | ⟨o, r⟩
  · exact ⟨(x.keep a _ z h r).1, .inl (x.keep a _ z h r).2⟩
  · exact ⟨(x.keep a _ z h r).1, .inr ⟨o, (x.keep a _ z h r).2⟩⟩
section
variable {W : Wd} {Z ρ ρ' : List Addr} {H H' : Hp}
mutual
theorem RD.monoZ (x : ExtZ Z ρ H ρ' H') : ∀ {d : D} {v : V}, RD W Z ρ H d v → RD W Z ρ' H' d v
  | _, _, .non => .non
  | _, _, .bl b => .bl b
  | _, _, .int i => .int i
  | _, _, .str s => .str s
  | _, _, .tup z r q t => .tup z (x.keep _ _ z r q).1 (x.keep _ _ z r q).2 (RDs.monoZ x t)
  | _, _, .tupK k t => .tupK k (RDs.monoZ x t)
  | _, _, .lst z r q t => .lst z (x.keep _ _ z r q).1 (x.keep _ _ z r q).2 (RDs.monoZ x t)
  | _, _, .dct z r q t => .dct z (x.rd z r q).1 (x.rd z r q).2 (RKs.monoZ x t)
  | _, _, .obj z r q t => .obj z (x.keep _ _ z r q).1 (x.keep _ _ z r q).2 (RFs.monoZ x t)
  | _, _, .ref e => .ref (pre_get x.pre e)
  | _, _, .fn f => .fn f
  | _, _, .roi q => .roi (q.elim (fun ⟨z, r, q⟩ => .inl ⟨z, (x.rd z r q).1, (x.rd z r q).2⟩) .inr)
theorem RDs.monoZ (x : ExtZ Z ρ H ρ' H') : ∀ {ds : List D} {vs : List V}, RDs W Z ρ H ds vs → RDs W Z ρ' H' ds vs
  | _, _, .nil => .nil
  | _, _, .cons r t => .cons (RD.monoZ x r) (RDs.monoZ x t)
theorem RKs.monoZ (x : ExtZ Z ρ H ρ' H') : ∀ {ds : List (K1 × D)} {vs : List (Key × V)}, RKs W Z ρ H ds vs → RKs W Z ρ' H' ds vs
  | _, _, .nil => .nil
  | _, _, .cons r t => .cons (RD.monoZ x r) (RKs.monoZ x t)
theorem RFs.monoZ (x : ExtZ Z ρ H ρ' H') : ∀ {ds : List (Nat × D)} {vs : List (Str × V)}, RFs W Z ρ H ds vs → RFs W Z ρ' H' ds vs
  | _, _, .nil => .nil
  | _, _, .cons r t => .cons (RD.monoZ x r) (RFs.monoZ x t)
end
end
def Walks (W : Wd) (Z ρ : List Addr) (H : Hp) (J : L2.It) (xs : List D) : Prop := ∀ Z' ρ' h' H', (∀ z ∈ Z', z ∈ Z ∨ H z = none) → ExtZ Z' ρ H ρ' H' → Sim W Z' ρ' h' H' →
  (∀ (i : Nat) (x : D), xs[i]? = some x → J.go i H' ∧ ∀ v H2, J.yld i H' v H2 → Ext ρ' H' ρ' H2 ∧ Sim W Z' ρ' h' H2 ∧ RD W Z' ρ' H2 x v) ∧ J.stop xs.length H'
def tI (W : Wd) (wx : WX) (it : It) (src : AM) : TI := fun σ H R => ∃ Z ρ σd h, Sim W Z ρ h H ∧ RSg W Z ρ H σd σ ∧ Post W Z ρ H (itM it src σd h) (fun xs ρ' _ H' => ∀ J, Walks W Z ρ' H' J xs → R J H') (fun cls dd H' => wx cls dd σ H')
abbrev IJ (X : Cx) (W : Wd) (wx : WX) (tg e : Expr) (it : It) (src : AM) : Prop := PI X tg e (tI W wx it src)
theorem fl_post {W : Wd} {wx : WX} {Z ρ : List Addr} {H : Hp} {D : Ends} {body : Fw.D → Sg → Hh → SR} {x : Fw.D} {xs : List Fw.D} {σd : Sg} {h : Hh} (p : PostS W Z ρ H (forL body (x :: xs) σd h) D wx)
    {N : L2.St → Hp → Prop} (hN : ∀ ρ' H' σ' σd' h', Sim W Z ρ' h' H' → RSg W Z ρ' H' σd' σ' → Ext ρ H ρ' H' → PostS W Z ρ' H' (forL body xs σd' h') D wx → N σ' H') :
    PostS W Z ρ H (body x σd h) { D with nx := N, ct := N, bk := D.nx } wx := by
  simp only [forL] at p
  exact wh_post p hN
theorem sj_for {X : Cx} {W : Wd} {wx : WX} {tg iter : Expr} {body : List Stmt} {it : It} {src : AM} {g : G} {b : SM} {pos : Pos} (J : Js X W wx) (hi : IJ X W wx tg iter it src) (hg : GJ X tg g) (hb : SsJ X W wx body b)
    (hs : ∀ x, foldedSetIterable iter X.env x = pure x := by intro _; rfl) : SJ X W wx (.For tg iter body [] pos) (sFor g it src b) :=
  ⟨fun pins s σ H D I ⟨Z, ρ, σd, h0, S, rs, p⟩ => (ps_for J.hp J.hc hi hg hb hs).run pins s σ H D I
    ⟨Z, ρ, σd, h0, S, rs, (PostS.of rs p).imp fun xs ρ1 h1 H1 x1 S1 p1 Ji hw => by
      refine ⟨fun i m σ H => ∃ ρ σd h, i ≤ xs.length ∧ m = xs.length - i ∧ Ext ρ1 H1 ρ H ∧ Sim W Z ρ h H ∧ RSg W Z ρ H σd σ ∧ PostS W Z ρ H (forL (forB g b) (xs.drop i) σd h) D wx,
        ⟨xs.length, ρ1, σd, h1, Nat.zero_le _, rfl, Ext.refl, S1, rs.mono x1, p1⟩, fun i m σ H ⟨ρ2, σ2, h2, hi, hm, x2, S2, r2, p2⟩ => ?_⟩
      have w := hw Z ρ2 h2 H (fun z hz => .inl hz) x2.z S2
      by_cases he : i = xs.length
      · subst he
        rw [List.drop_length] at p2
        exact .inl ⟨w.2, p2.nx S2 r2⟩
      · have hlt : i < xs.length := by omega
        obtain ⟨go, yl⟩ := w.1 i xs[i] (by simp [hlt])
        rw [List.drop_eq_getElem_cons hlt] at p2
        refine .inr ⟨go, fun σ' H' => ∃ ρ σd h, i + 1 ≤ xs.length ∧ Ext ρ1 H1 ρ H' ∧ Sim W Z ρ h H' ∧ RSg W Z ρ H' σd σ' ∧ PostS W Z ρ H' (forL (forB g b) (xs.drop (i + 1)) σd h) D wx,
          fun σ' H' ⟨ρ3, σ3, h3, a1, a2, a3, a4, a5⟩ => ⟨xs.length - (i + 1), by omega, ρ3, σ3, h3, a1, rfl, a2, a3, a4, a5⟩, fun v H' hy => ?_⟩
        obtain ⟨x3, S3, rv⟩ := yl v H' hy
        have q := fl_post (N := fun σ' H' => ∃ ρ σd h, i + 1 ≤ xs.length ∧ Ext ρ1 H1 ρ H' ∧ Sim W Z ρ h H' ∧ RSg W Z ρ H' σd σ' ∧ PostS W Z ρ H' (forL (forB g b) (xs.drop (i + 1)) σd h) D wx) (p2.mono x3)
          fun ρ' H4 σ' σd' h' S' rs' x4 q => ⟨ρ', σd', h', by omega, (x2.trans x3).trans x4, S', rs', q⟩
        unfold forB at q
        cases hb' : bindG σ2 g xs[i] with
        | none => rw [hb'] at q; exact q.elim
        | some σ4 =>
          rw [hb'] at q
          exact bindG_ok J.hK g (r2.mono x3) rv hb' fun σ5 r5 _ => ⟨Z, ρ2, σ4, h2, S3, r5, q⟩⟩⟩
end Fw
end
section
set_option Elab.async false
set_option linter.all false
set_option maxRecDepth 100000
set_option autoImplicit false
set_option maxHeartbeats 1000000
namespace Fw
open PySem PySem.Spec PyProof.Rows L2
section
variable {W : Wd} {Z Z' ρ : List Addr} {H : Hp}
theorem Rd.there {a : Addr} {u : HO} (r : Rd H a u) : ∃ o, H a = some o := by
  rcases r with r | ⟨o, r⟩
  · exact ⟨_, r⟩
  · exact ⟨_, r⟩
mutual
theorem RD.reZ (hz : ∀ z ∈ Z', z ∈ Z ∨ H z = none) : ∀ {d : D} {v : V}, RD W Z ρ H d v → RD W Z' ρ H d v
  | _, _, .non => .non
  | _, _, .bl b => .bl b
  | _, _, .int i => .int i
  | _, _, .str s => .str s
  | _, _, .tup z r q t => .tup (fun m => (hz _ m).elim z fun n => by rw [q] at n; cases n) r q (RDs.reZ hz t)
  | _, _, .tupK k t => .tupK k (RDs.reZ hz t)
  | _, _, .lst z r q t => .lst (fun m => (hz _ m).elim z fun n => by rw [q] at n; cases n) r q (RDs.reZ hz t)
  | _, _, .dct z r q t => .dct (fun m => (hz _ m).elim z fun n => by obtain ⟨o, e⟩ := Fw.Rd.there q; rw [e] at n; cases n) r q (RKs.reZ hz t)
  | _, _, .obj z r q t => .obj (fun m => (hz _ m).elim z fun n => by rw [q] at n; cases n) r q (RFs.reZ hz t)
  | _, _, .ref e => .ref e
  | _, _, .fn f => .fn f
  | _, _, .roi q => .roi (q.elim (fun ⟨z, r, q⟩ => .inl ⟨(fun m => (hz _ m).elim z fun n => by obtain ⟨o, e⟩ := Fw.Rd.there q; rw [e] at n; cases n), r, q⟩) .inr)
theorem RDs.reZ (hz : ∀ z ∈ Z', z ∈ Z ∨ H z = none) : ∀ {ds : List D} {vs : List V}, RDs W Z ρ H ds vs → RDs W Z' ρ H ds vs
  | _, _, .nil => .nil
  | _, _, .cons r t => .cons (RD.reZ hz r) (RDs.reZ hz t)
theorem RKs.reZ (hz : ∀ z ∈ Z', z ∈ Z ∨ H z = none) : ∀ {ds : List (K1 × D)} {vs : List (Key × V)}, RKs W Z ρ H ds vs → RKs W Z' ρ H ds vs
  | _, _, .nil => .nil
  | _, _, .cons r t => .cons (RD.reZ hz r) (RKs.reZ hz t)
theorem RFs.reZ (hz : ∀ z ∈ Z', z ∈ Z ∨ H z = none) : ∀ {ds : List (Nat × D)} {vs : List (Str × V)}, RFs W Z ρ H ds vs → RFs W Z' ρ H ds vs
  | _, _, .nil => .nil
  | _, _, .cons r t => .cons (RD.reZ hz r) (RFs.reZ hz t)
end
end
section
variable {W : Wd} {K : PySem.W.Frag} {Z ρ : List Addr} {H : Hp} {a b : Addr} {xs ys : List D} {vs us : List V}
theorem walks_list (az : a ∉ Z) (ha : a ∉ ρ) (h : H a = some (.lst vs)) (t : RDs W Z ρ H xs vs) : Walks W Z ρ H (Itl K a) xs := by
  intro Z' ρ' h' H' hz x S
  have az' : a ∉ Z' := fun m => (hz a m).elim az fun n => by rw [h] at n; cases n
  obtain ⟨ha', hh'⟩ := x.keep a _ az' ha h
  have q : SqL K H' a vs := SqL.of hh'
  refine ⟨fun i d e => ?_, vs, q, by rw [t.length]; exact Nat.le_refl _⟩
  obtain ⟨v, ev, rv⟩ := t.get e
  refine ⟨⟨vs, v, q, ev⟩, fun w H2 ⟨e2, hw⟩ => ?_⟩
  subst e2
  have := hw vs q
  rw [ev] at this
  cases this
  exact ⟨Ext.refl, S, (rv.reZ hz).monoZ x⟩
theorem walks_tup (hr : (a ∉ Z ∧ a ∉ ρ ∧ H a = some (.tup vs)) ∨ KTup K a vs) (t : RDs W Z ρ H xs vs) : Walks W Z ρ H (Itt K a) xs := by
  intro Z' ρ' h' H' hz x S
  have q : SqT K H' a vs := by
    rcases hr with ⟨az, ha, h⟩ | k
    · exact SqT.of (x.keep a _ (fun m => (hz a m).elim az fun n => by rw [h] at n; cases n) ha h).2
    · exact .inr k
  refine ⟨fun i d e => ?_, vs, q, by rw [t.length]; exact Nat.le_refl _⟩
  obtain ⟨v, ev, rv⟩ := t.get e
  refine ⟨⟨vs, v, q, ev⟩, fun w H2 ⟨e2, hw⟩ => ?_⟩
  subst e2
  have := hw vs q
  rw [ev] at this
  cases this
  exact ⟨Ext.refl, S, (rv.reZ hz).monoZ x⟩
theorem walks_str (s : Tx) : Walks W Z ρ H (Its (toS s)) (s.map fun c => .str [c]) := by
  intro Z' ρ' h' H' hz x S
  refine ⟨fun i d e => ?_, by simp [Its, toS]⟩
  rw [List.getElem?_map] at e
  cases ec : s[i]? with
  | none => rw [ec] at e; cases e
  | some c =>
    rw [ec] at e
    cases e
    refine ⟨by simpa [Its, toS] using (List.getElem?_eq_some_iff.mp ec).1, fun w H2 ⟨e2, c', hc, hw⟩ => ?_⟩
    subst e2 hw
    have hc' : s[i]? = some c' := by simpa [toS] using hc
    rw [ec] at hc'
    cases hc'
    exact ⟨Ext.refl, S, .str [c]⟩
theorem walks_range (lo : Int) (n : Nat) : Walks W Z ρ H (Itr lo n) (rangeD lo n) := by
  intro Z' ρ' h' H' hz x S
  refine ⟨fun i d e => ?_, by simp [Itr, rangeD]⟩
  unfold rangeD at e
  rw [List.getElem?_map] at e
  cases ec : (List.range n)[i]? with
  | none => rw [ec] at e; cases e
  | some c =>
    rw [ec] at e
    cases e
    have hi : i < n := by simpa using (List.getElem?_eq_some_iff.mp ec).1
    have : c = i := by rw [List.getElem?_range hi] at ec; cases ec; rfl
    subst this
    refine ⟨hi, fun w H2 ⟨e2, hw⟩ => ?_⟩
    subst e2 hw
    exact ⟨Ext.refl, S, .int _⟩
theorem pair_ok {Z' ρ' : List Addr} {h' : Hh} {H' : Hp} {T : Addr} {d e : D} {x y : V} (S : Sim W Z' ρ' h' H') (n : H' T = none) (r1 : RD W Z' ρ' H' d x) (r2 : RD W Z' ρ' H' e y) :
    Ext ρ' H' ρ' (upd H' T (.tup [x, y])) ∧ Sim W Z' ρ' h' (upd H' T (.tup [x, y])) ∧ RD W Z' ρ' (upd H' T (.tup [x, y])) (.tup [d, e]) (.ref T) :=
  ⟨Ext.laid n, S.laid n, .tup (S.new n).1 (S.new n).2 upd_same (.cons (r1.mono (Ext.laid n)) (.cons (r2.mono (Ext.laid n)) .nil))⟩
theorem zipD_get : ∀ {xs ys : List D} {i : Nat} {d : D}, (zipD xs ys)[i]? = some d → ∃ x y, xs[i]? = some x ∧ ys[i]? = some y ∧ d = .tup [x, y]
  | [], _, i, d, h => by simp [zipD] at h
  | _ :: _, [], i, d, h => by simp [zipD] at h
  | x :: xs, y :: ys, 0, d, h => by simp [zipD] at h; subst h; exact ⟨x, y, rfl, rfl, rfl⟩
  | x :: xs, y :: ys, i + 1, d, h => by simpa using zipD_get (by simpa [zipD] using h)
theorem zipD_len : ∀ {xs ys : List D}, xs.length ≤ (zipD xs ys).length ∨ ys.length ≤ (zipD xs ys).length
  | [], _ => .inl (Nat.zero_le _)
  | _ :: _, [] => .inr (Nat.zero_le _)
  | x :: xs, y :: ys => by
    rcases zipD_len (xs := xs) (ys := ys) with h | h
    · exact .inl (by simpa [zipD] using h)
    · exact .inr (by simpa [zipD] using h)
theorem walks_zip (az : a ∉ Z) (ha : a ∉ ρ) (h : H a = some (.lst vs)) (t : RDs W Z ρ H xs vs) (bz : b ∉ Z) (hb : b ∉ ρ) (g : H b = some (.lst us)) (u : RDs W Z ρ H ys us) : Walks W Z ρ H (Itz K a b) (zipD xs ys) := by
  intro Z' ρ' h' H' hz x S
  have q : SqL K H' a vs := SqL.of (x.keep a _ (fun m => (hz a m).elim az fun n => by rw [h] at n; cases n) ha h).2
  have q2 : SqL K H' b us := SqL.of (x.keep b _ (fun m => (hz b m).elim bz fun n => by rw [g] at n; cases n) hb g).2
  refine ⟨fun i d e => ?_, vs, us, q, q2, by rw [← t.length, ← u.length]; exact zipD_len⟩
  obtain ⟨d1, d2, e1, e2, rfl⟩ := zipD_get e
  obtain ⟨v1, ev1, rv1⟩ := t.get e1
  obtain ⟨v2, ev2, rv2⟩ := u.get e2
  refine ⟨⟨vs, us, v1, v2, q, q2, ev1, ev2⟩, fun w H2 ⟨T, y1, y2, f1, n, f2, hw1, hw2⟩ => ?_⟩
  subst f1 f2
  have z1 := hw1 vs q
  have z2 := hw2 us q2
  rw [ev1] at z1
  rw [ev2] at z2
  cases z1; cases z2
  exact pair_ok S n ((rv1.reZ hz).monoZ x) ((rv2.reZ hz).monoZ x)
theorem walks_zipT (ha : (a ∉ Z ∧ a ∉ ρ ∧ H a = some (.tup vs)) ∨ KTup K a vs) (t : RDs W Z ρ H xs vs) (hb : (b ∉ Z ∧ b ∉ ρ ∧ H b = some (.tup us)) ∨ KTup K b us) (u : RDs W Z ρ H ys us) : Walks W Z ρ H (RZ.ItzT K a b) (zipD xs ys) := by
  intro Z' ρ' h' H' hz x S
  have q : SqT K H' a vs := by
    rcases ha with ⟨az, ha, h⟩ | k
    · exact SqT.of (x.keep a _ (fun m => (hz a m).elim az fun n => by rw [h] at n; cases n) ha h).2
    · exact .inr k
  have q2 : SqT K H' b us := by
    rcases hb with ⟨az, ha, h⟩ | k
    · exact SqT.of (x.keep b _ (fun m => (hz b m).elim az fun n => by rw [h] at n; cases n) ha h).2
    · exact .inr k
  refine ⟨fun i d e => ?_, vs, us, q, q2, by rw [← t.length, ← u.length]; exact zipD_len⟩
  obtain ⟨d1, d2, e1, e2, rfl⟩ := zipD_get e
  obtain ⟨v1, ev1, rv1⟩ := t.get e1
  obtain ⟨v2, ev2, rv2⟩ := u.get e2
  refine ⟨⟨vs, us, v1, v2, q, q2, ev1, ev2⟩, fun w H2 ⟨T, y1, y2, f1, n, f2, hw1, hw2⟩ => ?_⟩
  subst f1 f2
  have z1 := hw1 vs q
  have z2 := hw2 us q2
  rw [ev1] at z1
  rw [ev2] at z2
  cases z1; cases z2
  exact pair_ok S n ((rv1.reZ hz).monoZ x) ((rv2.reZ hz).monoZ x)
end
def IterV (X : Cx) (tg : Expr) (pins : List (Addr × Obj)) (σ : L2.St) (R : L2.It → Hp → Prop) (v : V) (H : Hp) : Prop :=
  ∀ (s : Shared) (u : Value), Inv X pins σ H s → RelV v u → wpAny (model X.prog X.w) X.A (pyIter u) (PIE X pins σ tg R) X.xe s
section
variable {X : Cx} {tg : Expr} {pins : List (Addr × Obj)} {σ : L2.St} {R : L2.It → Hp → Prop} {H : Hp} {a : Addr} {xs : List V}
theorem iter_list (hq : SqL X.K H a xs) (q : R (Itl X.K a) H) : IterV X tg pins σ R (.ref a) H := by
  intro s1 u I1 r1
  cases r1
  obtain ⟨its, rv, p, hz⟩ := I1.list hq
  refine wpAny_pyIter_list p.isList ?_
  refine ⟨s1.heap.objs.size, [s1.heap.objs.size], _, _, H, rfl, I1.kept (t' := s1.toks) fun b o e => Heap.get?_push_of_some _ e, turn_list a _, ⟨_, Heap.get?_push_size _ rfl, rfl, rfl⟩, fun b hb => ?_, q⟩
  have e : b = s1.heap.objs.size := by simpa using hb
  subst e
  exact I1.fpOk (Nat.le_refl _) (I1.hok.fresh (Nat.le_refl _))
theorem iter_tup (hq : SqT X.K H a xs) (q : R (Itt X.K a) H) : IterV X tg pins σ R (.ref a) H := by
  intro s1 u I1 r1
  cases r1
  obtain ⟨its, rv, p, hz⟩ := I1.tuple hq
  refine wpAny_pyIter_tuple (show s1.heap.IsTuple a its.toArray from p) ?_
  refine ⟨s1.heap.objs.size, [s1.heap.objs.size], _, _, H, rfl, I1.kept (t' := s1.toks) fun b o e => Heap.get?_push_of_some _ e, turn_tuple a _, ⟨_, Heap.get?_push_size _ rfl, rfl, rfl⟩, fun b hb => ?_, q⟩
  have e : b = s1.heap.objs.size := by simpa using hb
  subst e
  exact I1.fpOk (Nat.le_refl _) (I1.hok.fresh (Nat.le_refl _))
theorem iter_str {x : Str} (q : R (Its x) H) : IterV X tg pins σ R (.str x) H := by
  intro s1 u I1 r1
  obtain ⟨t, rfl⟩ := r1
  cases ha : x.cps.all (· < 128)
  · exact wpAny_pyIter_wide ha (pi_one (tk := s1.toks) I1 _ (turn_str _ x t "str_iterator" (.inr rfl)) ⟨_, Heap.get?_push_size _ rfl, rfl, rfl⟩ q)
  · exact wpAny_pyIter_ascii ha (pi_one (tk := s1.toks) I1 _ (turn_str _ x t "str_ascii_iterator" (.inl rfl)) ⟨_, Heap.get?_push_size _ rfl, rfl, rfl⟩ q)
end
theorem tup_at {W : Wd} {Z ρ : List Addr} {H : Hp} {xs : List D} {v : V} (r : RD W Z ρ H (.tup xs) v) : ∃ a vs, v = .ref a ∧ ((a ∉ Z ∧ a ∉ ρ ∧ H a = some (.tup vs)) ∨ KTup W.K a vs) ∧ RDs W Z ρ H xs vs := by
  cases r with
  | tup z ra q t => exact ⟨_, _, rfl, .inl ⟨z, ra, q⟩, t⟩
  | tupK k t => exact ⟨_, _, rfl, .inr k, t⟩
theorem sqT_of {K : PySem.W.Frag} {Z ρ : List Addr} {H : Hp} {a : Addr} {vs : List V} (h : (a ∉ Z ∧ a ∉ ρ ∧ H a = some (.tup vs)) ∨ KTup K a vs) : SqT K H a vs := by
  rcases h with ⟨_, h⟩ | k
  · exact SqT.of h.2
  · exact .inr k
section
variable {X : Cx} {W : Wd} {wx : WX} {tg e e2 : Expr} {f f2 : TM} {fs : AM}
theorem ij_e (J : Jc X W wx) (he : EJ X W wx e f) : IJ X W wx tg e .e (aCons f aNil) := by
  refine ⟨fun pins s σ H R I ⟨Z, ρ, σd, h0, S, rs, p⟩ => ?_⟩
  have p1 := Post.bind p
  refine thn (he.run pins s σ H (fun v H1 => IterV X tg pins σ R v H1) I ⟨Z, ρ, σd, h0, S, rs, (Post.bind p1).imp fun d ρ1 h1 H1 x1 S1 p2 v rv => ?_⟩) fun u s1 ⟨v, H1, I1, r1, q1⟩ => q1 s1 u I1 r1
  have p3 := post_now S1 p2
  cases d <;> first | (exact False.elim p3) | skip
  case str t =>
    cases rv
    exact iter_str (post_now S1 p3 _ (walks_str t))
  case tup xs =>
    obtain ⟨a, vs, rfl, ha, t⟩ := tup_at rv
    have ha' := J.hK ▸ ha
    exact iter_tup (sqT_of ha') (post_now S1 p3 _ (walks_tup ha' t))
  case lst xs =>
    cases rv with
    | lst z ra q t => exact iter_list (SqL.of q) (post_now S1 p3 _ (walks_list z ra q t))
theorem len1 {σ : Sg} {h : Hh} {Z ρ : List Addr} {H : Hp} {Q : List D → List Addr → Hh → Hp → Prop} {E : XK} (p : Post W Z ρ H (aCons f aNil σ h) Q E) : Post W Z ρ H (aCons f aNil σ h) (fun ds ρ h H => (∃ d, ds = [d]) ∧ Q ds ρ h H) E := by
  unfold aCons aNil at p ⊢
  cases hf : f σ h with
  | ok d h1 => rw [hf] at p; exact fun ρ' H' x S => ⟨⟨d, rfl⟩, p ρ' H' x S⟩
  | xn x h1 => rw [hf] at p; exact p
  | bad => rw [hf] at p; exact p
theorem len2 {σ : Sg} {h : Hh} {Z ρ : List Addr} {H : Hp} {Q : List D → List Addr → Hh → Hp → Prop} {E : XK} (p : Post W Z ρ H (aCons f (aCons f2 aNil) σ h) Q E) : Post W Z ρ H (aCons f (aCons f2 aNil) σ h) (fun ds ρ h H => (∃ d d2, ds = [d, d2]) ∧ Q ds ρ h H) E := by
  unfold aCons aNil at p ⊢
  cases hf : f σ h with
  | ok d h1 =>
    rw [hf] at p
    simp only [R.bind_ok] at p ⊢
    cases hg : f2 σ h1 with
    | ok d2 h2 => rw [hg] at p; exact fun ρ' H' x S => ⟨⟨d, d2, rfl⟩, p ρ' H' x S⟩
    | xn x h2 => rw [hg] at p; exact p
    | bad => rw [hg] at p; exact p
  | xn x h1 => rw [hf] at p; exact p
  | bad => rw [hf] at p; exact p
theorem walk_some {it : It} {ds : List D} {h : Hh} {Z ρ : List Addr} {H : Hp} {R : List D → List Addr → Hh → Hp → Prop} {E : XK} (S : Sim W Z ρ h H) (p : Post W Z ρ H (match walk it ds with
    | none => .bad
    | some xs => .ok xs h) R E) : ∃ xs, walk it ds = some xs ∧ R xs ρ h H := by
  cases hw : walk it ds with
  | none => rw [hw] at p; exact p.elim
  | some xs => rw [hw] at p; exact ⟨xs, rfl, post_now S p⟩
theorem lim_eq : lim = 2 ^ 62 := by decide
theorem ij_range1 {a : Expr} {p pos : Pos} (ha : EJ X W wx a f) (hg : Gl X "range" := by rfl) (hm : X.mg "range" = none := by assumption) (hs : starEach [a] X.env = (false, eval a X.env) :: starEach [] X.env := by rfl) : IJ X W wx tg (.Call (.Name "range" p) [a] [] pos) .range (aCons f aNil) := by
  refine ⟨fun pins s σ H R I ⟨Z, ρ, σd, h0, S, rs, p⟩ => (pi_range1 (tg := tg) hg hm (aj_cons ha aj_nil hs) hs).run pins s σ H R I ⟨Z, ρ, σd, h0, S, rs, (len1 (Post.bind p)).imp fun ds ρ1 h1 H1 x1 S1 p1 vs rvs => ?_⟩⟩
  obtain ⟨⟨d, rfl⟩, p1⟩ := p1
  obtain ⟨xs, hw, q⟩ := walk_some S1 p1
  cases d <;> simp only [walk] at hw <;> first | (cases hw; done) | skip
  split at hw
  · rename_i n hl
    cases hw
    cases rvs with
    | cons r t =>
      cases t
      cases r
      exact ⟨n, rfl, lim_eq ▸ hl.1, lim_eq ▸ hl.2, q _ (walks_range 0 n.toNat)⟩
  · cases hw
theorem ij_range2 {a b : Expr} {p pos : Pos} (ha : EJ X W wx a f) (hb : EJ X W wx b f2) (hg : Gl X "range" := by rfl) (hm : X.mg "range" = none := by assumption) (hs : starEach [a, b] X.env = [(false, eval a X.env), (false, eval b X.env)] := by rfl) (hs2 : starEach [b] X.env = [(false, eval b X.env)] := by rfl)
    (hs3 : starEach [a, b] X.env = (false, eval a X.env) :: starEach [b] X.env := by rfl) (hs4 : starEach [b] X.env = (false, eval b X.env) :: starEach [] X.env := by rfl) : IJ X W wx tg (.Call (.Name "range" p) [a, b] [] pos) .range (aCons f (aCons f2 aNil)) := by
  refine ⟨fun pins s σ H R I ⟨Z, ρ, σd, h0, S, rs, p⟩ => (pi_range2 (tg := tg) hg hm (aj_cons ha (aj_cons hb aj_nil hs4) hs3) hs hs2).run pins s σ H R I ⟨Z, ρ, σd, h0, S, rs, (len2 (Post.bind p)).imp fun ds ρ1 h1 H1 x1 S1 p1 vs rvs => ?_⟩⟩
  obtain ⟨⟨d, d2, rfl⟩, p1⟩ := p1
  obtain ⟨xs, hw, q⟩ := walk_some S1 p1
  cases d <;> cases d2 <;> simp only [walk] at hw <;> first | (cases hw; done) | skip
  split at hw
  · rename_i m n hl
    cases hw
    cases rvs with
    | cons r t =>
      cases t with
      | cons r2 t =>
        cases t
        cases r
        cases r2
        exact ⟨m, n, rfl, by rw [← lim_eq]; exact hl, q _ (walks_range m (n - m).toNat)⟩
  · cases hw
theorem ij_zip (J : Jc X W wx) {a b : Expr} {p pos tpos : Pos} {elts : List Expr} {kk : Nat} (ha : EJ X W wx a f) (hb : EJ X W wx b f2) (hg : Gl X "zip" := by rfl) (hm : X.mg "zip" = none := by assumption)
    (hs : starEach [a, b] X.env = (false, eval a X.env) :: starEach [b] X.env := by rfl) (hs2 : starEach [b] X.env = (false, eval b X.env) :: starEach [] X.env := by rfl) (hpl : (backTo pos (starEach [b] X.env)).any (·.1) = false := by rfl) :
    IJ X W wx (.Tuple elts kk tpos) (.Call (.Name "zip" p) [a, b] [] pos) .zip (aCons f (aCons f2 aNil)) := by
  refine ⟨fun pins s σ H R I ⟨Z, ρ, σd, h0, S, rs, p⟩ => (RZ.pi_zipA (tpos := tpos) (elts := elts) (kk := kk) hg hm (aj_cons ha (aj_cons hb aj_nil hs2) hs) hs hpl).run pins s σ H R I ⟨Z, ρ, σd, h0, S, rs, (len2 (Post.bind p)).imp fun ds ρ1 h1 H1 x1 S1 p1 vs rvs => ?_⟩⟩
  obtain ⟨⟨d, d2, rfl⟩, p1⟩ := p1
  obtain ⟨xs, hw, q⟩ := walk_some S1 p1
  cases d <;> cases d2 <;> simp only [walk] at hw <;> first | (cases hw; done) | skip
  · cases hw
    cases rvs with
    | cons r t =>
      cases t with
      | cons r2 t =>
        cases t
        obtain ⟨a, vs, rfl, ha, t⟩ := tup_at r
        obtain ⟨b, us, rfl, hb, u⟩ := tup_at r2
        have ha' := J.hK ▸ ha
        have hb' := J.hK ▸ hb
        exact ⟨_, _, _, _, rfl, .inr ⟨sqT_of ha', sqT_of hb', q _ (walks_zipT ha' t hb' u)⟩⟩
  · cases hw
    cases rvs with
    | cons r t =>
      cases t with
      | cons r2 t =>
        cases t
        cases r with
        | lst z ra h t =>
          cases r2 with
          | lst z2 ra2 h2 t2 => exact ⟨_, _, _, _, rfl, .inl ⟨SqL.of h, SqL.of h2, q _ (walks_zip z ra h t z2 ra2 h2 t2)⟩⟩
end
def hid (H : Hp) (D : Addr) : Hp := fun b => if b = D then none else H b
theorem hid_self {H : Hp} {D : Addr} : hid H D D = none := by simp [hid]
theorem hid_ne {H : Hp} {D b : Addr} (h : b ≠ D) : hid H D b = H b := by simp [hid, h]
theorem upd_hid {H : Hp} {D : Addr} {o : HO} : upd (hid H D) D o = upd H D o := by
  funext b
  by_cases h : b = D
  · subst h; rw [upd_same, upd_same]
  · rw [upd_ne h, upd_ne h, hid_ne h]
theorem upd_self {H : Hp} {D : Addr} {o : HO} (h : H D = some o) : upd (hid H D) D o = H := by
  funext b
  by_cases e : b = D
  · subst e; rw [upd_same, h]
  · rw [upd_ne e, hid_ne e]
section
variable {W : Wd} {Z ρ ρ' : List Addr} {H H' Hc : Hp} {D : Addr} {h h' : Hh} {acc : List V}
theorem nin {a D : Addr} {Z : List Addr} (z : a ∉ D :: Z) : a ≠ D := fun e => z (by rw [e]; exact List.mem_cons_self)
theorem Rd.hid {a : Addr} {u : HO} (r : Rd H a u) (n : a ≠ D) : Rd (hid H D) a u := by
  rcases r with r | ⟨o, r⟩
  · exact .inl (by rw [hid_ne n]; exact r)
  · exact .inr ⟨o, by rw [hid_ne n]; exact r⟩
mutual
theorem RD.hid : ∀ {d : Fw.D} {v : V}, RD W (D :: Z) ρ H d v → RD W Z ρ (hid H D) d v
  | _, _, .non => .non
  | _, _, .bl b => .bl b
  | _, _, .int i => .int i
  | _, _, .str s => .str s
  | _, _, .tup z r q t => .tup (fun m => z (List.mem_cons_of_mem _ m)) r (by rw [hid_ne (nin z)]; exact q) (RDs.hid t)
  | _, _, .tupK k t => .tupK k (RDs.hid t)
  | _, _, .lst z r q t => .lst (fun m => z (List.mem_cons_of_mem _ m)) r (by rw [hid_ne (nin z)]; exact q) (RDs.hid t)
  | _, _, .dct z r q t => .dct (fun m => z (List.mem_cons_of_mem _ m)) r (Fw.Rd.hid q (nin z)) (RKs.hid t)
  | _, _, .obj z r q t => .obj (fun m => z (List.mem_cons_of_mem _ m)) r (by rw [hid_ne (nin z)]; exact q) (RFs.hid t)
  | _, _, .ref e => .ref e
  | _, _, .fn f => .fn f
  | _, _, .roi q => .roi (q.elim (fun ⟨z, r, q⟩ => .inl ⟨fun m => z (List.mem_cons_of_mem _ m), r, Fw.Rd.hid q (nin z)⟩) .inr)
theorem RDs.hid : ∀ {ds : List Fw.D} {vs : List V}, RDs W (D :: Z) ρ H ds vs → RDs W Z ρ (hid H D) ds vs
  | _, _, .nil => .nil
  | _, _, .cons r t => .cons (RD.hid r) (RDs.hid t)
theorem RKs.hid : ∀ {ds : List (K1 × Fw.D)} {vs : List (Key × V)}, RKs W (D :: Z) ρ H ds vs → RKs W Z ρ (hid H D) ds vs
  | _, _, .nil => .nil
  | _, _, .cons r t => .cons (RD.hid r) (RKs.hid t)
theorem RFs.hid : ∀ {ds : List (Nat × Fw.D)} {vs : List (Str × V)}, RFs W (D :: Z) ρ H ds vs → RFs W Z ρ (hid H D) ds vs
  | _, _, .nil => .nil
  | _, _, .cons r t => .cons (RD.hid r) (RFs.hid t)
end
theorem Sim.hid (hD : D ∉ Z) (S : Sim W (D :: Z) ρ h H) : Sim W Z ρ h (hid H D) where
  len := S.len
  nd := S.nd
  dis := fun z hz => by
    obtain ⟨h1, o, e⟩ := S.dis z (List.mem_cons_of_mem _ hz)
    exact ⟨h1, o, by rw [hid_ne fun e2 => hD (by rw [← e2]; exact hz)]; exact e⟩
  obj := fun n o a e1 e2 => by
    have na : a ≠ D := fun e => (S.dis D List.mem_cons_self).1 (e ▸ List.mem_of_getElem? e2)
    cases S.obj n o a e1 e2 with
    | lst q t => exact .lst (by rw [hid_ne na]; exact q) t.hid
    | ro q t => exact .ro (Fw.Rd.hid q na) t.hid
    | dct q t => exact .dct (by rw [hid_ne na]; exact q) t.hid
    | ins q t => exact .ins (by rw [hid_ne na]; exact q) t.hid
    | dtu q k t => exact .dtu (by rw [hid_ne na]; exact q) k t.hid
theorem Ext.hid (n : Hc D = none) (x : Ext ρ (upd Hc D (.lst acc)) ρ' H') : Ext ρ Hc ρ' (Fw.hid H' D) :=
  ⟨x.pre, fun a o hr e => by
    have na : a ≠ D := ne_of_none e n
    obtain ⟨h1, h2⟩ := x.keep a o hr (by rw [upd_ne na]; exact e)
    exact ⟨h1, by rw [hid_ne na]; exact h2⟩⟩
theorem Sim.shown {o : HO} (n : Hc D = none) (S : Sim W Z ρ h Hc) : Sim W (D :: Z) ρ h (upd Hc D o) where
  len := S.len
  nd := S.nd
  dis := fun z hz => by
    rcases List.mem_cons.mp hz with e | hz
    · subst e; exact ⟨(S.new n).2, o, upd_same⟩
    · exact (S.laid n).dis z hz
  obj := fun m u a e1 e2 => by
    have hz : ∀ z ∈ D :: Z, z ∈ Z ∨ Hc z = none := fun z hz => (List.mem_cons.mp hz).elim (fun e => .inr (by rw [e]; exact n)) .inl
    have x : Ext ρ Hc ρ (upd Hc D o) := Ext.laid n
    cases S.obj m u a e1 e2 with
    | lst q t => exact .lst (by rw [upd_ne (ne_of_none q n)]; exact q) ((t.reZ hz).mono x)
    | ro q t =>
      refine .ro ?_ ((t.reZ hz).mono x)
      rcases q with q | ⟨ob, q⟩
      · exact .inl (by rw [upd_ne (ne_of_none q n)]; exact q)
      · exact .inr ⟨ob, by rw [upd_ne (ne_of_none q n)]; exact q⟩
    | dct q t => exact .dct (by rw [upd_ne (ne_of_none q n)]; exact q) ((t.reZ hz).mono x)
    | ins q t => exact .ins (by rw [upd_ne (ne_of_none q n)]; exact q) ((t.reZ hz).mono x)
    | dtu q k t => exact .dtu (by rw [upd_ne (ne_of_none q n)]; exact q) k ((t.reZ hz).mono x)
theorem RX.hid {e : Exn} {cls : Value} {dd : Option Addr} (hl : H D = some (.lst acc)) (r : RX W (D :: Z) ρ H e cls dd) : RX W Z ρ (hid H D) e cls dd := by
  refine ⟨r.1, ?_⟩
  have r2 := r.2
  cases hf : e.fld with
  | none => rw [hf] at r2; exact r2
  | some d =>
    obtain ⟨f, d⟩ := d
    rw [hf] at r2
    obtain ⟨a, v, e1, e2, e3, e4⟩ := r2
    exact ⟨a, v, e1, by rw [hid_ne (fun z => by rw [z, hl] at e2; cases e2)]; exact e2, e3, e4.hid⟩
theorem Post.shown {α : Type} {r : R α} {Q : α → List Addr → Hh → Hp → Prop} (hD : D ∉ Z) (hρ : D ∉ ρ) (n : Hc D = none) (p : Post W Z ρ Hc r Q fun _ _ _ => False) {E : XK} :
    Post W (D :: Z) ρ (upd Hc D (.lst acc)) r (fun a ρ' h' H' => H' D = some (.lst acc) ∧ Sim W Z ρ' h' (hid H' D) ∧ Ext ρ Hc ρ' (hid H' D) ∧ Q a ρ' h' (hid H' D)) E := by
  cases r with
  | ok a h => exact fun ρ' H' x S => ⟨(x.keep D _ hρ upd_same).2, S.hid hD, Ext.hid n x, p ρ' (hid H' D) (Ext.hid n x) (S.hid hD)⟩
  | xn e h =>
    intro ρ' H' cls dd x S rx
    exact (p ρ' (Fw.hid H' D) cls dd (Ext.hid n x) (S.hid hD) (RX.hid (x.keep D _ hρ upd_same).2 rx)).elim
  | bad => exact p
theorem noX_bind {α β : Type} {r : R α} {k : α → Hh → R β} {Q : β → List Addr → Hh → Hp → Prop} {E : XK} (p : Post W Z ρ H (noX (r.bind k)) Q E) : Post W Z ρ H r (fun a ρ' h' H' => Post W Z ρ' H' (noX (k a h')) Q E) fun _ _ _ => False := by
  cases r with
  | ok a h => exact fun ρ' H' x S => Post.mono x p
  | xn e h => exact p.elim
  | bad => exact p
theorem noX_ok' {α : Type} {r : R α} {Q : α → List Addr → Hh → Hp → Prop} {E : XK} (p : Post W Z ρ H (noX r) Q E) : Post W Z ρ H r Q fun _ _ _ => False := by
  cases r with
  | ok a h => exact p
  | xn e h => exact p.elim
  | bad => exact p
end
abbrev CJ (X : Cx) (W : Wd) (ifs : List Expr) (f : BM) : Prop := PTs X ifs (tB W (fun _ _ _ _ => False) f)
section
variable {X : Cx} {W : Wd} {wx : WX} {tg iter elt : Expr} {ifs : List Expr} {scope : Scope} {own : List (Str × Nat)} {pos : Pos} {f : TM} {gb : BM} {it : It} {src : AM} {g : G}
theorem cj_nil : CJ X W [] bYes := ⟨fun pins s σ H Q I ⟨Z, ρ, σd, h0, S, rs, p⟩ => pts_nil.run pins s σ H Q I (post_now S p)⟩
theorem lc_step {Z ρ : List Addr} {Hc : Hp} {D : Addr} {acc : List V} {accd : List Fw.D} {h : Hh} {σd : Sg} {σ : L2.St} {x : Fw.D} {v : V} {ownI : List Nat} {xs : List Fw.D} {Q : List Fw.D → List Addr → Hh → Hp → Prop} {E : XK} {Nx : Hp → Prop}
    (hK : X.K = W.K) (hg : ∀ i ∈ g.ix, i ∈ ownI) (hD : D ∉ Z) (n : Hc D = none) (S : Sim W Z ρ h Hc) (rs : RSg W Z ρ Hc σd σ) (ra : RDs W Z ρ Hc accd acc)
    {H' : Hp} (hH : H' = upd (hid H' D) D (.lst acc)) (hx : Ext ρ Hc ρ (hid H' D)) (S' : Sim W (D :: Z) ρ h H') (rv : RD W (D :: Z) ρ H' x v)
    (p : Post W Z ρ Hc (noX (lcL (lcStep f g gb ownI σd) (x :: xs) accd h)) Q E)
    (hN : ∀ ρ' h' Hc' acc' accd', Hc' D = none → Ext ρ Hc ρ' Hc' → Sim W Z ρ' h' Hc' → RDs W Z ρ' Hc' accd' acc' → Post W Z ρ' Hc' (noX (lcL (lcStep f g gb ownI σd) xs accd' h')) Q E → Nx (upd Hc' D (.lst acc'))) :
    gOf X.K g v (L2.wipe σ ownI) H' fun σ2 H2 => L2.wipe σ2 ownI = L2.wipe σ ownI ∧ tB W (fun _ _ _ _ => False) gb σ2 H2 fun b H3 =>
      if b = true then tE W (fun _ _ _ _ => False) f σ2 H3 fun y H4 => ∃ acc, H4 D = some (.lst acc) ∧ acc.length < sizeLine ∧ Nx (upd H4 D (.lst (acc ++ [y]))) else Nx H3 := by
  simp only [lcL] at p
  have p1 := noX_bind p
  unfold lcStep at p1
  have hzz : ∀ z ∈ D :: Z, z ∈ Z ∨ Hc z = none := fun z hz => (List.mem_cons.mp hz).elim (fun e => .inr (by rw [e]; exact n)) .inl
  have hn' : hid H' D D = none := hid_self
  have hzz' : ∀ z ∈ D :: Z, z ∈ Z ∨ hid H' D z = none := fun z hz => (List.mem_cons.mp hz).elim (fun e => .inr (by rw [e]; exact hn')) .inl
  have xl : Ext ρ (hid H' D) ρ H' := by
    have := Ext.laid (ρ := ρ) (H := hid H' D) (o := .lst acc) hn'
    rw [← hH] at this
    exact this
  have rs' : RSg W (D :: Z) ρ H' (wipe σd ownI) (L2.wipe σ ownI) := by
    refine RSg.wipe ⟨rs.len, fun i d e => ?_⟩ ownI
    obtain ⟨w, e1, r1⟩ := rs.at_ i d e
    exact ⟨w, e1, ((r1.mono hx).reZ hzz').mono xl⟩
  cases hb : bindG (wipe σd ownI) g x with
  | none => rw [hb] at p1; exact p1.elim
  | some σ1 =>
    rw [hb] at p1
    dsimp only at p1
    refine bindG_ok hK g rs' rv hb fun σ2 r2 hw => ⟨?_, ?_⟩
    · rw [hw ownI hg]
      have idem : ∀ (vs : List Nat), (∀ i ∈ vs, i ∈ ownI) → L2.wipe (L2.wipe σ vs) ownI = L2.wipe σ ownI := by
        intro vs
        induction vs with
        | nil => intro _; rfl
        | cons w ws ih =>
          intro hw
          simp only [L2.wipe]
          rw [wipe_set (hw w List.mem_cons_self)]
          exact ih fun i hi => hw i (List.mem_cons_of_mem _ hi)
      exact idem ownI fun i hi => hi
    · have pa := Post.mono hx p1
      have hDρ : D ∉ ρ := (S'.dis D List.mem_cons_self).1
      have q := Post.shown (acc := acc) (E := fun _ _ _ => False) hD hDρ hn' (Post.bind pa)
      rw [← hH] at q
      refine ⟨D :: Z, ρ, σ1, h, S', r2, q.imp fun k ρ3 h3 H3 x3 S3 q3 => ?_⟩
      obtain ⟨e3, S3', x3', p3⟩ := q3
      have hH3 : upd (hid H3 D) D (.lst acc) = H3 := upd_self e3
      cases k with
      | false =>
        have p4 := post_now S3' p3
        rw [if_neg (by decide)]
        rw [← hH3]
        exact hN ρ3 h3 (hid H3 D) acc accd hid_self (hx.trans x3') S3' (ra.mono (hx.trans x3')) p4
      | true =>
        rw [if_pos rfl]
        have hDρ3 : D ∉ ρ3 := (S3.dis D List.mem_cons_self).1
        have q4 := Post.shown (acc := acc) (E := fun _ _ _ => False) hD hDρ3 hid_self (Post.bind p3)
        rw [hH3] at q4
        refine ⟨D :: Z, ρ3, σ1, h3, S3, r2.mono x3, q4.imp fun d ρ4 h4 H4 x4 S4 q5 v4 rv4 => ?_⟩
        obtain ⟨e4, S4', x4', p5⟩ := q5
        have p6 : Post W Z ρ4 (hid H4 D) (noX (if accd.length < line then lcL (lcStep f g gb ownI σd) xs (accd ++ [d]) h4 else .bad)) Q E := post_now S4' p5
        by_cases hlen : accd.length < line
        · rw [if_pos hlen] at p6
          have hx4 := (hx.trans x3').trans x4'
          refine ⟨acc, e4, by rw [← ra.length, ← line_eq]; exact hlen, ?_⟩
          rw [← upd_hid]
          exact hN ρ4 h4 (hid H4 D) (acc ++ [v4]) (accd ++ [d]) hid_self hx4 S4' ((ra.mono hx4).append (.cons rv4.hid .nil)) p6
        · rw [if_neg hlen] at p6
          exact p6.elim
theorem lc_read (hK : X.K = W.K) {ownI : List Nat} (hix : ∀ i ∈ g.ix, i ∈ ownI) {σ : L2.St} {H : Hp} {Q : VK} (p : tE W wx (eLc f g it src gb ownI) σ H Q) :
    tLc (tI W wx it src) (gOf X.K g) (tB W (fun _ _ _ _ => False) gb) (tE W (fun _ _ _ _ => False) f) ownI σ H Q := by
  obtain ⟨Z, ρ, σd, h0, S, rs, p⟩ := p
  exact
    ⟨Z, ρ, σd, h0, S, rs, (Post.bind p).imp fun xs ρ1 h1 H1 x1 S1 p1 Ji hw D hD => by
      have rs1 := rs.mono x1
      have hDZ := (S1.new hD).1
      have pl := Post.bind p1
      refine ⟨fun i m H => i ≤ xs.length ∧ m = xs.length - i ∧ ∃ ρ h Hc acc accd, Hc D = none ∧ H = upd Hc D (.lst acc) ∧ Ext ρ1 H1 ρ Hc ∧ Sim W Z ρ h Hc ∧ RDs W Z ρ Hc accd acc ∧
          Post W Z ρ Hc (noX (lcL (lcStep f g gb ownI σd) (xs.drop i) accd h)) (fun (a : List Fw.D) ρ h H => Post W Z ρ H (R.ok (Fw.D.lst a) h) (fun d ρ' _ H' => ∀ v, RD W Z ρ' H' d v → Q v H') (fun cls dd H' => wx cls dd σ H')) (fun cls dd H' => wx cls dd σ H'),
        ⟨xs.length, Nat.zero_le _, rfl, ρ1, h1, H1, [], [], hD, rfl, Ext.refl, S1, .nil, pl⟩, ?_⟩
      rintro i m H' ⟨hi, hm, ρ2, h2, Hc, acc, accd, n2, e2, x2, S2, ra, p2⟩
      subst e2
      have hwz : ∀ z ∈ D :: Z, z ∈ Z ∨ H1 z = none := fun z hz => (List.mem_cons.mp hz).elim (fun e => .inr (by rw [e]; exact hD)) .inl
      have xD : Ext ρ1 H1 ρ2 (upd Hc D (.lst acc)) := x2.trans (Ext.laid n2)
      have SD : Sim W (D :: Z) ρ2 h2 (upd Hc D (.lst acc)) := S2.shown n2
      have w := hw (D :: Z) ρ2 h2 _ hwz xD.z SD
      by_cases hE : i = xs.length
      · subst hE
        rw [List.drop_length] at p2
        have p3 := post_now S2 (post_now S2 p2)
        refine .inl ⟨w.2, ?_⟩
        have hl2 := Ext.laid (ρ := ρ2) (o := .lst acc) n2
        have p4 := p2 ρ2 Hc Ext.refl S2
        exact (Post.mono hl2 p4) ρ2 _ Ext.refl (S2.laid n2) (.ref D) (.lst hDZ (S2.new n2).2 upd_same (ra.mono hl2))
      · have hlt : i < xs.length := by omega
        obtain ⟨go, yl⟩ := w.1 i xs[i] (by simp [hlt])
        rw [List.drop_eq_getElem_cons hlt] at p2
        refine .inr ⟨go, fun H' => i + 1 ≤ xs.length ∧ ∃ ρ h Hc acc accd, Hc D = none ∧ H' = upd Hc D (.lst acc) ∧ Ext ρ1 H1 ρ Hc ∧ Sim W Z ρ h Hc ∧ RDs W Z ρ Hc accd acc ∧
          Post W Z ρ Hc (noX (lcL (lcStep f g gb ownI σd) (xs.drop (i + 1)) accd h)) (fun (a : List Fw.D) ρ h H => Post W Z ρ H (R.ok (Fw.D.lst a) h) (fun d ρ' _ H' => ∀ v, RD W Z ρ' H' d v → Q v H') (fun cls dd H' => wx cls dd σ H')) (fun cls dd H' => wx cls dd σ H'),
          fun H' ⟨a1, a2⟩ => ⟨xs.length - (i + 1), by omega, a1, rfl, a2⟩, fun v H4 hy => ?_⟩
        obtain ⟨x3, S3, rv⟩ := yl v H4 hy
        have hD4 : H4 D = some (.lst acc) := (x3.keep D _ (S2.new n2).2 upd_same).2
        have hH4 : H4 = upd (hid H4 D) D (.lst acc) := (upd_self hD4).symm
        have hx4 : Ext ρ2 Hc ρ2 (hid H4 D) := Ext.hid n2 x3
        refine lc_step (Q := fun (a : List Fw.D) ρ h H => Post W Z ρ H (R.ok (Fw.D.lst a) h) (fun d ρ' _ H' => ∀ v, RD W Z ρ' H' d v → Q v H') (fun cls dd H' => wx cls dd σ H')) (E := fun cls dd H' => wx cls dd σ H') hK hix hDZ n2 S2 (rs1.mono x2) ra hH4 hx4 S3 rv p2 fun ρ' h' Hc' acc' accd' n' x' S' ra' p' => ?_
        exact ⟨by omega, ρ', h', Hc', acc', accd', n', rfl, x2.trans x', S', ra', p'⟩⟩
theorem ej_lc (J : Js X W wx) (hi : IJ X W wx tg iter it src) (ok : BlkOk X.N X.env.scope scope own) (hix : ∀ i ∈ g.ix, i ∈ own.map (·.2))
    (hg : ∀ (s : Shared) (H : Hp) (C : Addr) (cl : List (Str × Addr)) (fp : List Addr), GJ (X.blk s H scope (compEnvC scope cl C X.env) fp) tg g)
    (ht : ∀ (s : Shared) (H : Hp) (C : Addr) (cl : List (Str × Addr)) (fp : List Addr), CJ (X.blk s H scope (compEnvC scope cl C X.env) fp) W ifs gb)
    (he : ∀ (s : Shared) (H : Hp) (C : Addr) (cl : List (Str × Addr)) (fp : List Addr), EJ (X.blk s H scope (compEnvC scope cl C X.env) fp) W (fun _ _ _ _ => False) elt f)
    (hs : ∀ x, foldedSetIterable iter X.env x = pure x := by intro _; rfl) :
    EJ X W wx (.ListComp elt [⟨tg, iter, ifs, 0⟩] scope pos) (eLc f g it src gb (own.map (·.2))) :=
  ⟨fun pins s σ H Q I p => (pe_lc J.hc J.hN hi ok hg ht he hs).run pins s σ H Q I (lc_read J.hK hix p)⟩
theorem sj_setLc {i : Nat} {y : Str} {py spos : Pos} (J : Js X W wx) (hi : IJ X W wx tg iter it src) (ok : BlkOk X.N X.env.scope scope own) (hix : ∀ i ∈ g.ix, i ∈ own.map (·.2)) (hy : X.N[i]? = some y) (hyl : X.env.scope.names.lookup y = some .local)
    (hsw : swapsWith (.ListComp elt [⟨tg, iter, ifs, 0⟩] scope pos) (some (.Name y py)) spos.line X.env = pure true)
    (hg : ∀ (s : Shared) (H : Hp) (C : Addr) (cl : List (Str × Addr)) (fp : List Addr), GJ (X.blk s H scope (compEnvC scope cl C X.env) fp) tg g)
    (ht : ∀ (s : Shared) (H : Hp) (C : Addr) (cl : List (Str × Addr)) (fp : List Addr), CJ (X.blk s H scope (compEnvC scope cl C X.env) fp) W ifs gb)
    (he : ∀ (s : Shared) (H : Hp) (C : Addr) (cl : List (Str × Addr)) (fp : List Addr), EJ (X.blk s H scope (compEnvC scope cl C X.env) fp) W (fun _ _ _ _ => False) elt f)
    (hs : ∀ x, foldedSetIterable iter X.env x = pure x := by intro _; rfl) :
    SJ X W wx (.Assign [.Name y py] (.ListComp elt [⟨tg, iter, ifs, 0⟩] scope pos) spos) (sSet i (eLc f g it src gb (own.map (·.2)))) :=
  ⟨fun pins s σ H D I ⟨Z, ρ, σd, h0, S, rs, p⟩ => (ps_setLc J.hc J.hN hy hyl hsw hi ok hg ht he hs).run pins s σ H D I
    (lc_read J.hK hix ⟨Z, ρ, σd, h0, S, rs, (PostS.of rs p).imp fun d ρ1 h1 H1 x1 S1 p1 v rv => p1.nx S1 ((rs.mono x1).set rv)⟩)⟩
end
end Fw
end
section
set_option Elab.async false
set_option linter.all false
set_option maxRecDepth 100000
set_option autoImplicit false
set_option maxHeartbeats 1000000
namespace Fw
open PySem PySem.Spec PyProof.Rows L2
section
variable {W : Wd} {Z Z' ρ ρ' : List Addr} {H H' : Hp}
mutual
theorem RD.closed (hz : ∀ z ∈ Z', z ∈ Z ∨ z ∈ ρ) (hr : ∀ a ∈ ρ', a ∈ ρ) : ∀ {d : D} {v : V}, d.closed = true → RD W Z ρ H d v → RD W Z' ρ' H d v
  | _, _, _, .non => .non
  | _, _, _, .bl b => .bl b
  | _, _, _, .int i => .int i
  | _, _, _, .str s => .str s
  | _, _, c, .tup z r q t => .tup (fun m => (hz _ m).elim z r) (fun m => r (hr _ m)) q (RDs.closed hz hr (by simpa [D.closed] using c) t)
  | _, _, c, .tupK k t => .tupK k (RDs.closed hz hr (by simpa [D.closed] using c) t)
  | _, _, c, .lst z r q t => .lst (fun m => (hz _ m).elim z r) (fun m => r (hr _ m)) q (RDs.closed hz hr (by simpa [D.closed] using c) t)
  | _, _, c, .dct z r q t => .dct (fun m => (hz _ m).elim z r) (fun m => r (hr _ m)) q (RKs.closed hz hr (by simpa [D.closed] using c) t)
  | _, _, c, .obj z r q t => .obj (fun m => (hz _ m).elim z r) (fun m => r (hr _ m)) q (RFs.closed hz hr (by simpa [D.closed] using c) t)
  | _, _, c, .ref e => by simp [D.closed] at c
  | _, _, _, .fn f => .fn f
  | _, _, _, .roi q => .roi (q.elim (fun ⟨z, r, q⟩ => .inl ⟨fun m => (hz _ m).elim z r, fun m => r (hr _ m), q⟩) .inr)
theorem RDs.closed (hz : ∀ z ∈ Z', z ∈ Z ∨ z ∈ ρ) (hr : ∀ a ∈ ρ', a ∈ ρ) : ∀ {ds : List D} {vs : List V}, closedAll ds = true → RDs W Z ρ H ds vs → RDs W Z' ρ' H ds vs
  | _, _, _, .nil => .nil
  | _, _, c, .cons r t => by
    simp only [closedAll, Bool.and_eq_true] at c
    exact .cons (RD.closed hz hr c.1 r) (RDs.closed hz hr c.2 t)
theorem RKs.closed (hz : ∀ z ∈ Z', z ∈ Z ∨ z ∈ ρ) (hr : ∀ a ∈ ρ', a ∈ ρ) : ∀ {ds : List (K1 × D)} {vs : List (Key × V)}, closedK ds = true → RKs W Z ρ H ds vs → RKs W Z' ρ' H ds vs
  | _, _, _, .nil => .nil
  | _, _, c, .cons r t => by
    simp only [closedK, Bool.and_eq_true] at c
    exact .cons (RD.closed hz hr c.1 r) (RKs.closed hz hr c.2 t)
theorem RFs.closed (hz : ∀ z ∈ Z', z ∈ Z ∨ z ∈ ρ) (hr : ∀ a ∈ ρ', a ∈ ρ) : ∀ {ds : List (Nat × D)} {vs : List (Str × V)}, closedF ds = true → RFs W Z ρ H ds vs → RFs W Z' ρ' H ds vs
  | _, _, _, .nil => .nil
  | _, _, c, .cons r t => by
    simp only [closedF, Bool.and_eq_true] at c
    exact .cons (RD.closed hz hr c.1 r) (RFs.closed hz hr c.2 t)
end
theorem OR.closed (hz : ∀ z ∈ Z', z ∈ Z ∨ z ∈ ρ) (hr : ∀ a ∈ ρ', a ∈ ρ) {a : Addr} {o : O} (c : o.closed = true) (r : OR W Z ρ H a o) : OR W Z' ρ' H a o := by
  cases r with
  | lst q t => exact .lst q (RDs.closed hz hr (by simpa [O.closed] using c) t)
  | ro q t => exact .ro q (RDs.closed hz hr (by simpa [O.closed] using c) t)
  | dct q t => exact .dct q (RKs.closed hz hr (by simpa [O.closed] using c) t)
  | ins q t => exact .ins q (RFs.closed hz hr (by simpa [O.closed] using c) t)
  | dtu q k t => simp [O.closed] at c
end
def At (ρ : List Addr) (n : Nat) (a : Addr) : Prop := ρ[n]? = some a
theorem paired_at {ρ : List Addr} : ∀ {ns : List Nat} {as : List Addr}, Paired (At ρ) ns as → ∀ (i n : Nat), ns[i]? = some n → ∃ a, as[i]? = some a ∧ ρ[n]? = some a
  | _, _, .nil, i, n, h => by simp at h
  | _, _, .cons r t, 0, n, h => by simp at h; subst h; exact ⟨_, rfl, r⟩
  | _, _, .cons r t, i + 1, n, h => by simpa using paired_at t i n (by simpa using h)
theorem paired_len {ρ : List Addr} : ∀ {ns : List Nat} {as : List Addr}, Paired (At ρ) ns as → ns.length = as.length
  | _, _, .nil => rfl
  | _, _, .cons _ t => by simp [paired_len t]
theorem paired_mem {ρ : List Addr} : ∀ {ns : List Nat} {as : List Addr}, Paired (At ρ) ns as → ∀ a ∈ as, ∃ n ∈ ns, ρ[n]? = some a
  | _, _, .nil, a, h => absurd h (by simp)
  | _, _, .cons r t, a, h => by
    rcases List.mem_cons.mp h with e | h
    · subst e; exact ⟨_, List.mem_cons_self, r⟩
    · obtain ⟨n, hn, e⟩ := paired_mem t a h
      exact ⟨n, List.mem_cons_of_mem _ hn, e⟩
theorem nodup_inj {ρ : List Addr} (nd : ρ.Nodup) {m n : Nat} {a : Addr} (h1 : ρ[m]? = some a) (h2 : ρ[n]? = some a) : m = n := by
  exact (List.getElem?_inj (List.getElem?_eq_some_iff.mp h1).1 nd).mp (h1.trans h2.symm)
theorem paired_nodup {ρ : List Addr} (nd : ρ.Nodup) : ∀ {ns : List Nat} {as : List Addr}, Paired (At ρ) ns as → ns.Nodup → as.Nodup
  | _, _, .nil, _ => List.nodup_nil
  | n :: ns, a :: as, .cons r t, h => by
    obtain ⟨h1, h2⟩ := List.nodup_cons.mp h
    refine List.nodup_cons.mpr ⟨fun m => ?_, paired_nodup nd t h2⟩
    obtain ⟨k, hk, e⟩ := paired_mem t a m
    exact h1 (nodup_inj nd r e ▸ hk)
section
variable {W : Wd} {Z Z' ρ : List Addr} {H : Hp}
theorem lend_ok (hz : ∀ z ∈ Z', z ∈ Z ∨ z ∈ ρ) : ∀ {ds : List D} {vs : List V} {k : Nat} {ds' : List D} {ns : List Nat}, RDs W Z ρ H ds vs → lend k ds = some (ds', ns) →
    ∃ as, Paired (At ρ) ns as ∧ ∀ ρc : List Addr, (∀ (i : Nat) (a : Addr), as[i]? = some a → ρc[k + i]? = some a) → (∀ a ∈ ρc, a ∈ ρ) → RDs W Z' ρc H ds' vs := by
  intro ds
  induction ds with
  | nil =>
    intro vs k ds' ns r e
    cases r
    simp only [lend, Option.some.injEq, Prod.mk.injEq] at e
    obtain ⟨rfl, rfl⟩ := e
    exact ⟨[], .nil, fun _ _ _ => .nil⟩
  | cons d ds ih =>
    intro vs k ds' ns r e
    cases r with
    | @cons _ _ v vs r t =>
      by_cases hd : ∃ n, d = .ref n
      · obtain ⟨n, rfl⟩ := hd
        simp only [lend] at e
        cases el : lend (k + 1) ds with
        | none => rw [el] at e; cases e
        | some q =>
          obtain ⟨ds1, ns1⟩ := q
          rw [el] at e
          simp only [Option.map_some, Option.some.injEq, Prod.mk.injEq] at e
          obtain ⟨rfl, rfl⟩ := e
          obtain ⟨as, pa, f⟩ := ih t el
          cases r with
          | @ref a _ ra =>
            refine ⟨a :: as, .cons ra pa, fun ρc h1 h2 => .cons (.ref (by simpa using h1 0 a rfl)) (f ρc (fun i b hb => ?_) h2)⟩
            have := h1 (i + 1) b (by simpa using hb)
            rw [← this]
            congr 1
            omega
      · have e' : (if d.closed = true then (lend k ds).map fun q => (d :: q.1, q.2) else none) = some (ds', ns) := by
          rw [← e]
          cases d <;> first | rfl | exact absurd ⟨_, rfl⟩ hd
        split at e'
        · rename_i hc
          cases el : lend k ds with
          | none => rw [el] at e'; cases e'
          | some q =>
            obtain ⟨ds1, ns1⟩ := q
            rw [el] at e'
            simp only [Option.map_some, Option.some.injEq, Prod.mk.injEq] at e'
            obtain ⟨rfl, rfl⟩ := e'
            obtain ⟨as, pa, f⟩ := ih t el
            exact ⟨as, pa, fun ρc h1 h2 => .cons (RD.closed hz h2 hc r) (f ρc h1 h2)⟩
        · cases e'
theorem lentO_ok {h : Hh} : ∀ {ns : List Nat} {hc : Hh}, lentO h ns = some hc → hc.length = ns.length ∧ ∀ (i : Nat) (o : O), hc[i]? = some o → ∃ n, ns[i]? = some n ∧ h[n]? = some o ∧ o.closed = true := by
  intro ns
  induction ns with
  | nil => intro hc e; simp only [lentO, Option.some.injEq] at e; subst e; exact ⟨rfl, fun i o h => by simp at h⟩
  | cons n ns ih =>
    intro hc e
    simp only [lentO] at e
    cases en : h[n]? with
    | none => rw [en] at e; cases e
    | some o =>
      rw [en] at e
      dsimp only at e
      split at e
      · rename_i hcl
        cases el : lentO h ns with
        | none => rw [el] at e; cases e
        | some hc1 =>
          rw [el] at e
          cases e
          obtain ⟨h1, h2⟩ := ih el
          refine ⟨by simp [h1], fun i u hu => ?_⟩
          cases i with
          | zero => simp at hu; subst hu; exact ⟨n, rfl, en, hcl⟩
          | succ i => simpa using h2 i u (by simpa using hu)
      · cases e
end
section
variable {W : Wd} {Z Z' ρ ρ1 : List Addr} {H : Hp} {g : Nat → Option D}
mutual
theorem map_ok (hz : ∀ a, a ∉ Z' → a ∉ ρ1 → a ∉ Z ∧ a ∉ ρ) (hg : ∀ n a d, ρ1[n]? = some a → g n = some d → RD W Z ρ H d (.ref a)) : ∀ {d : D} {v : V} {d' : D}, RD W Z' ρ1 H d v → d.map_ g = some d' → RD W Z ρ H d' v
  | _, _, _, .non, e => by simp only [D.map_, Option.some.injEq] at e; subst e; exact .non
  | _, _, _, .bl b, e => by simp only [D.map_, Option.some.injEq] at e; subst e; exact .bl b
  | _, _, _, .int i, e => by simp only [D.map_, Option.some.injEq] at e; subst e; exact .int i
  | _, _, _, .str s, e => by simp only [D.map_, Option.some.injEq] at e; subst e; exact .str s
  | _, _, _, .fn f, e => by simp only [D.map_, Option.some.injEq] at e; subst e; exact .fn f
  | _, _, _, .roi q, e => by simp only [D.map_, Option.some.injEq] at e; subst e; exact .roi (q.elim (fun ⟨z, r, q⟩ => .inl ⟨(hz _ z r).1, (hz _ z r).2, q⟩) .inr)
  | _, _, _, .ref h, e => by simp only [D.map_] at e; exact hg _ _ _ h e
  | _, _, _, .tup z r q t, e => by
    simp only [D.map_, Option.map_eq_some_iff] at e
    obtain ⟨xs, e1, rfl⟩ := e
    exact .tup (hz _ z r).1 (hz _ z r).2 q (mapAll_ok hz hg t e1)
  | _, _, _, .tupK k t, e => by
    simp only [D.map_, Option.map_eq_some_iff] at e
    obtain ⟨xs, e1, rfl⟩ := e
    exact .tupK k (mapAll_ok hz hg t e1)
  | _, _, _, .lst z r q t, e => by
    simp only [D.map_, Option.map_eq_some_iff] at e
    obtain ⟨xs, e1, rfl⟩ := e
    exact .lst (hz _ z r).1 (hz _ z r).2 q (mapAll_ok hz hg t e1)
  | _, _, _, .dct z r q t, e => by
    simp only [D.map_, Option.map_eq_some_iff] at e
    obtain ⟨xs, e1, rfl⟩ := e
    exact .dct (hz _ z r).1 (hz _ z r).2 q (mapK_ok hz hg t e1)
  | _, _, _, .obj z r q t, e => by
    simp only [D.map_, Option.map_eq_some_iff] at e
    obtain ⟨xs, e1, rfl⟩ := e
    exact .obj (hz _ z r).1 (hz _ z r).2 q (mapF_ok hz hg t e1)
theorem mapAll_ok (hz : ∀ a, a ∉ Z' → a ∉ ρ1 → a ∉ Z ∧ a ∉ ρ) (hg : ∀ n a d, ρ1[n]? = some a → g n = some d → RD W Z ρ H d (.ref a)) : ∀ {ds : List D} {vs : List V} {ds' : List D}, RDs W Z' ρ1 H ds vs → mapAll g ds = some ds' → RDs W Z ρ H ds' vs
  | _, _, _, .nil, e => by simp only [mapAll, Option.some.injEq] at e; subst e; exact .nil
  | _, _, _, .cons r t, e => by
    simp only [mapAll, Option.bind_eq_some_iff, Option.map_eq_some_iff] at e
    obtain ⟨y, e1, ys, e2, rfl⟩ := e
    exact .cons (map_ok hz hg r e1) (mapAll_ok hz hg t e2)
theorem mapK_ok (hz : ∀ a, a ∉ Z' → a ∉ ρ1 → a ∉ Z ∧ a ∉ ρ) (hg : ∀ n a d, ρ1[n]? = some a → g n = some d → RD W Z ρ H d (.ref a)) : ∀ {ds : List (K1 × D)} {vs : List (Key × V)} {ds' : List (K1 × D)}, RKs W Z' ρ1 H ds vs → mapK g ds = some ds' → RKs W Z ρ H ds' vs
  | _, _, _, .nil, e => by simp only [mapK, Option.some.injEq] at e; subst e; exact .nil
  | _, _, _, .cons r t, e => by
    simp only [mapK, Option.bind_eq_some_iff, Option.map_eq_some_iff] at e
    obtain ⟨y, e1, ys, e2, rfl⟩ := e
    exact .cons (map_ok hz hg r e1) (mapK_ok hz hg t e2)
theorem mapF_ok (hz : ∀ a, a ∉ Z' → a ∉ ρ1 → a ∉ Z ∧ a ∉ ρ) (hg : ∀ n a d, ρ1[n]? = some a → g n = some d → RD W Z ρ H d (.ref a)) : ∀ {ds : List (Nat × D)} {vs : List (Str × V)} {ds' : List (Nat × D)}, RFs W Z' ρ1 H ds vs → mapF g ds = some ds' → RFs W Z ρ H ds' vs
  | _, _, _, .nil, e => by simp only [mapF, Option.some.injEq] at e; subst e; exact .nil
  | _, _, _, .cons r t, e => by
    simp only [mapF, Option.bind_eq_some_iff, Option.map_eq_some_iff] at e
    obtain ⟨y, e1, ys, e2, rfl⟩ := e
    exact .cons (map_ok hz hg r e1) (mapF_ok hz hg t e2)
end
theorem frz_ok {hc : Hh} {k : Nat} (S : Sim W Z' ρ1 hc H) (hz : ∀ a, a ∉ Z' → a ∉ ρ1 → a ∉ Z ∧ a ∉ ρ) (hk : ∀ n a, ρ1[n]? = some a → ¬ n < k → a ∉ Z ∧ a ∉ ρ) : ∀ (f n : Nat) (a : Addr) (d : D), ρ1[n]? = some a → frz hc k f n = some d → RD W Z ρ H d (.ref a) := by
  intro f
  induction f with
  | zero => intro n a d _ e; simp [frz] at e
  | succ f ih =>
    intro n a d ha e
    simp only [frz] at e
    split at e
    · cases e
    · rename_i hn
      obtain ⟨h1, h2⟩ := hk n a ha hn
      cases eo : hc[n]? with
      | none => rw [eo] at e; cases e
      | some o =>
        rw [eo] at e
        have q := S.obj n o a eo ha
        cases o <;> dsimp only at e <;> first | (cases e; done) | skip
        · simp only [Option.map_eq_some_iff] at e
          obtain ⟨xs, e1, rfl⟩ := e
          cases q with | lst q t => exact .lst h1 h2 q (mapAll_ok hz ih t e1)
        · simp only [Option.map_eq_some_iff] at e
          obtain ⟨xs, e1, rfl⟩ := e
          cases q with | dct q t => exact .dct h1 h2 (Rd.of q) (mapK_ok hz ih t e1)
        · simp only [Option.map_eq_some_iff] at e
          obtain ⟨xs, e1, rfl⟩ := e
          cases q with | ins q t => exact .obj h1 h2 q (mapF_ok hz ih t e1)
theorem frzO_ok {hc : Hh} {k : Nat} (S : Sim W Z' ρ1 hc H) (hz : ∀ a, a ∉ Z' → a ∉ ρ1 → a ∉ Z ∧ a ∉ ρ) (hk : ∀ n a, ρ1[n]? = some a → ¬ n < k → a ∉ Z ∧ a ∉ ρ) {a : Addr} {o o' : O} (r : OR W Z' ρ1 H a o) (e : frzO hc k o = some o') : OR W Z ρ H a o' := by
  cases r with
  | lst q t =>
    simp only [frzO, Option.map_eq_some_iff] at e
    obtain ⟨xs, e1, rfl⟩ := e
    exact .lst q (mapAll_ok hz (frz_ok S hz hk 4) t e1)
  | ro q t =>
    simp only [frzO, Option.map_eq_some_iff] at e
    obtain ⟨xs, e1, rfl⟩ := e
    exact .ro q (mapAll_ok hz (frz_ok S hz hk 4) t e1)
  | dct q t =>
    simp only [frzO, Option.map_eq_some_iff] at e
    obtain ⟨xs, e1, rfl⟩ := e
    exact .dct q (mapK_ok hz (frz_ok S hz hk 4) t e1)
  | ins q t =>
    simp only [frzO, Option.map_eq_some_iff] at e
    obtain ⟨xs, e1, rfl⟩ := e
    exact .ins q (mapF_ok hz (frz_ok S hz hk 4) t e1)
  | dtu q k t => simp [frzO] at e
theorem giveBack_ok {hc : Hh} {k : Nat} : ∀ {ns : List Nat} {i : Nat} {h h2 : Hh}, giveBack hc k ns i h = some h2 →
    (∀ (m : Nat) (o : O) (a : Addr), m ∉ ns → h[m]? = some o → ρ[m]? = some a → OR W Z ρ H a o) →
    (∀ (j n : Nat) (o o' : O) (a : Addr), ns[j]? = some n → hc[i + j]? = some o → ρ[n]? = some a → frzO hc k o = some o' → OR W Z ρ H a o') →
    h2.length = h.length ∧ ∀ (m : Nat) (o : O) (a : Addr), h2[m]? = some o → ρ[m]? = some a → OR W Z ρ H a o := by
  intro ns
  induction ns with
  | nil =>
    intro i h h2 e h1 _
    simp only [giveBack, Option.some.injEq] at e
    subst e
    exact ⟨rfl, fun m o a => h1 m o a (by simp)⟩
  | cons n ns ih =>
    intro i h h2 e h1 h2'
    simp only [giveBack] at e
    cases eo : hc[i]? with
    | none => rw [eo] at e; cases e
    | some o =>
      rw [eo] at e
      simp only [Option.bind_eq_some_iff] at e
      obtain ⟨o1, e1, e2⟩ := e
      have key : ∀ (m : Nat) (u : O) (a : Addr), m ∉ ns → (h.set n o1)[m]? = some u → ρ[m]? = some a → OR W Z ρ H a u := by
        intro m u a hm hu ha
        by_cases hmn : n = m
        · subst hmn
          have hl : n < h.length := by
            have := (List.getElem?_eq_some_iff.mp hu).1
            simpa using this
          rw [List.getElem?_set_self hl] at hu
          cases hu
          exact h2' 0 n o o1 a rfl (by simpa using eo) ha e1
        · rw [List.getElem?_set_ne hmn] at hu
          exact h1 m u a (fun z => (List.mem_cons.mp z).elim (fun e => hmn e.symm) hm) hu ha
      have key2 : ∀ (j m : Nat) (u u' : O) (a : Addr), ns[j]? = some m → hc[i + 1 + j]? = some u → ρ[m]? = some a → frzO hc k u = some u' → OR W Z ρ H a u' := by
        intro j m u u' a hj hu ha hf
        have e3 : i + (j + 1) = i + 1 + j := by omega
        exact h2' (j + 1) m u u' a (by simpa using hj) (by rw [e3]; exact hu) ha hf
      obtain ⟨l, q⟩ := ih e2 key key2
      exact ⟨by rw [l, List.length_set], q⟩
end
end Fw
end
section
set_option Elab.async false
set_option linter.all false
set_option maxRecDepth 100000
set_option autoImplicit false
set_option maxHeartbeats 1000000
namespace Fw
open PySem PySem.Spec PyProof.Rows L2
theorem OR.keep {W : Wd} {Z ρ : List Addr} {H H1 : Hp} {a : Addr} {o : O} (x : Ext ρ H ρ H1) (hk : ∀ u, H a = some u → H1 a = some u) (r : OR W Z ρ H a o) : OR W Z ρ H1 a o := by
  cases r with
  | lst q t => exact .lst (hk _ q) (t.mono x)
  | ro q t => exact .ro (q.elim (fun q => .inl (hk _ q)) fun ⟨o, q⟩ => .inr ⟨o, hk _ q⟩) (t.mono x)
  | dct q t => exact .dct (hk _ q) (t.mono x)
  | ins q t => exact .ins (hk _ q) (t.mono x)
  | dtu q k t => exact .dtu (hk _ q) k (t.mono x)
theorem OR.notXd {W : Wd} {Z ρ : List Addr} {H : Hp} {a : Addr} {o : O} {fs : List (Str × V)} (r : OR W Z ρ H a o) (e : H a = some (.xd fs)) : False := by
  cases r with
  | lst q t => rw [e] at q; cases q
  | ro q t =>
    rcases q with q | ⟨_, q⟩
    · rw [e] at q; cases q
    · rw [e] at q; cases q
  | dct q t => rw [e] at q; cases q
  | ins q t => rw [e] at q; cases q
  | dtu q k t => rw [e] at q; cases q
theorem lent_ok {W : Wd} {Z ρ : List Addr} {H : Hp} {h : Hh} {ds : List D} {vs : List V} {ds' : List D} {ns : List Nat} {hc : Hh} (S : Sim W Z ρ h H) (r : RDs W Z ρ H ds vs) (e : lent ds h = some (ds', ns, hc)) :
    ∃ (Z' as : List Addr), as.length = ns.length ∧ Sim W Z' as hc H ∧ RDs W Z' as H ds' vs ∧ (∀ a, H a = none → a ∉ as) ∧
      ∀ (ρ1 : List Addr) (H1 : Hp) (h1 : Hh), Ext as H ρ1 H1 → Sim W Z' ρ1 h1 H1 →
        (∀ h2, giveBack h1 ns.length ns 0 h = some h2 → Ext ρ H ρ H1 ∧ Sim W Z ρ h2 H1) ∧
        (∀ d v d', RD W Z' ρ1 H1 d v → tell h1 ns d = some d' → RD W Z ρ H1 d' v) ∧
        (∀ x x' cls dd, RX W Z' ρ1 H1 x cls dd → tellX h1 ns x = some x' → RX W Z ρ H1 x' cls dd) := by
  unfold lent at e
  split at e
  · cases e
  · rename_i ds0 ns0 el
    split at e
    · rename_i nd
      split at e
      · cases e
      · rename_i hc0 eo
        simp only [Option.some.injEq, Prod.mk.injEq] at e
        obtain ⟨rfl, rfl, rfl⟩ := e
        obtain ⟨hl, ho⟩ := lentO_ok eo
        have mk : ∀ as : List Addr, Paired (At ρ) ns0 as → ∀ a ∈ as, a ∈ ρ := fun as pa a ha => by
          obtain ⟨n, _, q⟩ := paired_mem pa a ha
          exact List.mem_of_getElem? q
        obtain ⟨as0, pa0, _⟩ := lend_ok (Z' := []) (fun z hz => absurd hz (by simp)) r el
        let Z' : List Addr := Z ++ ρ.filter fun a => decide (a ∉ as0)
        have hZ' : ∀ z ∈ Z', z ∈ Z ∨ z ∈ ρ := fun z hz => by
          rcases List.mem_append.mp hz with q | q
          · exact .inl q
          · exact .inr (List.mem_filter.mp q).1
        obtain ⟨as, pa, f⟩ := lend_ok (Z' := Z') hZ' r el
        have eas : as0 = as := by
          refine List.ext_getElem? fun i => ?_
          cases hi : ns0[i]? with
          | none =>
            have h1 : ns0.length ≤ i := List.getElem?_eq_none_iff.mp hi
            rw [List.getElem?_eq_none (by rw [← paired_len pa0]; exact h1), List.getElem?_eq_none (by rw [← paired_len pa]; exact h1)]
          | some n =>
            obtain ⟨a, e1, e2⟩ := paired_at pa0 i n hi
            obtain ⟨b, f1, f2⟩ := paired_at pa i n hi
            rw [e2] at f2
            cases f2
            rw [e1, f1]
        subst eas
        have sub := mk as0 pa
        have ndA : as0.Nodup := paired_nodup S.nd pa nd
        have lenA := paired_len pa
        have inZ : ∀ a, a ∈ ρ → a ∉ as0 → a ∈ Z' := fun a h1 h2 => List.mem_append.mpr (.inr (List.mem_filter.mpr ⟨h1, by simp [h2]⟩))
        have there : ∀ a ∈ ρ, ∃ u, H a = some u := fun a ha => by
          obtain ⟨i, hi⟩ := List.mem_iff_getElem?.mp ha
          have hl : i < h.length := by rw [← S.len]; exact (List.getElem?_eq_some_iff.mp hi).1
          exact (S.obj i h[i] a (by simp [hl]) hi).there
        refine ⟨Z', as0, lenA.symm, ⟨by rw [← lenA, hl], ndA, fun z hz => ?_, fun i o a e1 e2 => ?_⟩, f as0 (fun i a q => by simpa using q) sub, fun a ha hm => ?_, fun ρ1 H1 h1 x S1 => ?_⟩
        · rcases List.mem_append.mp hz with q | q
          · obtain ⟨q1, q2⟩ := S.dis z q
            exact ⟨fun m => q1 (sub z m), q2⟩
          · obtain ⟨q1, q2⟩ := List.mem_filter.mp q
            exact ⟨by simpa using q2, there z q1⟩
        · obtain ⟨n, en, eh, cl⟩ := ho i o e1
          obtain ⟨b, eb, er⟩ := paired_at pa i n en
          rw [eb] at e2
          have hba : b = a := Option.some.inj e2
          rw [hba] at er
          exact (S.obj n o a eh er).closed hZ' sub cl
        · obtain ⟨u, q⟩ := there a (sub a hm)
          rw [ha] at q; cases q
        · have X1 : Ext ρ H ρ H1 := ⟨List.prefix_rfl, fun a o hr e => ⟨hr, (x.keep a o (fun m => hr (sub a m)) e).2⟩⟩
          have a1 : ∀ a ∈ as0, a ∈ ρ1 := fun a ha => x.pre.subset ha
          have hz : ∀ a, a ∉ Z' → a ∉ ρ1 → a ∉ Z ∧ a ∉ ρ := fun a n1 n2 => ⟨fun m => n1 (List.mem_append.mpr (.inl m)), fun m => by
            by_cases hm : a ∈ as0
            · exact n2 (a1 a hm)
            · exact n1 (inZ a m hm)⟩
          have hk : ∀ n a, ρ1[n]? = some a → ¬ n < ns0.length → a ∉ Z ∧ a ∉ ρ := fun n a en hn => by
            have hm : a ∈ ρ1 := List.mem_of_getElem? en
            have hZn : a ∉ Z' := fun q => (S1.dis a q).1 hm
            refine ⟨fun m => hZn (List.mem_append.mpr (.inl m)), fun m => ?_⟩
            by_cases hma : a ∈ as0
            · obtain ⟨j, hj⟩ := List.mem_iff_getElem?.mp hma
              have := nodup_inj S1.nd en (pre_get x.pre hj)
              have hjl := (List.getElem?_eq_some_iff.mp hj).1
              omega
            · exact hZn (inZ a m hma)
          have tel : ∀ d v d', RD W Z' ρ1 H1 d v → tell h1 ns0 d = some d' → RD W Z ρ H1 d' v := by
            intro d v d' rd ed
            by_cases hd : ∃ n, d = .ref n
            · obtain ⟨n, rfl⟩ := hd
              cases rd with
              | @ref a _ ra =>
                simp only [tell] at ed
                cases en : ns0[n]? with
                | some m =>
                  rw [en] at ed
                  cases ed
                  obtain ⟨b, eb, er⟩ := paired_at pa n m en
                  have := pre_get x.pre eb
                  rw [ra] at this
                  cases this
                  exact .ref er
                | none =>
                  rw [en] at ed
                  exact frz_ok S1 hz hk 4 n a d' ra ed
            · have ed' : d.map_ (frz h1 ns0.length 4) = some d' := by
                rw [← ed]
                cases d <;> first | rfl | exact absurd ⟨_, rfl⟩ hd
              exact map_ok hz (frz_ok S1 hz hk 4) rd ed'
          refine ⟨fun h2 e2 => ⟨X1, ?_⟩, tel, fun ex ex' cls dd rx ee => ?_⟩
          · have k1 : ∀ (m : Nat) (o : O) (a : Addr), m ∉ ns0 → h[m]? = some o → ρ[m]? = some a → OR W Z ρ H1 a o := by
              intro m o a hm ho' ha
              refine (S.obj m o a ho' ha).keep X1 fun u eu => (x.keep a u (fun hma => ?_) eu).2
              obtain ⟨n, hn, en⟩ := paired_mem pa a hma
              exact hm (nodup_inj S.nd ha en ▸ hn)
            have k2 : ∀ (j n : Nat) (o o' : O) (a : Addr), ns0[j]? = some n → h1[0 + j]? = some o → ρ[n]? = some a → frzO h1 ns0.length o = some o' → OR W Z ρ H1 a o' := by
              intro j n o o' a hj ho' ha hf
              obtain ⟨b, eb, er⟩ := paired_at pa j n hj
              rw [ha] at er
              have hab : a = b := Option.some.inj er
              rw [← hab] at eb
              exact frzO_ok S1 hz hk (S1.obj j o a (by simpa using ho') (pre_get x.pre eb)) hf
            obtain ⟨q1, q2⟩ := giveBack_ok (W := W) (Z := Z) (ρ := ρ) (H := H1) e2 k1 k2
            exact ⟨by rw [q1]; exact S.len, S.nd, fun z hz => ⟨(S.dis z hz).1, (S1.dis z (List.mem_append.mpr (.inl hz))).2⟩, q2⟩
          · have r2 := rx.2
            unfold tellX at ee
            cases hf : ex.fld with
            | none =>
              rw [hf] at ee r2
              cases ee
              exact ⟨rx.1, r2⟩
            | some d =>
              obtain ⟨fn, d⟩ := d
              rw [hf] at ee r2
              simp only [Option.map_eq_some_iff] at ee
              obtain ⟨d', e1, rfl⟩ := ee
              obtain ⟨a, v, f1, f2, f3, f4⟩ := r2
              refine ⟨rx.1, a, v, f1, f2, fun m => ?_, tel d v d' f4 e1⟩
              by_cases hma : a ∈ as0
              · exact f3 (a1 a hma)
              · obtain ⟨i, hi⟩ := List.mem_iff_getElem?.mp m
                have hl : i < h.length := by rw [← S.len]; exact (List.getElem?_eq_some_iff.mp hi).1
                have q := (S.obj i h[i] a (by simp [hl]) hi).keep X1 (fun u eu => (x.keep a u hma eu).2)
                exact q.notXd f2
    · cases e
end Fw
end
section
set_option Elab.async false
set_option linter.all false
set_option maxRecDepth 100000
set_option autoImplicit false
set_option maxHeartbeats 1000000
namespace Fw
open PySem PySem.Spec PyProof.Rows L2
structure RoomG (k : Nat) (A : Around) : Prop where
  hd : A.handled = none
  dp : A.depth + k + 15 < recursionLimit
  un : A.units + 16 * k + 300 < cLine
  gd : A.guards = some []
theorem RoomG.mono' {j k : Nat} {A : Around} (r : RoomG k A) (h : j ≤ k) : RoomG j A := ⟨r.hd, by have := r.dp; omega, by have := r.un; omega, r.gd⟩
theorem RoomG.deeper' {k : Nat} {A : Around} (r : RoomG (k + 1) A) (env : Env) : RoomG k (A.deeper env) :=
  ⟨r.hd, by have := r.dp; show A.depth + 1 + k + 15 < _; omega, by have := r.un; show A.units + 3 + 16 * k + 300 < _; omega, r.gd⟩
theorem RoomG.depth {k : Nat} {A : Around} (r : RoomG k A) : A.depth < recursionLimit := by have := r.dp; omega
theorem RoomG.units {k : Nat} {A : Around} (r : RoomG k A) : A.units + 64 < cLine := by have := r.un; omega
theorem make_guards {A : Around} {C : Addr} {us : List Value} {kw : List (Str × Value)} : (A.under (.builtin "type.__call__" ⟨.ref C :: us, kw⟩)).guards = A.guards := by
  cases h : A.guards <;> first | rfl | simp [Around.under, Code.guards, Code.isGuard, guardIds, pushGuards, h]
theorem RoomG.make' {k : Nat} {A : Around} (r : RoomG (k + 1) A) (C : Addr) (us : List Value) (kw : List (Str × Value)) : RoomG k (A.under (.builtin "type.__call__" ⟨.ref C :: us, kw⟩)) :=
  ⟨r.hd, by have := r.dp; rw [make_depth]; omega, by have := r.un; rw [make_units]; omega, make_guards.trans r.gd⟩
structure FnG (P : Program) (w : World) (K : PySem.W.Frag) (mg : Str → Option Value) (base : Heap) (CX : CXT) (k : Nat) (f : Addr) (fd : FuncData) (ps : List Str) (sp : Sp) : Prop where
  len : ∀ vs H Q E, sp vs H Q E → vs.length = ps.length
  run : ∀ (A : Around) (outer : List Env) (s : Shared) (H : Hp) (args : Args) (us : List Value) (vs : List V) (Q : VK) (E : XK),
    RoomG k A → Env0 P w K mg base A outer s H → BindsTo s fd args (ps.zip us) → Vals vs us → sp vs H Q E → codeAny (model P w) A (.call (.ref f) args) (CR CX outer P w H s Q E) s
theorem FnG.imp {P : Program} {w : World} {K : PySem.W.Frag} {mg : Str → Option Value} {base : Heap} {CX : CXT} {k : Nat} {f : Addr} {fd : FuncData} {ps : List Str} {sp sp' : Sp} (F : FnG P w K mg base CX k f fd ps sp)
    (h : ∀ vs H Q E, sp' vs H Q E → sp vs H Q E) : FnG P w K mg base CX k f fd ps sp' where
  len := fun vs H Q E q => F.len vs H Q E (h _ _ _ _ q)
  run := fun A outer s H args us vs Q E hr he hb hv q => F.run A outer s H args us vs Q E hr he hb hv (h _ _ _ _ q)
theorem FnG.cx {P : Program} {w : World} {K : PySem.W.Frag} {mg : Str → Option Value} {base : Heap} {CX CX' : CXT} {k : Nat} {f : Addr} {fd : FuncData} {ps : List Str} {sp : Sp} (F : FnG P w K mg base CX k f fd ps sp)
    (h : ∀ outer H s E e s', CX outer H s E e s' → CX' outer H s E e s') : FnG P w K mg base CX' k f fd ps sp where
  len := F.len
  run := fun A outer s H args us vs Q E r b v p q => codeAny_mono (F.run A outer s H args us vs Q E r b v p q) fun r s' z => by
    cases r with
    | error e => exact h _ _ _ _ _ _ z
    | ok fl => cases fl <;> exact z
section
variable {P : Program} {w : World} {K : PySem.W.Frag} {mg : Str → Option Value} {base : Heap} {x qual : Str} {params : Arguments} {body : List Stmt} {scope : Scope} {dvs : List V} {kws : List (Str × V)} {f : Addr} {fd : FuncData}
theorem okG {CX : CXT} {N ps : List Str} {k : Nat} {sp : Sp} (F : FunD K x qual params body scope dvs kws f fd) (S : FnScope N ps scope) (len : ∀ vs H Q E, sp vs H Q E → vs.length = ps.length)
    (hbody : ∀ (cdv : Value) (A : Around) (outer : List Env) (s : Shared) (H : Hp) (vs : List V) (Q : VK) (E : XK), RoomG k (A.deeper (envOfC qual scope s.heap.objs.size f cdv)) → sp vs H Q E →
      ∃ t, PSs (cxOf CX P w K mg base N qual scope f cdv A outer s H E) body t ∧ t { nx := fun _ H' => Q .non H', rt := Q } (L2.start N vs) H) : FnG P w K mg base CX (k + 1) f fd ps sp := by
  obtain ⟨oc, od, dV, kV, doc, pm, an, cdv, ct, osl, rfl, lk, code, _, _⟩ := F.ex
  constructor
  · exact len
  intro A outer s H args us vs Q E room env bind rel want
  have many := len _ _ _ _ want
  have inK : K.In s.heap := env.mod.kin.keeps fun b o e => (env.bs b o e).1
  have nolim : s.heap.NoLimit := env.mod.nolimit.keeps fun b o e => (env.bs b o e).1
  have seen : ∀ y ∈ ps.zip us, scope.names.lookup y.1 = some .local ∨ (scope.names.lookup y.1 = some .cell ∧ ((cellsFrom (s.heap.objs.size + 1) scope.names []).lookup y.1).isSome = true) := by
    rintro ⟨m, v⟩ hy
    have hm := (List.of_mem_zip hy).1
    exact (S.par m hm).imp id fun q => ⟨q, PySem.W.cellsFrom_some _ _ _ (.inl q)⟩
  refine codeAny_call_function room.depth (inK _ _ lk) rfl S.co S.gen rfl (PySem.W.codeRec_of inK code) (bind _ _ _ _ ?_)
  refine wpAny_newFunctionEnv_cells S.kind seen fun env' he s1 ext => ?_
  subst he
  refine ⟨nolim.keeps ext.toInCall.keep, codeAny_func ?_⟩
  obtain ⟨t, rule, ask⟩ := hbody cdv A outer s H vs Q E (room.deeper' _) want
  have start := inv_start (CX := CX) (E := E) (cd := cdv) S room.hd env many rel ext
  refine wpAny_mono (rule.run [] s1 (L2.start N vs) H _ start ask) (fun fl s' e => ?_) fun _ _ e => e
  cases fl with
  | ret u =>
    obtain ⟨v, σ', H', J, rv, q⟩ := e
    exact ⟨v, H', J.os, J.bare, J.base, J.hok, rv, q⟩
  | next =>
    obtain ⟨σ', H', J, q⟩ := e
    exact ⟨.non, H', J.os, J.bare, J.base, J.hok, rfl, q⟩
  | brk => exact e.elim fun _ z => z.elim fun _ z => z.2.elim
  | cont => exact e.elim fun _ z => z.elim fun _ z => z.2.elim
end
abbrev scriptO (vs : List Value) : Obj := { cls := .type "list", data := .seq vs.toArray }
def scriptH (K : PySem.W.Frag) (a : Addr) (vs : List Value) (ns : List Int) : Hp := fun b =>
  if b = a ∧ K.lookup a = none then some (.frz (scriptO vs) (.lst (ns.map V.int))) else none
section
variable {P : Program} {w : World} {K : PySem.W.Frag} {mg mb : Str → Option Value} {CX : CXT} {k : Nat} {fa a : Addr} {fd : FuncData} {x : Str} {sp : Sp} {s₁ : Shared} {vs : List Value} {ns : List Int}
theorem scriptH_or (K : PySem.W.Frag) (a : Addr) (vs : List Value) (ns : List Int) (b : Addr) : scriptH K a vs ns b = none ∨ (b = a ∧ K.lookup a = none ∧ scriptH K a vs ns b = some (.frz (scriptO vs) (.lst (ns.map V.int)))) := by
  by_cases h : b = a ∧ K.lookup a = none
  · exact .inr ⟨h.1, h.2, if_pos h⟩
  · exact .inl (if_neg h)
theorem law_callG (KX : K.In s₁.heap) (hns : s₁.heap.Ns mainGlobals mg) (hb : s₁.heap.Ns builtinsNs mb) (hbb : ∀ x : Str, x ≠ "__name__" → mb x = bootBuiltins x) (hlim : s₁.heap.NoLimit) (hg : s₁.gens = #[])
    (ha : s₁.heap.get? a = some (scriptO vs)) (hi : IntsAre vs ns) (hl : ns.length ≤ sizeLine) (hr : RoomG k callerA)
    (F : ∀ base : Heap, K.In base → base.Ns mainGlobals mg → FnG P w K mg base CX k fa fd [x] sp) (hbind : ∀ (s : Shared) (u : Value), BindsTo s fd ⟨[u], []⟩ [(x, u)])
    (hsp : ∀ H : Hp, Only H → SqL K H a (ns.map V.int) → sp [.ref a] H (fun v _ => v = .bl true) fun _ _ _ => False)
    (hCX : ∀ H e s', CX [] H s₁ (fun _ _ _ => False) e s' → False) :
    codeAny (model P w) callerA (.call (.ref fa) ⟨[.ref a], []⟩) (fun r s' => r = .ok (.ret (.bool true)) ∧ OldK s₁.heap s'.heap ∧ s'.os = s₁.os ∧ AllBare s'.gens) s₁ := by
  let H := scriptH K a vs ns
  have or := scriptH_or K a vs ns
  have only : Only H := fun b => (or b).imp id fun h => ⟨_, _, h.2.2⟩
  have long : (ns.map V.int).length ≤ sizeLine := by rw [List.length_map]; exact hl
  have seq : SqL K H a (ns.map V.int) := by
    cases hk : K.lookup a with
    | none => exact .inl (.inr ⟨scriptO vs, if_pos ⟨rfl, hk⟩⟩)
    | some o =>
      have e := (KX a o hk).symm.trans ha
      cases e
      exact .inr ⟨scriptO vs, vs.toArray, _, hk, rfl, rfl, rfl, by rw [List.size_toArray, ← hi.length] at *; exact hl, vals_ints hi⟩
  have held : HOk P w H s₁.heap := by
    intro b u e
    rcases or b with z | ⟨rfl, _, z⟩
    · exact nomatch z.symm.trans e
    · cases z.symm.trans e
      exact ⟨ha, long, vs, _, vals_ints hi, ha⟩
  have free : ∀ {b : Addr} {o : Obj}, s₁.heap.get? b = some o → (∀ y n, o.data ≠ .seq y n) → H b = none := by
    intro b o e d
    rcases or b with z | ⟨rfl, _, _⟩
    · exact z
    · cases ha.symm.trans e
      exact absurd rfl (d _ _)
  have name : ∀ {b : Addr} {m : Str → Option Value}, s₁.heap.Ns b m → (hidT s₁.heap H).Ns b m := by
    rintro b m ⟨o, es, ep, e, d, r⟩
    refine ⟨o, es, ep, hidT_get e (free e fun y n q => ?_), d, r⟩
    rw [d] at q
    cases q
  have inK : K.In (hidT s₁.heap H) := by
    intro b o e
    refine hidT_get (KX b o e) ?_
    rcases or b with z | ⟨rfl, z, _⟩
    · exact z
    · exact nomatch z.symm.trans e
  have mod : Mod K mg (hidT s₁.heap H) := ⟨inK, name hns, ⟨mb, name hb, hbb⟩, hlim.imp fun m q => ⟨name q.1, q.2⟩⟩
  have env : Env0 P w K mg (hidT s₁.heap H) callerA [] s₁ H := {
    frames := rfl, mod := mod, bs := fun b o e => of_hidT e, bsz := Nat.le_of_eq (hidT_size _ _)
    funs := trivial, frf := fun b hb => (by cases hb), hok := held, bare := .of_eq hg }
  refine codeAny_mono ((F _ inK (name hns)).run callerA [] s₁ H ⟨[.ref a], []⟩ [.ref a] [.ref a] _ _ hr env (hbind s₁ (.ref a)) (.cons rfl .nil) (hsp H only seq)) ?_
  intro r s' z
  match r, z with
  | .error e, z => exact (hCX H e s' z).elim
  | .ok .next, z => exact z.elim
  | .ok .brk, z => exact z.elim
  | .ok .cont, z => exact z.elim
  | .ok (.ret u), ⟨v, H', os, bare, un, held', rv, q⟩ =>
    have q' : v = V.bl true := q
    subst q'
    have ru : u = Value.bool true := rv
    subst ru
    refine ⟨rfl, OldK.of_keep ?_, os, bare⟩
    intro b o e
    rcases or b with z | ⟨rfl, _, z⟩
    · exact un.keep b o e z (by intro y; cases y) (by simp)
    · have e1 := (held' _ _ (un.frzs _ _ _ z)).1
      cases ha.symm.trans e
      exact e1
theorem walk_ofG {l : PySem.W.OpenLaw} {n : Nat} {q : Program} {loose : List Str} {XP : (Str → Option Value) → Heap → Prop} {YP : World → Heap → Prop} {d : DefRec} (hn : l.most = some n) (hn2 : n ≤ sizeLine) (hdf : d.params.defaults = []) (hr : RoomG k callerA)
    (F : ∀ (w : World) (mg : Str → Option Value) (fa : Addr) (h : Heap), YP w h → h.Ns mainGlobals mg → mg d.name = some (.ref fa) →
      ∃ (K : PySem.W.Frag) (fd : FuncData) (sp : Sp), K.In h ∧ (∀ (s : Shared) (u : Value), BindsTo s fd ⟨[u], []⟩ [(x, u)]) ∧
        (∀ (H : Hp) (a : Addr) (ns : List Int), ns.length ≤ n → Only H → SqL K H a (ns.map V.int) → sp [.ref a] H (fun v _ => v = .bl true) fun _ _ _ => False) ∧
        ∀ base : Heap, K.In base → base.Ns mainGlobals mg → FnG l.prog w K mg base CX k fa fd [x] sp)
    (hCX : ∀ (H : Hp) (s : Shared) (e : Value) (s' : Shared), CX [] H s (fun _ _ _ => False) e s' → False) : PySem.W.WalkO q loose XP YP l.row.toRowW d [] (fun f vs => PySem.call f vs) := by
  refine Att.attach_call hn hdf ?_
  intro w s₀ s₁ mg mb fa o pm cd doc a vs ns G Y _ _ _ hmg hobj hints many hg
  obtain ⟨K, fd, sp, KX, bind, promise, hF⟩ := F w mg fa _ Y G.T.g hmg
  exact law_callG KX G.T.g G.T.b G.T.builtins G.T.nolimit hg hobj hints (Nat.le_trans many hn2) hr hF bind (fun H only seq => promise H a ns many only seq) (fun H e s' => hCX H s₁ e s')
end
end Fw
end
section
set_option Elab.async false
set_option linter.all false
set_option maxRecDepth 100000
set_option autoImplicit false
set_option maxHeartbeats 1000000
namespace Fw
open PySem PySem.Spec PyProof.Rows L2
def spF (W : Wd) (r : List D → Hh → R D) : Sp := fun vs H Q E => ∃ Z ρ h ds, Sim W Z ρ h H ∧ RDs W Z ρ H ds vs ∧ Post W Z ρ H (r ds h) (fun d ρ' _ H' => ∀ v, RD W Z ρ' H' d v → Q v H') E
def spM (W : Wd) (c : Nat) (r : List D → Hh → R D) : Sp := fun vs H Q E => ∃ x dx us H0, vs = .ref x :: us ∧ H0 x = none ∧ H0 dx = none ∧ dx ≠ x ∧ H = upd (upd H0 dx (.own x)) x (.ins (W.ca c) dx []) ∧
  ∃ Z ρ h ds, Sim W Z ρ h H0 ∧ RDs W Z ρ H0 ds us ∧ Post W Z ρ H0 (r ds h) (fun d ρ' _ H' => RD W Z ρ' H' d (.ref x) → Q .non H') E
section
variable {W : Wd} {Z ρ : List Addr} {H : Hp}
theorem rsg_start {N : List Str} {ds : List D} {vs : List V} (r : RDs W Z ρ H ds vs) : RSg W Z ρ H (startD N.length ds) (L2.start N vs) where
  len := by simp [startD, L2.start, r.length]
  at_ := fun i d e => by
    unfold startD at e
    by_cases hi : i < (ds.map some).length
    · rw [List.getElem?_append_left hi, List.getElem?_map] at e
      cases ed : ds[i]? with
      | none => rw [ed] at e; cases e
      | some d' =>
        rw [ed] at e
        cases e
        obtain ⟨v, ev, rv⟩ := r.get ed
        refine ⟨v, ?_, rv⟩
        unfold L2.start
        rw [List.getElem?_append_left (by simpa [← r.length] using hi), List.getElem?_map, ev]
        rfl
    · rw [List.getElem?_append_right (by omega)] at e
      have := List.mem_of_getElem? e
      simp at this
theorem back_post {Z' as : List Addr} {ns : List Nat} {h : Hh} {r : SR} {Q : VK} {E : XK}
    (f : ∀ (ρ1 : List Addr) (H1 : Hp) (h1 : Hh), Ext as H ρ1 H1 → Sim W Z' ρ1 h1 H1 →
        (∀ h2, giveBack h1 ns.length ns 0 h = some h2 → Ext ρ H ρ H1 ∧ Sim W Z ρ h2 H1) ∧
        (∀ d v d', RD W Z' ρ1 H1 d v → tell h1 ns d = some d' → RD W Z ρ H1 d' v) ∧
        (∀ x x' cls dd, RX W Z' ρ1 H1 x cls dd → tellX h1 ns x = some x' → RX W Z ρ H1 x' cls dd))
    (p : Post W Z ρ H (back ns h r) (fun d ρ' _ H' => ∀ v, RD W Z ρ' H' d v → Q v H') E) :
    PostS W Z' as H r { nx := fun _ H' => Q .non H', rt := Q } (fun cls d _ H => E cls d H) := by
  cases r with
  | nx σ h1 =>
    intro ρ1 H1 σ' x S1 _
    obtain ⟨f1, f2, f3⟩ := f ρ1 H1 h1 x S1
    simp only [back] at p
    cases hg : giveBack h1 ns.length ns 0 h with
    | none => rw [hg] at p; exact p.elim
    | some h2 =>
      rw [hg] at p
      obtain ⟨x2, S2⟩ := f1 h2 hg
      exact p ρ H1 x2 S2 .non .non
  | rt d h1 =>
    intro ρ1 H1 v x S1 rv
    obtain ⟨f1, f2, f3⟩ := f ρ1 H1 h1 x S1
    simp only [back] at p
    cases ht : tell h1 ns d with
    | none => rw [ht] at p; exact p.elim
    | some d' =>
      cases hg : giveBack h1 ns.length ns 0 h with
      | none => rw [ht, hg] at p; exact p.elim
      | some h2 =>
        rw [ht, hg] at p
        obtain ⟨x2, S2⟩ := f1 h2 hg
        exact p ρ H1 x2 S2 v (f2 d v d' rv ht)
  | xn e σ h1 =>
    intro ρ1 H1 σ' cls dd x S1 _ rx
    obtain ⟨f1, f2, f3⟩ := f ρ1 H1 h1 x S1
    simp only [back] at p
    cases ht : tellX h1 ns e with
    | none => rw [ht] at p; exact p.elim
    | some d' =>
      cases hg : giveBack h1 ns.length ns 0 h with
      | none => rw [ht, hg] at p; exact p.elim
      | some h2 =>
        rw [ht, hg] at p
        obtain ⟨x2, S2⟩ := f1 h2 hg
        exact p ρ H1 cls dd x2 S2 (f3 e d' cls dd rx ht)
  | bk σ h1 => exact p.elim
  | ct σ h1 => exact p.elim
  | bad => exact p.elim
theorem mkBack_post {Z' as : List Addr} {ns : List Nat} {h : Hh} {r : SR} {Q : VK} {E : XK} {x : Addr} {H0 : Hp} (hx : as[ns.length]? = some x)
    (f : ∀ (ρ1 : List Addr) (H1 : Hp) (h1 : Hh), Ext as H ρ1 H1 → Sim W Z' ρ1 h1 H1 →
        (∀ h2, giveBack h1 ns.length ns 0 h = some h2 → Ext ρ H0 ρ H1 ∧ Sim W Z ρ h2 H1) ∧
        (∀ d v d', RD W Z' ρ1 H1 d v → tell h1 ns d = some d' → RD W Z ρ H1 d' v) ∧
        (∀ x x' cls dd, RX W Z' ρ1 H1 x cls dd → tellX h1 ns x = some x' → RX W Z ρ H1 x' cls dd))
    (p : Post W Z ρ H0 (mkBack ns h r) (fun d ρ' _ H' => RD W Z ρ' H' d (.ref x) → Q .non H') E) :
    PostS W Z' as H r { nx := fun _ H' => Q .non H', rt := Q } (fun cls d _ H => E cls d H) := by
  cases r with
  | nx σ h1 =>
    intro ρ1 H1 σ' y S1 _
    obtain ⟨f1, f2, f3⟩ := f ρ1 H1 h1 y S1
    simp only [mkBack, back] at p
    cases ht : tell h1 ns (.ref ns.length) with
    | none => rw [ht] at p; exact p.elim
    | some d' =>
      cases hg : giveBack h1 ns.length ns 0 h with
      | none => rw [ht, hg] at p; exact p.elim
      | some h2 =>
        rw [ht, hg] at p
        obtain ⟨x2, S2⟩ := f1 h2 hg
        exact p ρ H1 x2 S2 (f2 _ _ d' (.ref (pre_get y.pre hx)) ht)
  | rt d h1 =>
    intro ρ1 H1 v y S1 rv
    obtain ⟨f1, f2, f3⟩ := f ρ1 H1 h1 y S1
    cases d <;> first | (exact p.elim) | skip
    cases rv
    simp only [mkBack, back] at p
    cases ht : tell h1 ns (.ref ns.length) with
    | none => rw [ht] at p; exact p.elim
    | some d' =>
      cases hg : giveBack h1 ns.length ns 0 h with
      | none => rw [ht, hg] at p; exact p.elim
      | some h2 =>
        rw [ht, hg] at p
        obtain ⟨x2, S2⟩ := f1 h2 hg
        exact p ρ H1 x2 S2 (f2 _ _ d' (.ref (pre_get y.pre hx)) ht)
  | xn e σ h1 =>
    intro ρ1 H1 σ' cls dd y S1 _ rx
    obtain ⟨f1, f2, f3⟩ := f ρ1 H1 h1 y S1
    simp only [mkBack, back] at p
    cases ht : tellX h1 ns e with
    | none => rw [ht] at p; exact p.elim
    | some d' =>
      cases hg : giveBack h1 ns.length ns 0 h with
      | none => rw [ht, hg] at p; exact p.elim
      | some h2 =>
        rw [ht, hg] at p
        obtain ⟨x2, S2⟩ := f1 h2 hg
        exact p ρ H1 cls dd x2 S2 (f3 e d' cls dd rx ht)
  | bk σ h1 => exact p.elim
  | ct σ h1 => exact p.elim
  | bad => exact p.elim
theorem own_len {N : List Str} {sm : SM} {n : Nat} {vs : List V} {Q : VK} {E : XK} (p : spF W (own n N.length sm) vs H Q E) : vs.length = n := by
  obtain ⟨Z, ρ, h, ds, S, r, p⟩ := p
  unfold own at p
  split at p
  · rename_i hl; rw [← r.length]; exact hl
  · exact p.elim
theorem make_len {N : List Str} {sm : SM} {n c : Nat} {vs : List V} {Q : VK} {E : XK} (p : spM W c (make c n N.length sm) vs H Q E) : vs.length = n := by
  obtain ⟨x, dx, us, H0, rfl, _, _, _, _, Z, ρ, h, ds, S, r, p⟩ := p
  unfold make at p
  split at p
  · rename_i hl; rw [← hl, r.length]; rfl
  · exact p.elim
theorem full_len {N : List Str} {sm : SM} {n : Nat} {vs : List V} {Q : VK} {E : XK} (p : spF W (full n N.length sm) vs H Q E) : vs.length = n := by
  obtain ⟨Z, ρ, h, ds, S, r, p⟩ := p
  unfold full at p
  split at p
  · rename_i hl; rw [← r.length]; exact hl
  · exact p.elim
theorem own_read {N : List Str} {sm : SM} {n : Nat} {vs : List V} {Q : VK} {E : XK} (p : spF W (own n N.length sm) vs H Q E) :
    tS W (fun cls d _ H => E cls d H) sm { nx := fun _ H' => Q .non H', rt := Q } (L2.start N vs) H := by
  obtain ⟨Z, ρ, h, ds, S, r, p⟩ := p
  unfold own at p
  split at p
  case isFalse => exact p.elim
  cases hl : lent ds h with
  | none => rw [hl] at p; exact p.elim
  | some q =>
    obtain ⟨ds', ns, hc⟩ := q
    rw [hl] at p
    obtain ⟨Z', as, la, S', r', _, f⟩ := lent_ok S r hl
    exact ⟨Z', as, startD N.length ds', hc, S', rsg_start r', back_post f p⟩
theorem make_read {N : List Str} {sm : SM} {n c : Nat} {vs : List V} {Q : VK} {E : XK} (p : spM W c (make c n N.length sm) vs H Q E) :
    tS W (fun cls d _ H => E cls d H) sm { nx := fun _ H' => Q .non H', rt := Q } (L2.start N vs) H := by
  obtain ⟨x, dx, us, H0, rfl, hx, hdx, hne, rfl, Z, ρ, h, ds, S, r, p⟩ := p
  unfold make at p
  split at p
  case isFalse => exact p.elim
  cases hl : lent ds h with
  | none => rw [hl] at p; exact p.elim
  | some q =>
    obtain ⟨ds', ns, hc⟩ := q
    rw [hl] at p
    obtain ⟨Z', as, la, S', r', nn, f⟩ := lent_ok S r hl
    have n1 : upd H0 dx (.own x) x = none := by rw [upd_ne (Ne.symm hne)]; exact hx
    have S1 : Sim W Z' as hc (upd H0 dx (.own x)) := S'.laid hdx
    have x1 : Ext as H0 as (upd H0 dx (.own x)) := Ext.laid hdx
    have x2 : Ext as (upd H0 dx (.own x)) (as ++ [x]) (upd (upd H0 dx (.own x)) x (.ins (W.ca c) dx [])) := Ext.own n1
    have S2 := S1.own (o := .ins (W.ca c) dx []) (ob := .ins c []) n1 (.ins upd_same .nil)
    refine ⟨Z', as ++ [x], startD N.length (.ref ns.length :: ds'), hc ++ [.ins c []], S2, rsg_start (.cons (.ref (by rw [← la]; simp)) ((r'.mono x1).mono x2)), ?_⟩
    have xx := x1.trans x2
    exact mkBack_post (Z := Z) (ρ := ρ) (H0 := H0) (by rw [← la]; simp) (fun ρ1 H1 h1 y Sy => f ρ1 H1 h1 (xx.trans y) Sy) p
end
section
variable {P : Program} {w : World} {K : PySem.W.Frag} {mg : Str → Option Value} {base : Heap} {x qual : Str} {params : Arguments} {body : List Stmt} {scope : Scope} {dvs : List V} {kws : List (Str × V)} {f : Addr} {fd : FuncData} {N ps : List Str} {k : Nat} {W : Wd} {sm : SM}
theorem js_of {cdv : Value} {A : Around} {outer : List Env} {s : Shared} {H : Hp} {E : XK} (hK : K = W.K) (hN : N.Nodup) (r : RoomG k (A.deeper (envOfC qual scope s.heap.objs.size f cdv))) :
    Js (cxOf (L2.CX P w) P w K mg base N qual scope f cdv A outer s H E) W (fun cls d _ H => E cls d H) where
  hK := hK
  hu := r.units
  hu2 := by
    have := r.un
    show (A.deeper (envOfC qual scope s.heap.objs.size f cdv)).units + 190 < cLine
    omega
  gd := r.gd
  tk := takes_of rfl rfl rfl rfl
  hN := hN
  hc := rfl
  hp := passes_of rfl
theorem fn_own (F : FunD K x qual params body scope dvs kws f fd) (S : FnScope N ps scope) (hK : K = W.K)
    (hb : ∀ (cdv : Value) (A : Around) (outer : List Env) (s : Shared) (H : Hp) (E : XK), RoomG k (A.deeper (envOfC qual scope s.heap.objs.size f cdv)) →
      SsJ (cxOf (L2.CX P w) P w K mg base N qual scope f cdv A outer s H E) W (fun cls d _ H => E cls d H) body sm) :
    FnG P w K mg base (L2.CX P w) (k + 1) f fd ps (spF W (own ps.length N.length sm)) :=
  okG F S (fun vs H Q E p => own_len p) fun cdv A outer s H vs Q E r p => ⟨_, hb cdv A outer s H E r, own_read p⟩
theorem fn_make {c : Nat} (F : FunD K x qual params body scope dvs kws f fd) (S : FnScope N ps scope) (hK : K = W.K)
    (hb : ∀ (cdv : Value) (A : Around) (outer : List Env) (s : Shared) (H : Hp) (E : XK), RoomG k (A.deeper (envOfC qual scope s.heap.objs.size f cdv)) →
      SsJ (cxOf (L2.CX P w) P w K mg base N qual scope f cdv A outer s H E) W (fun cls d _ H => E cls d H) body sm) :
    FnG P w K mg base (L2.CX P w) (k + 1) f fd ps (spM W c (make c ps.length N.length sm)) :=
  okG F S (fun vs H Q E p => make_len p) fun cdv A outer s H vs Q E r p => ⟨_, hb cdv A outer s H E r, make_read p⟩
theorem full_read {n : Nat} {vs : List V} {H : Hp} {Q : VK} {E : XK} (p : spF W (full n N.length sm) vs H Q E) :
    tS W (fun cls d _ H => E cls d H) sm { nx := fun _ H' => Q .non H', rt := Q } (L2.start N vs) H := by
  obtain ⟨Z, ρ, h, ds, S, r, p⟩ := p
  refine ⟨Z, ρ, startD N.length ds, h, S, rsg_start r, ?_⟩
  unfold full at p
  split at p
  case isFalse => exact p.elim
  cases hs : sm (startD N.length ds) h with
  | nx σ h1 => rw [hs] at p; exact fun ρ' H' σ' x S' _ => p ρ' H' x S' .non .non
  | rt d h1 => rw [hs] at p; exact fun ρ' H' v x S' rv => p ρ' H' x S' v rv
  | xn e σ h1 => rw [hs] at p; exact fun ρ' H' σ' cls dd x S' _ rx => p ρ' H' cls dd x S' rx
  | bk σ h1 => rw [hs] at p; exact p.elim
  | ct σ h1 => rw [hs] at p; exact p.elim
  | bad => rw [hs] at p; exact p.elim
theorem fn_full (F : FunD K x qual params body scope dvs kws f fd) (S : FnScope N ps scope) (hK : K = W.K)
    (hb : ∀ (cdv : Value) (A : Around) (outer : List Env) (s : Shared) (H : Hp) (E : XK), RoomG k (A.deeper (envOfC qual scope s.heap.objs.size f cdv)) →
      SsJ (cxOf (L2.CX P w) P w K mg base N qual scope f cdv A outer s H E) W (fun cls d _ H => E cls d H) body sm) :
    FnG P w K mg base (L2.CX P w) (k + 1) f fd ps (spF W (full ps.length N.length sm)) :=
  okG F S (fun vs H Q E p => full_len p) fun cdv A outer s H vs Q E r p => ⟨_, hb cdv A outer s H E r, full_read p⟩
end
section
variable {X : Cx} {k : Nat} {f C : Addr} {fd : FuncData} {ps : List Str} {sp : Sp} {E : XK}
theorem run_at {pins : List (Addr × Obj)} {σ : L2.St} {H : Hp} {s : Shared} {Q : VK} {us : List Value} {kw : List (Str × Value)} {all : List Value} {vs : List V} (F : FnG X.prog X.w X.K X.mg X.base (L2.CX X.prog X.w) k f fd ps sp) (hr : RoomG k X.A)
    (hx : PassesAt (L2.CX X.prog X.w) X σ E) (I : Inv X pins σ H s) (hb : BindsTo s fd ⟨us, kw⟩ (ps.zip all)) (r : Vals vs all) (h : sp vs H Q E) : wpAny (model X.prog X.w) X.A (call (.ref f) us kw) (EP X pins σ Q) X.xe s := by
  refine wpAny_call (codeAny_mono (F.run X.A X.stack s H ⟨us, kw⟩ all vs Q E hr I.env0 hb r h) fun r s' hq => ?_)
  cases r with
  | error e => exact hx pins H s e s' I hq
  | ok fl =>
    cases fl with
    | ret u => exact I.after hq
    | next => exact False.elim hq
    | brk => exact False.elim hq
    | cont => exact False.elim hq
theorem make_at {pins : List (Addr × Obj)} {σ : L2.St} {H : Hp} {s : Shared} {Q : VK} {us : List Value} {kw : List (Str × Value)} {all : List Value} {vs : List V} (M : Mk X.K C f) (F : FnG X.prog X.w X.K X.mg X.base (L2.CX X.prog X.w) k f fd ps sp) (hr : RoomG (k + 1) X.A)
    (hx : PassesAt (L2.CX X.prog X.w) X σ E) (I : Inv X pins σ H s) (hb : ∀ (s : Shared) (v : Value), X.K.In s.heap → BindsTo s fd ⟨v :: us, kw⟩ (ps.zip (v :: all))) (r : Vals vs all)
    (h : ∀ x dx, H x = none → H dx = none → dx ≠ x → sp (.ref x :: vs) (upd (upd H dx (.own x)) x (.ins C dx [])) (fun v H2 => v = .non ∧ Q (.ref x) H2) E) :
    wpAny (model X.prog X.w) X.A (call (.ref C) us kw) (EP X pins σ Q) X.xe s := by
  have hq := h (s.heap.objs.size + 1) s.heap.objs.size (I.hok.fresh (Nat.le_succ _)) (I.hok.fresh (Nat.le_refl _)) (Nat.ne_of_lt (Nat.lt_succ_self _))
  have I2 := Inv.made (C := C) I
  refine wpAny_call (make_map (f := f) I.kIn M.makes M.init (beq_iff_eq.mp M.fn) (codeAny_mono (F.run _ X.stack _ _ ⟨Value.ref (s.heap.objs.size + 1) :: us, kw⟩ (Value.ref (s.heap.objs.size + 1) :: all) _ _ E (hr.make' C us kw)
    (I2.env0.make C us kw) (hb _ _ I2.kIn) (Paired.cons (show RelV (.ref (s.heap.objs.size + 1)) (Value.ref (s.heap.objs.size + 1)) from rfl) r) hq) fun r s' hq' => ?_))
  cases r with
  | error e => exact hx pins _ _ e s' I2 hq'
  | ok fl =>
    cases fl with
    | ret u =>
      obtain ⟨v, H', I3, rv, ev, q3⟩ := I2.after hq'
      subst ev
      exact ⟨rv, ⟨V.ref (s.heap.objs.size + 1), H', I3, rfl, q3⟩⟩
    | next => exact False.elim hq'
    | brk => exact False.elim hq'
    | cont => exact False.elim hq'
end
section
variable {X : Cx} {W : Wd} {wx : WX} {k : Nat} {f C : Addr} {fd : FuncData} {ps : List Str} {r : List D → Hh → R D} {x : Str} {p pos : Pos} {e : Expr} {es : List Expr} {fs : AM} {dds : List D} {dvs : List V} {ds : List Value} {n : Nat}
def Dfl (W : Wd) (dds : List D) (dvs : List V) : Prop := ∀ Z ρ H, RDs W Z ρ H dds dvs
theorem dfl_nil : Dfl W [] [] := fun _ _ _ => .nil
theorem ej_call (J : Jc X W wx) (F : FnG X.prog X.w X.K X.mg X.base (L2.CX X.prog X.w) k f fd ps (spF W r)) (hr : RoomG k X.A) (hg : Gl X x) (hm : X.mg x = some (.ref f)) (hk : PySem.W.keepIn X.K (.ref f) = true) (hb : Binds X.K fd ps ds) (hd : Vals dvs ds) (hdd : Dfl W dds dvs)
    (ha : AJ X W wx (e :: es) fs) (hdb : (x == ("__debug__" : Str)) = false := by decide) (he : starEach (e :: es) X.env = (false, eval e X.env) :: starEach es X.env := by rfl) (hpl : (backTo pos (starEach es X.env)).any (·.1) = false := by rfl) :
    EJ X W wx (.Call (.Name x p) (e :: es) [] pos) (eCall (fun ds h => r (ds ++ dds) h) fs) := by
  refine ⟨fun pins s σ H Q I ⟨Z, ρ, σd, h0, S, rs, pp⟩ => ?_⟩
  refine wpAny_Call_Name_kw (ld_glob I hg hm ?_ hdb)
  refine PySem.W.callWith_K (h₀ := X.base) I.ok.mod.kin hk (thn (ha.run pos pins s σ H (fun vs H1 => spF W r (vs ++ dvs) H1 Q fun cls dd H => wx cls dd σ H) I ⟨Z, ρ, σd, h0, S, rs, (Post.bind pp).imp fun ds1 ρ1 h1 H1 x1 S1 p1 vs rvs => ?_⟩) fun us s1 ⟨vs, H1, I1, rv, q⟩ => ⟨I1.kIn, ?_⟩) he hpl
  · exact ⟨Z, ρ1, h1, ds1 ++ dds, S1, rvs.append (hdd Z ρ1 H1), p1⟩
  · have rv2 := rv.append hd
    exact run_at F hr (passAt J.tk σ) I1 (hb s1 us I1.kIn (by rw [← rv2.length]; exact F.len _ _ _ _ q)) rv2 q
section
variable {m : Str} {apos : Pos} {o : Expr} {fo : TM} {cls : Nat}
theorem asObj_ok {Z ρ : List Addr} {h : Hh} {H : Hp} {d : D} {v : V} {c : Nat} {fs : List (Nat × D)} (S : Sim W Z ρ h H) (r : RD W Z ρ H d v) (e : asObj h d = some (c, fs)) : ∃ a dx gs, v = .ref a ∧ H a = some (.ins (W.ca c) dx gs) ∧ RFs W Z ρ H fs gs := by
  cases r <;> simp only [asObj] at e
  case obj a dx c' fs' gs z ra q t => cases e; exact ⟨_, _, _, rfl, q, t⟩
  case ref a n en =>
    cases eo : h[n]? with
    | none => rw [eo] at e; cases e
    | some o =>
      rw [eo] at e
      have q := S.obj n o a eo en
      cases o <;> dsimp only at e <;> cases e
      cases q with | ins q t => exact ⟨_, _, _, rfl, q, t⟩
  all_goals cases e
theorem rfs_none {Z ρ : List Addr} {H : Hp} {m : Str} (hm : ∀ k, W.an k ≠ m) : ∀ {fs : List (Nat × D)} {gs : List (Str × V)}, RFs W Z ρ H fs gs → gs.lookup m = none := by
  intro fs
  induction fs with
  | nil => intro gs r; cases r; rfl
  | cons q fs ih =>
    intro gs r
    cases r with
    | cons r t =>
      rw [List.lookup_cons, beq_eq_false_iff_ne.mpr fun e => hm _ e.symm]
      exact ih t
theorem ej_meth {pl : Sem Bool} (J : Jc X W wx) (ho : EJ X W wx o fo) (c : Cls X.K (W.ca cls)) (hm : Meth X.K (W.ca cls) m f) (hnm : ∀ k, W.an k ≠ m) (F : FnG X.prog X.w X.K X.mg X.base (L2.CX X.prog X.w) k f fd ps (spF W r)) (hr : RoomG k X.A) (hb : Binds X.K fd ps ds) (hd : Vals dvs ds) (hdd : Dfl W dds dvs)
    (ha : AJ X W wx (e :: es) fs) (hst : starEach (e :: es) X.env = (false, eval e X.env) :: starEach es X.env := by rfl) (hpl : (backTo pos (starEach es X.env)).any (·.1) = false := by rfl)
    (ht : eval (.Call (.Attribute o m apos) (e :: es) [] pos) X.env = (do
      let ov ← eval o X.env
      standAt apos.atName
      let (f, first) ← holding [ov] (getMethod ov m pl)
      callWith pos f first (backTo pos (starEach (e :: es) X.env)) (backToKw pos (keywordEach [] X.env))) := by rfl) :
    EJ X W wx (.Call (.Attribute o m apos) (e :: es) [] pos) (eMeth (fun ds h => r (ds ++ dds) h) cls fo fs) := by
  refine ⟨fun pins s σ H Q I ⟨Z, ρ, σd, h0, S, rs, pp⟩ => ?_⟩
  refine PySem.W.methodCall_KW (pl := pl) (thn (ho.run pins s σ H (fun x H1 => ∃ a dx gs, x = .ref a ∧ H1 a = some (.ins (W.ca cls) dx gs) ∧ gs.lookup m = none ∧ tA W wx fs σ H1 fun vs H2 => spF W r (x :: (vs ++ dvs)) H2 Q fun cls dd H => wx cls dd σ H) I
    ⟨Z, ρ, σd, h0, S, rs, (Post.bind pp).imp fun d ρ1 h1 H1 x1 S1 p1 v rv => ?_⟩) fun u s1 ⟨x, H1, I1, rx, a, dx, gs, ex, ea, l, q⟩ => ?_) ht
  · cases ho : asObj h1 d with
    | none => rw [ho] at p1; exact p1.elim
    | some q =>
      obtain ⟨c1, fs1⟩ := q
      rw [ho] at p1
      dsimp only at p1
      split at p1
      · rename_i hc1
        subst hc1
        obtain ⟨a, dx, gs, e1, e2, e3⟩ := asObj_ok S1 rv ho
        exact ⟨a, dx, gs, e1, e2, rfs_none hnm e3, Z, ρ1, σd, h1, S1, rs.mono x1, (Post.bind p1).imp fun ds2 ρ2 h2 H2 x2 S2 p2 vs rvs =>
          ⟨Z, ρ2, h2, d :: (ds2 ++ dds), S2, .cons (rv.mono x2) (rvs.append (hdd Z ρ2 H2)), p2⟩⟩
      · exact p1.elim
  · subst ex
    obtain rfl : u = Value.ref a := rx
    refine getmeth_ok I1 ea c hm l ?_
    refine PySem.W.callWith_K (first := [.ref a]) (h₀ := X.base) I.ok.mod.kin hm.kp (thn (ha.run pos pins s1 σ H1 _ I1 q) fun us s2 ⟨vs, H2, I2, rv, q2⟩ => ⟨I2.kIn, ?_⟩) hst hpl
    have rv2 : Vals (V.ref a :: (vs ++ dvs)) (Value.ref a :: us ++ ds) := .cons rfl (rv.append hd)
    exact run_at F hr (passAt J.tk σ) I2 (hb s2 (Value.ref a :: us) I2.kIn (by rw [← rv2.length]; exact F.len _ _ _ _ q2)) rv2 q2
theorem ej_meth0 {pl : Sem Bool} (J : Jc X W wx) (ho : EJ X W wx o fo) (c : Cls X.K (W.ca cls)) (hm : Meth X.K (W.ca cls) m f) (hnm : ∀ k, W.an k ≠ m) (F : FnG X.prog X.w X.K X.mg X.base (L2.CX X.prog X.w) k f fd ps (spF W r)) (hr : RoomG k X.A) (hb : Binds X.K fd ps ds) (hd : Vals dvs ds) (hdd : Dfl W dds dvs)
    (ht : eval (.Call (.Attribute o m apos) [] [] pos) X.env = (do
      let ov ← eval o X.env
      standAt apos.atName
      let (f, first) ← holding [ov] (getMethod ov m pl)
      callWith pos f first (backTo pos (starEach [] X.env)) (backToKw pos (keywordEach [] X.env))) := by rfl) :
    EJ X W wx (.Call (.Attribute o m apos) [] [] pos) (eMeth (fun ds h => r (ds ++ dds) h) cls fo aNil) := by
  refine ⟨fun pins s σ H Q I ⟨Z, ρ, σd, h0, S, rs, pp⟩ => ?_⟩
  refine PySem.W.methodCall_KW (pl := pl) (thn (ho.run pins s σ H (fun x H1 => ∃ a dx gs, x = .ref a ∧ H1 a = some (.ins (W.ca cls) dx gs) ∧ gs.lookup m = none ∧ spF W r (x :: ([] ++ dvs)) H1 Q fun cls dd H => wx cls dd σ H) I
    ⟨Z, ρ, σd, h0, S, rs, (Post.bind pp).imp fun d ρ1 h1 H1 x1 S1 p1 v rv => ?_⟩) fun u s1 ⟨x, H1, I1, rx, a, dx, gs, ex, ea, l, q⟩ => ?_) ht
  · cases ho : asObj h1 d with
    | none => rw [ho] at p1; exact p1.elim
    | some q =>
      obtain ⟨c1, fs1⟩ := q
      rw [ho] at p1
      dsimp only at p1
      split at p1
      · rename_i hc1
        subst hc1
        obtain ⟨a, dx, gs, e1, e2, e3⟩ := asObj_ok S1 rv ho
        exact ⟨a, dx, gs, e1, e2, rfs_none hnm e3, Z, ρ1, h1, d :: ([] ++ dds), S1, .cons rv (RDs.append .nil (hdd Z ρ1 H1)), p1⟩
      · exact p1.elim
  · subst ex
    obtain rfl : u = Value.ref a := rx
    refine getmeth_ok I1 ea c hm l ?_
    have rv2 : Vals (V.ref a :: ([] ++ dvs)) ([Value.ref a] ++ ds) := .cons rfl hd
    exact PySem.W.callWith_K0 (first := [.ref a]) I1.kIn hm.kp (run_at F hr (passAt J.tk σ) I1 (hb s1 [Value.ref a] I1.kIn (by rw [← rv2.length]; exact F.len _ _ _ _ q)) rv2 q)
theorem spM_of {r : List D → Hh → R D} {Z ρ : List Addr} {h : Hh} {H : Hp} {ds : List D} {vs : List V} {Q : VK} {E : XK} (S : Sim W Z ρ h H) (rv : RDs W Z ρ H ds vs) (p : Post W Z ρ H (r ds h) (fun d ρ' _ H' => ∀ v, RD W Z ρ' H' d v → Q v H') E) :
    ∀ x dx, H x = none → H dx = none → dx ≠ x → spM W cls r (.ref x :: vs) (upd (upd H dx (.own x)) x (.ins (W.ca cls) dx [])) (fun v H2 => v = .non ∧ Q (.ref x) H2) E :=
  fun x dx hx hdx hne => ⟨x, dx, vs, H, rfl, hx, hdx, hne, rfl, Z, ρ, h, ds, S, rv, p.imp fun d ρ' h' H' x' S' q rv => ⟨rfl, q _ rv⟩⟩
theorem ej_make (J : Jc X W wx) (M : Mk X.K (W.ca cls) f) (F : FnG X.prog X.w X.K X.mg X.base (L2.CX X.prog X.w) k f fd ps (spM W cls r)) (hr : RoomG (k + 1) X.A) (hg : Gl X x) (hm : X.mg x = some (.ref (W.ca cls))) (hb : Binds X.K fd ps ds) (hd : Vals dvs ds) (hdd : Dfl W dds dvs)
    (ha : AJ X W wx (e :: es) fs) (hdb : (x == ("__debug__" : Str)) = false := by decide) (he : starEach (e :: es) X.env = (false, eval e X.env) :: starEach es X.env := by rfl) (hpl : (backTo pos (starEach es X.env)).any (·.1) = false := by rfl) :
    EJ X W wx (.Call (.Name x p) (e :: es) [] pos) (eCall (fun ds h => r (ds ++ dds) h) fs) := by
  refine ⟨fun pins s σ H Q I ⟨Z, ρ, σd, h0, S, rs, pp⟩ => ?_⟩
  refine wpAny_Call_Name_kw (ld_glob I hg hm ?_ hdb)
  refine PySem.W.callWith_K (h₀ := X.base) I.ok.mod.kin M.kp (thn (ha.run pos pins s σ H (fun vs H1 => ∀ x dx, H1 x = none → H1 dx = none → dx ≠ x → spM W cls r (.ref x :: (vs ++ dvs)) (upd (upd H1 dx (.own x)) x (.ins (W.ca cls) dx [])) (fun v H2 => v = .non ∧ Q (.ref x) H2) fun cls dd H => wx cls dd σ H) I
    ⟨Z, ρ, σd, h0, S, rs, (Post.bind pp).imp fun ds1 ρ1 h1 H1 x1 S1 p1 vs rvs => ?_⟩) fun us s1 ⟨vs, H1, I1, rv, q⟩ => ⟨I1.kIn, ?_⟩) he hpl
  · exact spM_of S1 (rvs.append (hdd Z ρ1 H1)) p1
  · have rv2 := rv.append hd
    have hl : ∀ v : Value, (v :: us ++ ds).length = ps.length := fun v => by
      have y := F.len _ _ _ _ (q (s1.heap.objs.size + 1) s1.heap.objs.size (I1.hok.fresh (Nat.le_succ _)) (I1.hok.fresh (Nat.le_refl _)) (Nat.ne_of_lt (Nat.lt_succ_self _)))
      have z := rv2.length
      simp only [List.length_cons] at y ⊢
      rw [← y, z]
      rfl
    exact make_at M F hr (passAt J.tk σ) I1 (fun s v hk => hb s (v :: us) hk (hl v)) rv2 q
end
abbrev KJ (X : Cx) (W : Wd) (wx : WX) (kws : List Keyword) (f : AM) : Prop := PK X kws (tA W wx f)
theorem kj_nil : KJ X W wx [] aNil := ⟨fun pos pins s σ H Q I ⟨Z, ρ, σd, h0, S, rs, p⟩ => pk_nil.run pos pins s σ H Q I (post_now S p [] .nil)⟩
theorem kj_cons {f : TM} {kws : List Keyword} {nm : Option Str} {kpos : Pos} (ha : EJ X W wx e f) (hr : KJ X W wx kws fs) : KJ X W wx (⟨nm, e, kpos⟩ :: kws) (aCons f fs) :=
  ⟨fun pos pins s σ H Q I ⟨Z, ρ, σd, h0, S, rs, p⟩ => (pk_cons ha hr).run pos pins s σ H Q I
    ⟨Z, ρ, σd, h0, S, rs, (Post.bind p).imp fun d ρ1 h1 H1 x1 S1 p1 v rv =>
      ⟨Z, ρ1, σd, h1, S1, rs.mono x1, (Post.bind p1).imp fun ds ρ2 h2 H2 x2 S2 p2 vs rvs => post_now S2 p2 (v :: vs) (.cons (rv.mono x2) rvs)⟩⟩⟩
def Gd (W : Wd) (gD : List D → List D → List D) (gV : List V → List V → List V) : Prop := ∀ {Z ρ : List Addr} {H : Hp} {ds es : List D} {vs zs : List V}, RDs W Z ρ H ds vs → RDs W Z ρ H es zs → RDs W Z ρ H (gD ds es) (gV vs zs)
section
variable {kws : List Keyword} {ks : List Str} {g : List Value → List Value → List Value} {gV : List V → List V → List V} {gD : List D → List D → List D} {fk : AM} {cls : Nat}
end
end
end Fw
end
section
set_option Elab.async false
set_option linter.all false
set_option maxRecDepth 100000
set_option autoImplicit false
set_option maxHeartbeats 1000000
namespace Fw
open PySem PySem.Spec PyProof.Rows L2
section
variable {X : Cx} {W : Wd} {wx : WX} {a b c e : Expr} {fa fb fc f : TM} {pos p : Pos} {x : Str} {id T : String}
theorem ej_newD : EJ X W wx (.Dict [] [] pos) eNewD :=
  ⟨fun pins s σ H Q I ⟨Z, ρ, σd, h0, S, rs, p⟩ => pe_dnewK.run pins s σ H Q I fun q n =>
    p (ρ ++ [q]) _ (Ext.own n) (S.own (o := .dK []) (ob := .dct []) n (.dct upd_same .nil)) (.ref q) (.ref (by rw [← S.len]; simp))⟩
theorem rfs_look {Z ρ : List Addr} {H : Hp} {k : Nat} {d : D} : ∀ {fs : List (Nat × D)} {gs : List (Str × V)}, RFs W Z ρ H fs gs → fs.lookup k = some d → ∃ v, gs.lookup (W.an k) = some v ∧ RD W Z ρ H d v := by
  intro fs
  induction fs with
  | nil => intro gs r e; simp at e
  | cons q fs ih =>
    intro gs r e
    cases r with
    | @cons j d' _ v vs r t =>
      rw [List.lookup_cons] at e ⊢
      by_cases hj : k = j
      · subst hj
        simp only [beq_self_eq_true] at e ⊢
        cases e
        exact ⟨v, rfl, r⟩
      · rw [beq_eq_false_iff_ne.mpr hj] at e
        rw [beq_eq_false_iff_ne.mpr fun z => hj (W.inj _ _ z)]
        exact ih t e
theorem ej_fld {cls k : Nat} (ho : EJ X W wx a fa) (hc : Cls X.K (W.ca cls)) (hn : NoAttr X.K (W.ca cls) x) (hx : x = W.an k := by rfl) (hb : attributeBase a x X.env (eval a X.env) = eval a X.env := by rfl) : EJ X W wx (.Attribute a x pos) (eFld cls k fa) := by
  subst hx
  exact ⟨fun pins s σ H Q I ⟨Z, ρ, σd, h0, S, rs, pp⟩ => (pe_fld ho hb).run pins s σ H Q I
    ⟨Z, ρ, σd, h0, S, rs, (Post.bind pp).imp fun d ρ1 h1 H1 x1 S1 p1 v rv => by
      cases ho : asObj h1 d with
      | none => rw [ho] at p1; exact p1.elim
      | some q =>
        obtain ⟨c1, fs1⟩ := q
        rw [ho] at p1
        dsimp only at p1
        split at p1
        · rename_i hc1
          subst hc1
          obtain ⟨ad, dx, gs, e1, e2, e3⟩ := asObj_ok S1 rv ho
          obtain ⟨r, e4, hA⟩ := post_opt p1
          obtain ⟨u, e5, ru⟩ := rfs_look e3 e4
          exact ⟨ad, _, dx, gs, u, e1, e2, hc, hn, e5, hA.now S1 ru⟩
        · exact p1.elim⟩⟩
theorem rfs_put {Z ρ : List Addr} {H : Hp} {k : Nat} {d : D} {v : V} (rv : RD W Z ρ H d v) : ∀ {fs : List (Nat × D)} {gs : List (Str × V)}, RFs W Z ρ H fs gs → RFs W Z ρ H (Fw.putF k d fs) (L2.putF (W.an k) v gs) := by
  intro fs
  induction fs with
  | nil => intro gs r; cases r; exact .cons rv .nil
  | cons q fs ih =>
    intro gs r
    cases r with
    | @cons j d' _ u vs r t =>
      simp only [Fw.putF, L2.putF]
      by_cases hj : j = k
      · subst hj
        rw [if_pos rfl, if_pos rfl]
        exact .cons rv t
      · rw [if_neg hj, if_neg fun z => hj (W.inj _ _ z)]
        exact .cons r (ih t)
theorem rfs_len {Z ρ : List Addr} {H : Hp} : ∀ {fs : List (Nat × D)} {gs : List (Str × V)}, RFs W Z ρ H fs gs → fs.length = gs.length := by
  intro fs
  induction fs with
  | nil => intro gs r; cases r; rfl
  | cons q fs ih => intro gs r; cases r with | cons r t => simp [ih t]
theorem ne_mem {a b : Addr} {l : List Addr} (h : a ∈ l) (h2 : b ∉ l) : b ≠ a := fun e => h2 (by rw [e]; exact h)
theorem Sim.write {Z ρ : List Addr} {h : Hh} {H : Hp} {n : Nat} {ad : Addr} {o : O} {u u0 : HO} (S : Sim W Z ρ h H) (hn : ρ[n]? = some ad) (hu : H ad = some u0) (r : OR W Z ρ (upd H ad u) ad o) : Ext ρ H ρ (upd H ad u) ∧ Sim W Z ρ (h.set n o) (upd H ad u) := by
  have hm : ad ∈ ρ := List.mem_of_getElem? hn
  have x : Ext ρ H ρ (upd H ad u) := ⟨List.prefix_rfl, fun b w hb e => ⟨hb, by rw [upd_ne (ne_mem hm hb)]; exact e⟩⟩
  refine ⟨x, ⟨by rw [List.length_set]; exact S.len, S.nd, fun z hz => ?_, fun m w b e1 e2 => ?_⟩⟩
  · obtain ⟨h1, w, e⟩ := S.dis z hz
    exact ⟨h1, w, by rw [upd_ne (ne_mem hm h1)]; exact e⟩
  · by_cases hmn : n = m
    · subst hmn
      have hl : n < h.length := by rw [← S.len]; exact (List.getElem?_eq_some_iff.mp hn).1
      rw [List.getElem?_set_self hl] at e1
      rw [hn] at e2
      cases e1; cases e2
      exact r
    · rw [List.getElem?_set_ne hmn] at e1
      refine (S.obj m w b e1 e2).keep x fun w' e => ?_
      have hb : b ≠ ad := fun z => hmn (nodup_inj S.nd hn (z ▸ e2))
      rw [upd_ne hb]
      exact e
theorem setFld_ok {Z ρ : List Addr} {h h' : Hh} {H : Hp} {cls k : Nat} {o v : D} {ov vv : V} (S : Sim W Z ρ h H) (ro : RD W Z ρ H o ov) (rv : RD W Z ρ H v vv) (e : setFld h cls k o v = some h') :
    ∃ ad dx gs, ov = .ref ad ∧ H ad = some (.ins (W.ca cls) dx gs) ∧ gs.length < 1000 ∧ Ext ρ H ρ (upd H ad (.ins (W.ca cls) dx (L2.putF (W.an k) vv gs))) ∧ Sim W Z ρ h' (upd H ad (.ins (W.ca cls) dx (L2.putF (W.an k) vv gs))) := by
  cases ro <;> simp only [setFld] at e <;> first | (cases e; done) | skip
  rename_i ad n hn
  cases eo : h[n]? with
  | none => rw [eo] at e; cases e
  | some ob =>
    rw [eo] at e
    have q := S.obj n ob ad eo hn
    cases ob <;> dsimp only at e <;> first | (cases e; done) | skip
    rename_i c1 fs1
    split at e
    · rename_i hc
      obtain ⟨hcc, hl⟩ := hc
      subst hcc
      cases e
      cases q with
      | ins q t =>
        rename_i dx gs
        have hx : Ext ρ H ρ (upd H ad (.ins (W.ca c1) dx (L2.putF (W.an k) vv gs))) := ⟨List.prefix_rfl, fun b w hb e => ⟨hb, by rw [upd_ne (ne_mem (List.mem_of_getElem? hn) hb)]; exact e⟩⟩
        obtain ⟨x, S'⟩ := S.write hn q (.ins upd_same (rfs_put (rv.mono hx) (t.mono hx)))
        exact ⟨ad, dx, gs, rfl, q, by rw [← rfs_len t]; omega, x, S'⟩
    · cases e
theorem sj_setF {cls k : Nat} {pos' : Pos} (J : Js X W wx) (ho : EJ X W wx a fa) (hv : EJ X W wx e f) (hc : Cls X.K (W.ca cls)) (hn : NoAttr X.K (W.ca cls) x) (hx : x = W.an k := by rfl) (hs : swapsWith e (some (.Attribute a x pos')) pos.line X.env = pure false := by rfl) :
    SJ X W wx (.Assign [.Attribute a x pos'] e pos) (sSetF cls fa k f) := by
  subst hx
  exact ⟨fun pins s σ H D I ⟨Z, ρ, σd, h0, S, rs, pp⟩ => (ps_fld ho hv hs).run pins s σ H D I
    ⟨Z, ρ, σd, h0, S, rs, (PostS.of rs pp).imp fun d ρ1 h1 H1 x1 S1 p1 v rv =>
      ⟨Z, ρ1, σd, h1, S1, rs.mono x1, (PostS.of (rs.mono x1) p1).imp fun o ρ2 h2 H2 x2 S2 p2 ov ro => by
        cases hf : setFld h2 cls k o d with
        | none => rw [hf] at p2; exact p2.elim
        | some h3 =>
          rw [hf] at p2
          obtain ⟨ad, dx, gs, e1, e2, e3, x3, S3⟩ := setFld_ok S2 ro (rv.mono x2) hf
          exact ⟨ad, _, dx, gs, e1, e2, hc, hn, e3, p2 ρ2 _ σ x3 S3 (((rs.mono x1).mono x2).mono x3)⟩⟩⟩⟩
def r1 (W : Wd) (f : Hh → D → Option D) : List V → Hp → VK → Prop := fun xs H Q => ∃ Z ρ h d r v, xs = [v] ∧ Sim W Z ρ h H ∧ RD W Z ρ H d v ∧ f h d = some r ∧ Fw.Ans W Z ρ h H r Q
def r1b (W : Wd) (f : Hh → D → D → Option D) : List V → Hp → VK → Prop := fun xs H Q => ∃ Z ρ h d e r v u, xs = [v, u] ∧ Sim W Z ρ h H ∧ RD W Z ρ H d v ∧ RD W Z ρ H e u ∧ f h d e = some r ∧ Fw.Ans W Z ρ h H r Q
section
variable {g : Hh → D → Option D} {g2 : Hh → D → D → Option D}
theorem u_read {σ : L2.St} {H : Hp} {Q : VK} (p : tE W wx (eU g fa) σ H Q) : tA W wx (aCons fa aNil) σ H fun vs H1 => r1 W g vs H1 Q := by
  obtain ⟨Z, ρ, σd, h0, S, rs, p⟩ := p
  refine ⟨Z, ρ, σd, h0, S, rs, ?_⟩
  unfold aCons aNil
  unfold eU at p
  cases hf : fa σd h0 with
  | ok d h1 =>
    rw [hf] at p
    intro ρ' H' x S' vs rvs
    obtain ⟨r, e, hA⟩ := post_opt (Post.mono x p)
    cases rvs with
    | cons rv t => cases t; exact ⟨Z, ρ', h1, d, r, _, rfl, S', rv, e, hA⟩
  | xn x h1 => rw [hf] at p; exact p
  | bad => rw [hf] at p; exact p
theorem u2_read {σ : L2.St} {H : Hp} {Q : VK} (p : tE W wx (eU2 g2 fa fb) σ H Q) : tA W wx (aCons fa (aCons fb aNil)) σ H fun vs H1 => r1b W g2 vs H1 Q := by
  obtain ⟨Z, ρ, σd, h0, S, rs, p⟩ := p
  refine ⟨Z, ρ, σd, h0, S, rs, ?_⟩
  unfold aCons aNil
  unfold eU2 at p
  cases hf : fa σd h0 with
  | ok d h1 =>
    rw [hf] at p
    simp only [R.bind_ok] at p ⊢
    cases hg : fb σd h1 with
    | ok e h2 =>
      rw [hg] at p
      intro ρ' H' x S' vs rvs
      obtain ⟨r, e1, hA⟩ := post_opt (Post.mono x p)
      cases rvs with
      | cons rv t =>
        cases t with
        | cons ru t => cases t; exact ⟨Z, ρ', h2, d, e, r, _, _, rfl, S', rv, ru, e1, hA⟩
    | xn x h2 => rw [hg] at p; exact p
    | bad => rw [hg] at p; exact p
  | xn x h1 => rw [hf] at p; exact p
  | bad => rw [hf] at p; exact p
theorem ej_b1 (hc : CallR X (.builtin id) (r1 W g)) (ha : EJ X W wx a fa) (hv : bootBuiltins x = some (.builtin id)) (hg : Gl X x := by rfl) (hm : X.mg x = none := by assumption) (hn : x ≠ "__name__" := by decide) (hdb : (x == ("__debug__" : Str)) = false := by decide)
    (he : starEach [a] X.env = (false, eval a X.env) :: starEach [] X.env := by rfl) : EJ X W wx (.Call (.Name x p) [a] [] pos) (eU g fa) :=
  ⟨fun pins s σ H Q I q => (pe_callB hc hg hm hv (aj_cons ha aj_nil he) hn hdb he).run pins s σ H Q I (u_read q)⟩
theorem ej_t1 (hc : CallR X (.type T) (r1 W g)) (ha : EJ X W wx a fa) (hv : bootBuiltins x = some (.type T)) (hg : Gl X x := by rfl) (hm : X.mg x = none := by assumption) (hn : x ≠ "__name__" := by decide) (hdb : (x == ("__debug__" : Str)) = false := by decide)
    (he : starEach [a] X.env = (false, eval a X.env) :: starEach [] X.env := by rfl) : EJ X W wx (.Call (.Name x p) [a] [] pos) (eU g fa) :=
  ⟨fun pins s σ H Q I q => (pe_callTy hc hg hm hv (aj_cons ha aj_nil he) hn hdb he).run pins s σ H Q I (u_read q)⟩
theorem ej_b2 (hc : CallR X (.builtin id) (r1b W g2)) (ha : EJ X W wx a fa) (hb : EJ X W wx b fb) (hv : bootBuiltins x = some (.builtin id)) (hg : Gl X x := by rfl) (hm : X.mg x = none := by assumption) (hn : x ≠ "__name__" := by decide) (hdb : (x == ("__debug__" : Str)) = false := by decide)
    (he : starEach [a, b] X.env = (false, eval a X.env) :: starEach [b] X.env := by rfl) (he2 : starEach [b] X.env = (false, eval b X.env) :: starEach [] X.env := by rfl) (hpl : (backTo pos (starEach [b] X.env)).any (·.1) = false := by rfl) : EJ X W wx (.Call (.Name x p) [a, b] [] pos) (eU2 g2 fa fb) :=
  ⟨fun pins s σ H Q I q => (pe_callB hc hg hm hv (aj_cons ha (aj_cons hb aj_nil he2) he) hn hdb he hpl).run pins s σ H Q I (u2_read q)⟩
end
end
section
variable {X : Cx} {W : Wd}
theorem cl_len (hK : X.K = W.K) : CallR X (.builtin "len") (r1 W lenD) := by
  intro pins s σ H xs us Q I rv ⟨Z, ρ, h, d, r, v, hx, S, rd, e, hA⟩
  subst hx
  by_cases hs : ∃ t, d = .str t
  · obtain ⟨t, rfl⟩ := hs
    cases rd
    simp only [lenD] at e
    split at e
    · rename_i hl
      cases e
      exact call_len_str pins s σ H _ us Q I rv ⟨toS t, rfl, by rw [toS_len, ← line_eq]; exact hl, by rw [toS_len]; exact hA.now S (.int _)⟩
    · cases e
  · have e' : (match asSeq h d with
      | some xs => some (D.int xs.length)
      | none => (asDct h d).map fun kvs => .int kvs.length) = some r := by
      rw [← e]
      cases d <;> first | rfl | exact absurd ⟨_, rfl⟩ hs
    cases e1 : asSeq h d with
    | some xs =>
      rw [e1] at e'
      cases e'
      obtain ⟨a, vs, rfl, q, t⟩ := asSeq_ok S rd e1
      exact call_len_seq pins s σ H _ us Q I rv ⟨a, vs, rfl, hK ▸ q, by rw [← t.length]; exact hA.now S (.int _)⟩
    | none =>
      rw [e1] at e'
      cases e2 : asDct h d with
      | none => rw [e2] at e'; cases e'
      | some kvs =>
        rw [e2] at e'
        cases e'
        obtain ⟨a, vs, rfl, q, t⟩ := asDct_ok S rd e2
        obtain ⟨u, rfl, ru⟩ := vals1 rv
        obtain rfl : u = Value.ref a := ru
        exact d_len I q fun tk s' I' => ⟨.int vs.length, H, I', ⟨_, rfl⟩, by rw [← t.len]; exact hA.now S (.int _)⟩
theorem cl_int : CallR X (.type "int") (r1 W intD) := by
  intro pins s σ H xs us Q I rv ⟨Z, ρ, h, d, r, v, hx, S, rd, e, hA⟩
  subst hx
  cases d <;> simp only [intD] at e <;> first | (cases e; done) | skip
  · cases e
    cases rd
    exact call_int1 pins s σ H _ us Q I rv (.inr ⟨_, rfl, hA.now S (.int _)⟩)
  · cases e
    cases rd
    exact call_int1 pins s σ H _ us Q I rv (.inl ⟨_, rfl, hA.now S (.int _)⟩)
theorem cl_tuple (hK : X.K = W.K) : CallR X (.type "tuple") (r1 W tupleD) := by
  intro pins s σ H xs us Q I rv ⟨Z, ρ, h, d, r, v, hx, S, rd, e, hA⟩
  subst hx
  by_cases hs : ∃ t, d = .tup t
  · obtain ⟨t, rfl⟩ := hs
    simp only [tupleD] at e
    cases e
    obtain ⟨a, vs, rfl, q, t⟩ := tup_ok rd
    exact call_tuple_of pins s σ H _ us Q I rv ⟨a, vs, rfl, .inr ⟨hK ▸ q, hA.now S rd⟩⟩
  · have e' : (asLst h d).map D.tup = some r := by
      rw [← e]
      cases d <;> first | rfl | exact absurd ⟨_, rfl⟩ hs
    simp only [Option.map_eq_some_iff] at e'
    obtain ⟨xs, e1, rfl⟩ := e'
    obtain ⟨a, vs, rfl, q, t⟩ := asLst_ok S rd e1
    exact call_tuple_of pins s σ H _ us Q I rv ⟨a, vs, rfl, .inl ⟨SqL.of q, fun l n => hA.tup S t l n⟩⟩
def KEmp (K : PySem.W.Frag) (a : Addr) : Prop := ∃ n sl, K.lookup a = some ⟨.type "tuple", none, .seq #[] n, sl⟩
theorem cl_dict (hK : X.K = W.K) (hc : X.calm = true) (hE : KEmp X.K (W.fa empT)) : CallR X (.type "dict") (r1 W dictD) := by
  intro pins s σ H xs us Q I rv ⟨Z, ρ, h, d, r, v, hx, S, rd, e, hA⟩
  subst hx
  by_cases hs : ∃ f, d = .fn f
  · obtain ⟨f, rfl⟩ := hs
    simp only [dictD] at e
    split at e
    · rename_i hf
      subst hf
      cases e
      cases rd
      obtain ⟨u, rfl, ru⟩ := vals1 rv
      obtain rfl : u = Value.ref (W.fa empT) := ru
      obtain ⟨n, sl, hl⟩ := hE
      have hg := I.kIn _ _ hl
      refine PySem.call_dict_pairs (knd := mixKind X.prog X.w) (kvs := []) (PySem.PairArg.tuple (W.fa empT) #[] (fun _ => 0) []) (I.ok.hd hc) ⟨⟨_, n, hg, rfl, rfl, rfl⟩, rfl, fun j k v hj => by simp at hj⟩ ⟨rfl, fun i k v hi => by simp [PySem.PairRel] at hi⟩ (Nat.zero_le _) fun h' tk hd hk => ?_
      have hm : (s.heap.objs.size == sysModules) = false := beq_eq_false_iff_ne.mpr (Nat.ne_of_gt I.big)
      exact ⟨.ref s.heap.objs.size, upd H s.heap.objs.size (.dK []), I.laid (t' := tk) (fun b o e => hk b o (by simp) e) (Nat.le_refl _) (show ObjOk X.prog X.w _ _ _ (.dK []) from ⟨Nat.zero_le _, hm, [], .nil, hd⟩), rfl, hA.dct S .nil _ (I.hok.fresh (Nat.le_refl _))⟩
    · cases e
  · have e' : (asDct h d).map D.dct = some r := by
      rw [← e]
      cases d <;> first | rfl | exact absurd ⟨_, rfl⟩ hs
    simp only [Option.map_eq_some_iff] at e'
    obtain ⟨xs, e1, rfl⟩ := e'
    obtain ⟨a, vs, rfl, q, t⟩ := asDct_ok S rd e1
    exact call_dictD pins s σ H _ us Q I rv ⟨a, vs, rfl, q, fun l n => hA.dct S t l n⟩
theorem cl_all (hK : X.K = W.K) (hc : X.calm = true) : CallR X (.builtin "all") (r1 W allD) := by
  intro pins s σ H xs us Q I rv ⟨Z, ρ, h, d, r, v, hx, S, rd, e, hA⟩
  subst hx
  simp only [allD, Option.map_eq_some_iff, Option.bind_eq_some_iff] at e
  obtain ⟨bs, ⟨xs, e1, e2⟩, rfl⟩ := e
  obtain ⟨a, vs, rfl, q, t⟩ := asLst_ok S rd e1
  exact cr_all hc pins s σ H _ us Q I rv ⟨a, bs, rfl, asBools_ok t e2 ▸ SqL.of q, hA.now S (.bl _)⟩
theorem cl_min (hc : X.calm = true) : CallR X (.builtin "min") (r1b W minD) := by
  intro pins s σ H xs us Q I rv ⟨Z, ρ, h, d, e, r, v, u, hx, S, rd, re, e1, hA⟩
  subst hx
  cases d <;> cases e <;> simp only [minD] at e1 <;> first | (cases e1; done) | skip
  cases e1; cases rd; cases re
  exact call_min2 hc pins s σ H _ us Q I rv ⟨_, _, rfl, hA.now S (.int _)⟩
theorem cl_max (hc : X.calm = true) : CallR X (.builtin "max") (r1b W maxD) := by
  intro pins s σ H xs us Q I rv ⟨Z, ρ, h, d, e, r, v, u, hx, S, rd, re, e1, hA⟩
  subst hx
  cases d <;> cases e <;> simp only [maxD] at e1 <;> first | (cases e1; done) | skip
  cases e1; cases rd; cases re
  exact call_max2 hc pins s σ H _ us Q I rv ⟨_, _, rfl, hA.now S (.int _)⟩
end
end Fw
end
section
set_option Elab.async false
set_option linter.all false
set_option maxRecDepth 100000
set_option autoImplicit false
set_option maxHeartbeats 1000000
namespace Fw
open PySem PySem.Spec PyProof.Rows L2
section
variable {W : Wd} {Z ρ : List Addr} {h h' : Hh} {H : Hp}
theorem ext_own {ad : Addr} {u : HO} {n : Nat} (hn : ρ[n]? = some ad) : Ext ρ H ρ (upd H ad u) :=
  ⟨List.prefix_rfl, fun b w hb e => ⟨hb, by rw [upd_ne (ne_mem (List.mem_of_getElem? hn) hb)]; exact e⟩⟩
theorem rks_map {k : K1} {d : D} {v : V} (rv : RD W Z ρ H d v) : ∀ {fs : List (K1 × D)} {gs : List (Key × V)}, RKs W Z ρ H fs gs →
    RKs W Z ρ H (fs.map fun q => if q.1 = k then (q.1, d) else q) (gs.map fun kv => if kv.1 = keyS k then (kv.1, v) else kv) := by
  intro fs
  induction fs with
  | nil => intro gs r; cases r; exact .nil
  | cons q fs ih =>
    intro gs r
    cases r with
    | @cons k' d' _ u us r t =>
      simp only [List.map_cons]
      by_cases hk : k' = k
      · subst hk
        rw [if_pos rfl, if_pos rfl]
        exact .cons rv (ih t)
      · rw [if_neg hk, if_neg fun z => hk (keyS_inj z)]
        exact .cons r (ih t)
theorem rks_snoc {k : K1} {d : D} {v : V} (rv : RD W Z ρ H d v) : ∀ {fs : List (K1 × D)} {gs : List (Key × V)}, RKs W Z ρ H fs gs → RKs W Z ρ H (fs ++ [(k, d)]) (gs ++ [(keyS k, v)]) := by
  intro fs
  induction fs with
  | nil => intro gs r; cases r; exact .cons rv .nil
  | cons q fs ih =>
    intro gs r
    cases r with
    | cons r t => exact .cons r (ih t)
theorem rks_put {k : K1} {d : D} {v : V} (rv : RD W Z ρ H d v) {fs : List (K1 × D)} {gs : List (Key × V)} (r : RKs W Z ρ H fs gs) : RKs W Z ρ H (put k d fs) (putK gs (keyS k) v) := by
  have hany : (gs.any fun kv => decide (kv.1 = keyS k)) = fs.any fun q => decide (q.1 = k) := by rw [r.any k, valV_any]
  by_cases hf : (fs.any fun q => decide (q.1 = k)) = true
  · have e1 : put k d fs = fs.map fun q => if q.1 = k then (q.1, d) else q := if_pos hf
    have e2 : putK gs (keyS k) v = gs.map fun kv => if kv.1 = keyS k then (kv.1, v) else kv := if_pos (by rw [hany]; exact hf)
    rw [e1, e2]
    exact rks_map rv r
  · have e1 : put k d fs = fs ++ [(k, d)] := if_neg hf
    have e2 : putK gs (keyS k) v = gs ++ [(keyS k, v)] := if_neg (by rw [hany]; exact hf)
    rw [e1, e2]
    exact rks_snoc rv r
def tSet (W : Wd) : TSet := fun o i v H Q => ∃ Z ρ h h' od id d, Sim W Z ρ h H ∧ RD W Z ρ H od o ∧ RD W Z ρ H id i ∧ RD W Z ρ H d v ∧ setIx h od id d = some h' ∧ ∀ H', Ext ρ H ρ H' → Sim W Z ρ h' H' → Q H'
theorem set_all {X : Cx} (hu : X.A.units + 64 < cLine) : PSet X (tSet W) := by
  intro pins s σ H o i v ov iv u Q I ro ri ru ⟨Z, ρ, h, h', od, id, d, S, rod, rid, rdd, e, q⟩
  cases rod <;> simp only [setIx] at e <;> first | (cases e; done) | skip
  rename_i ad n hn
  cases eo : h[n]? with
  | none => rw [eo] at e; cases e
  | some ob =>
    rw [eo] at e
    have qo := S.obj n ob ad eo hn
    cases ob with
    | lst xs =>
      cases id <;> dsimp only at e <;> first | (cases e; done) | skip
      rename_i k
      cases rid
      simp only [Option.map_eq_some_iff] at e
      obtain ⟨j, e1, rfl⟩ := e
      cases qo with
      | lst qo t =>
        rename_i vs
        have x : Ext ρ H ρ (upd H ad (.lst (vs.set j v))) := ext_own hn
        obtain ⟨_, S'⟩ := S.write hn qo (o := .lst (xs.set j d)) (.lst (upd_same (o := .lst (vs.set j v))) ((t.mono x).set (rdd.mono x)))
        exact set_list pins s σ H _ _ v ov iv u Q I ro ri ru ⟨ad, vs, k, j, rfl, rfl, qo, by rw [← t.length, ← ixn_eq]; exact e1, q _ x S'⟩
    | dct kvs =>
      dsimp only at e
      simp only [Option.bind_eq_some_iff] at e
      obtain ⟨k, e1, e2⟩ := e
      split at e2
      · rename_i hl
        cases e2
        cases qo with
        | dct qo t =>
          rename_i vs
          have x : Ext ρ H ρ (upd H ad (.dK (putK vs (keyS k) v))) := ext_own hn
          obtain ⟨_, S'⟩ := S.write hn qo (o := .dct (put k d kvs)) (.dct (upd_same (o := .dK (putK vs (keyS k) v))) (rks_put (rdd.mono x) (t.mono x)))
          have hk := key1_ok rid e1
          exact set_dict (by omega) pins s σ H _ _ v ov iv u Q I ro ri ru ⟨ad, _, rfl, .inl ⟨vs, keyS k, qo, hk, by rw [← t.len, ← line_eq]; exact hl, rfl⟩, q _ x S'⟩
      · cases e2
    | ro xs => cases id <;> simp at e
    | ins c fs => cases id <;> simp at e
    | dtu kvs => cases id <;> simp at e
end
section
variable {X : Cx} {W : Wd} {wx : WX} {a b c e : Expr} {fa fb fc f : TM} {pos p : Pos} {x : Str}
theorem sj_setI {pos' : Pos} (J : Js X W wx) (ha : EJ X W wx a fa) (hb : EJ X W wx b fb) (he : EJ X W wx e f)
    (hs : swapsWithSole [.Subscript a b pos'] e pos.line X.env = pure false := by rfl) (hw : swappedStores [.Subscript a b pos'] e X.env = pure none := by rfl)
    (h1 : (assignEach [.Subscript a b pos'] X.env).map (·.2) = [assign (.Subscript a b pos') X.env] := by rfl)
    (hsub : ∀ v, assign (.Subscript a b pos') X.env v = (do
      let ov ← holding [v] (eval a X.env)
      let iv ← holding [v, ov] (eval b X.env)
      standAt pos'
      holding [v, ov, iv] (setItem ov iv v)
      release [v, ov, iv] []) := by intro _; rfl) :
    SJ X W wx (.Assign [.Subscript a b pos'] e pos) (sSetI fa fb f) :=
  ⟨fun pins s σ H D I ⟨Z, ρ, σd, h0, S, rs, pp⟩ => (ps_asg he (pg_sub ha hb (set_all (W := W) J.hu) hsub) hs hw h1).run pins s σ H D I
    ⟨Z, ρ, σd, h0, S, rs, (PostS.of rs pp).imp fun d ρ1 h1 H1 x1 S1 p1 v rv =>
      ⟨Z, ρ1, σd, h1, S1, rs.mono x1, (PostS.of (rs.mono x1) p1).imp fun o ρ2 h2 H2 x2 S2 p2 ov ro =>
        ⟨Z, ρ2, σd, h2, S2, (rs.mono x1).mono x2, (PostS.of ((rs.mono x1).mono x2) p2).imp fun i ρ3 h3 H3 x3 S3 p3 iv ri => by
          cases hf : setIx h3 o i d with
          | none => rw [hf] at p3; exact p3.elim
          | some h4 =>
            rw [hf] at p3
            exact ⟨Z, ρ3, h3, h4, o, i, d, S3, ro.mono x3, ri, (rv.mono x2).mono x3, hf, fun H' x S' => p3 ρ3 H' σ x S' ((((rs.mono x1).mono x2).mono x3).mono x)⟩⟩⟩⟩⟩
theorem iop_all {op : Bop} {Z ρ : List Addr} {h : Hh} {H : Hp} {d e r : D} {u v : V} {uu vv : Value} {pins : List (Addr × Obj)} {s : Shared} {σ : L2.St} {Q : VK} (I : Inv X pins σ H s) (ru : RelV u uu) (rv : RelV v vv)
    (rd : RD W Z ρ H d u) (re : RD W Z ρ H e v) (S : Sim W Z ρ h H) (hf : augD op d e = some r) (hA : Fw.Ans W Z ρ h H r Q) : wpAny (model X.prog X.w) X.A (inplaceOp (bopOf op) uu vv) (EP X pins σ Q) X.xe s := by
  cases op <;> cases d <;> cases e <;> simp only [augD] at hf <;> first | (cases hf; done) | skip
  · cases rd; cases re; cases hf
    exact iop_add pins s σ H _ _ uu vv Q I ru rv ⟨_, _, rfl, rfl, hA.now S (.int _)⟩
  · cases rd; cases re
    split at hf
    · rename_i hl
      cases hf
      exact iop_add_str pins s σ H _ _ uu vv Q I ru rv ⟨_, _, rfl, rfl, by rw [toS_len, toS_len, ← line_eq]; exact hl, by rw [toS_cat]; exact hA.now S (.str _)⟩
    · cases hf
  · cases rd; cases re; cases hf
    exact iop_sub pins s σ H _ _ uu vv Q I ru rv ⟨_, _, rfl, rfl, hA.now S (.int _)⟩
theorem sj_aug {op : Bop} {o : Operator} {i : Nat} {pos' : Pos} (J : Js X W wx) (ho : o = bopOf op := by rfl) (hi : X.N[i]? = some x) (hx : Loc X.env.scope x) (he : EJ X W wx e f) (hf : X.fn x = true ∨ X.env.scope.names.lookup x = some .local := by first | exact .inl rfl | exact .inr rfl | assumption) :
    SJ X W wx (.AugAssign (.Name x pos') o e pos) (sAug i op f) := by
  subst ho
  refine ⟨fun pins s σ H D I ⟨Z, ρ, σd, h0, S, rs, pp⟩ => ?_⟩
  have ti : PIp X (bopOf op) (fun u v H Q => ∃ Z ρ h d e r, Sim W Z ρ h H ∧ RD W Z ρ H d u ∧ RD W Z ρ H e v ∧ augD op d e = some r ∧ Fw.Ans W Z ρ h H r Q) :=
    fun pins s σ H u v uu vv Q I ru rv ⟨Z, ρ, h, d, e, r, S, rd, re, hf, hA⟩ => iop_all I ru rv rd re S hf hA
  refine (ps_aug J.hN hi hx he ti hf).run pins s σ H D I ?_
  unfold sAug at pp
  cases hg : sget σd i with
  | none => rw [hg] at pp; exact pp.elim
  | some d =>
    rw [hg] at pp
    have hd : σd[i]? = some (some d) := by
      unfold sget at hg
      split at hg
      · rename_i d' q; cases hg; exact q
      · cases hg
    obtain ⟨v, hv, rv⟩ := rs.at_ i d hd
    refine ⟨v, hv, Z, ρ, σd, h0, S, rs, (PostS.of rs pp).imp fun e ρ1 h1 H1 x1 S1 p1 u ru => ?_⟩
    cases hb : augD op d e with
    | none => rw [hb] at p1; exact p1.elim
    | some r =>
      rw [hb] at p1
      exact ⟨Z, ρ1, h1, d, e, r, S1, rv.mono x1, ru, hb, fun ρ2 H2 z x2 S2 rz => p1 ρ2 H2 _ x2 S2 (((rs.mono x1).mono x2).set rz)⟩
def rM (W : Wd) (f : Hh → D → D → Option (D × Option (Nat × O))) : V → List V → Hp → VK → Prop := fun x vs H Q => ∃ Z ρ h d e r w u, vs = [u] ∧ Sim W Z ρ h H ∧ RD W Z ρ H d x ∧ RD W Z ρ H e u ∧ f h d e = some (r, w) ∧
  ∀ ρ' H' v, Ext ρ H ρ' H' → Sim W Z ρ' (wr h w) H' → RD W Z ρ' H' r v → Q v H'
theorem m_app : MtR X "list.append" (rM W appD) := by
  intro pins s σ H x xs v us Q I rx rs ⟨Z, ρ, h, d, e, r, w, u, hx, S, rd, re, hf, hA⟩
  subst hx
  cases rd <;> simp only [appD] at hf <;> first | (cases hf; done) | skip
  rename_i ad n hn
  cases eo : h[n]? with
  | none => rw [eo] at hf; cases hf
  | some ob =>
    rw [eo] at hf
    have qo := S.obj n ob ad eo hn
    cases ob <;> dsimp only at hf <;> first | (cases hf; done) | skip
    split at hf
    · rename_i hl
      cases hf
      cases qo with
      | lst qo t =>
        rename_i ds vs
        have x : Ext ρ H ρ (upd H ad (.lst (vs ++ [u]))) := ext_own hn
        obtain ⟨_, S'⟩ := S.write hn qo (o := .lst (ds ++ [e])) (.lst (upd_same (o := .lst (vs ++ [u]))) ((t.mono x).append (.cons (re.mono x) .nil)))
        exact mt_append pins s σ H _ _ v us Q I rx rs ⟨ad, vs, u, rfl, rfl, qo, by rw [← t.length, ← line_eq]; exact hl, hA ρ _ _ x S' .non⟩
    · cases hf
theorem ixn_seq {n : Nat} {i : Int} {j : Nat} (h : ixn n i = some j) (hn : n ≤ sizeLine) : -(2 ^ 63) ≤ i ∧ i < 2 ^ 63 ∧ seqIndex? i n = some j := by
  rw [sizeLine_eq] at hn
  unfold ixn at h
  split at h
  · rename_i h0
    split at h
    · rename_i h1
      cases h
      refine ⟨by omega, by omega, ?_⟩
      have h2 : ¬ i < 0 := by omega
      simp [seqIndex?, h2, h0, h1]
    · cases h
  · rename_i h0
    split at h
    · rename_i h1
      cases h
      refine ⟨by omega, by omega, ?_⟩
      have h2 : 0 ≤ i + (n : Int) := by omega
      have h3 : i + (n : Int) < n := by omega
      have h4 : i < 0 := by omega
      simp [seqIndex?, h2, h3, h4]
    · cases h
theorem rds_erase {Z ρ : List Addr} {H : Hp} : ∀ {n : Nat} {ds : List D} {vs : List V}, RDs W Z ρ H ds vs → RDs W Z ρ H (ds.eraseIdx n) (vs.eraseIdx n) := by
  intro n
  induction n with
  | zero => intro ds vs r; cases r with | nil => exact .nil | cons _ t => exact t
  | succ n ih => intro ds vs r; cases r with | nil => exact .nil | cons r t => exact .cons r (ih t)
theorem lst_small {pins : List (Addr × Obj)} {s : Shared} {σ : L2.St} {H : Hp} {ad : Addr} {vs : List V} (I : Inv X pins σ H s) (h : H ad = some (.lst vs)) : vs.length ≤ sizeLine := (I.hok ad _ h).1
theorem m_pop : MtR X "list.pop" (rM W popD) := by
  intro pins s σ H x xs v us Q I rx rs ⟨Z, ρ, h, d, e, r, w, u, hx, S, rd, re, hf, hA⟩
  subst hx
  cases rd <;> simp only [popD] at hf <;> first | (cases hf; done) | skip
  rename_i ad n hn
  cases e <;> simp only [popD] at hf <;> first | (cases hf; done) | skip
  rename_i i
  cases re
  cases eo : h[n]? with
  | none => rw [eo] at hf; cases hf
  | some ob =>
    rw [eo] at hf
    have qo := S.obj n ob ad eo hn
    cases ob <;> dsimp only at hf <;> first | (cases hf; done) | skip
    simp only [Option.bind_eq_some_iff, Option.map_eq_some_iff] at hf
    obtain ⟨j, e1, y, e2, e3⟩ := hf
    cases e3
    cases qo with
    | lst qo t =>
      rename_i ds vs
      have x : Ext ρ H ρ (upd H ad (.lst (vs.eraseIdx j))) := ext_own hn
      obtain ⟨_, S'⟩ := S.write hn qo (o := .lst (ds.eraseIdx j)) (.lst (upd_same (o := .lst (vs.eraseIdx j))) (rds_erase (t.mono x)))
      obtain ⟨z, ez, rz⟩ := t.get e2
      obtain ⟨b1, b2, b3⟩ := ixn_seq e1 (by rw [t.length]; exact lst_small I qo)
      exact mt_popAt pins s σ H _ _ v us Q I rx rs ⟨ad, vs, i, j, z, rfl, rfl, qo, b1, b2, by rw [← t.length]; exact b3, ez, hA ρ _ _ x S' (rz.mono x)⟩
theorem join_eq (sep : Tx) : ∀ ts : List Tx, Str.join (toS sep) (ts.map toS) = toS (joinT sep ts)
  | [] => rfl
  | [_] => rfl
  | x :: y :: r => by
    have ih := join_eq sep (y :: r)
    simp only [List.map_cons] at ih
    simp only [List.map_cons, Str.join, joinT]
    rw [ih, toS_cat, toS_cat]
theorem m_join (hK : X.K = W.K) : MtR X "str.join" (rM W joinD) := by
  intro pins s σ H x xs v us Q I rx rs ⟨Z, ρ, h, d, e, r, w, u, hx, S, rd, re, hf, hA⟩
  subst hx
  cases d <;> simp only [joinD] at hf <;> first | (cases hf; done) | skip
  rename_i sep
  cases rd
  simp only [Option.bind_eq_some_iff] at hf
  obtain ⟨ds, e1, ts, e2, e3⟩ := hf
  split at e3
  · rename_i hl
    cases e3
    obtain ⟨a, vs, rfl, q, t⟩ := asSeq_ok S re e1
    have ev := asTexts_ok t e2
    subst ev
    have q' : SqL X.K H a ((ts.map toS).map V.str) ∨ SqT X.K H a ((ts.map toS).map V.str) := by
      rw [List.map_map]
      exact hK ▸ q
    refine mt_join pins s σ H _ _ v us Q I rx rs ⟨toS sep, a, ts.map toS, rfl, rfl, q', ?_, ?_⟩
    · rw [List.map_map, List.length_map, toS_len]
      have e4 : (ts.map (Str.length ∘ toS)) = ts.map List.length := by
        apply List.map_congr_left
        intro t _
        exact toS_len t
      rw [e4]
      exact hl
    · have e5 : Txt.join (toS sep) (ts.map toS) = toS (joinT sep ts) := (TL.join_eq _ _).trans (join_eq sep ts)
      rw [e5]
      exact hA ρ H _ Ext.refl S (.str _)
  · cases e3
theorem isLst_ty {Z ρ : List Addr} {h : Hh} {H : Hp} {d : D} {v : V} (S : Sim W Z ρ h H) (r : RD W Z ρ H d v) (e : isLst h d = true) : tyV X.K "list" v H := by
  unfold isLst at e
  obtain ⟨xs, e1⟩ := Option.isSome_iff_exists.mp e
  obtain ⟨a, vs, rfl, q, t⟩ := asLst_ok S r e1
  exact .inl ⟨rfl, _, SqL.of q⟩
theorem isStr_ty {Z ρ : List Addr} {h : Hh} {H : Hp} {d : D} {v : V} (S : Sim W Z ρ h H) (r : RD W Z ρ H d v) (e : isStr h d = true) : tyV X.K "str" v H := by
  cases r <;> simp [isStr] at e
  exact rfl
theorem ej_m {T id : String} {k : Hh → D → Bool} {g : Hh → D → D → Option (D × Option (Nat × O))} {apos cpos : Pos} (pa : PlainAttrs T) (slot : Slot T x id) (hty : typeOf (.builtin id) = pure (.type "method_descriptor")) (hm : MtR X id (rM W g))
    (hk : ∀ {Z ρ : List Addr} {h : Hh} {H : Hp} {d : D} {v : V}, Sim W Z ρ h H → RD W Z ρ H d v → k h d = true → tyV X.K T v H) (ha : EJ X W wx a fa) (hb : EJ X W wx b fb)
    (hbase : attributeBase a x X.env (eval a X.env) = eval a X.env := by rfl)
    (hfew : ((backTo cpos (starEach [b] X.env)).all (fun x => !x.1) && (backToKw cpos (keywordEach [] X.env)).all (fun x => x.1.isSome)
      && decide ([b].length + ([] : List Keyword).length + (if ([] : List Keyword).isEmpty then 0 else 1) < 30)) = true := by rfl)
    (hline : (apos.endLine == cpos.line) = true := by rfl) (hs : starEach [b] X.env = (false, eval b X.env) :: starEach [] X.env := by rfl) : EJ X W wx (.Call (.Attribute a x apos) [b] [] cpos) (eM k g fa fb) :=
  ⟨fun pins s σ H Q I ⟨Z, ρ, σd, h0, S, rs, p⟩ => (pe_bm pa slot hty hm ha (aj_cons hb aj_nil hs) hbase hfew hline hs rfl).run pins s σ H Q I
    ⟨Z, ρ, σd, h0, S, rs, (Post.bind p).imp fun d ρ1 h1 H1 x1 S1 p1 v rv => by
      by_cases hkd : k h1 d = true
      · rw [if_pos hkd] at p1
        refine ⟨hk S1 rv hkd, Z, ρ1, σd, h1, S1, rs.mono x1, ?_⟩
        unfold aCons aNil
        cases hf : fb σd h1 with
        | ok e h2 =>
          rw [hf] at p1
          intro ρ2 H2 x2 S2 vs rvs
          cases rvs with
          | cons ru t =>
            cases t
            have p2 := Post.mono x2 p1
            simp only [R.bind_ok] at p2
            cases hg : g h2 d e with
            | none => rw [hg] at p2; exact p2.elim
            | some q =>
              obtain ⟨r, w⟩ := q
              rw [hg] at p2
              exact ⟨Z, ρ2, h2, d, e, r, w, _, rfl, S2, rv.mono x2, ru, hg, fun ρ' H' v x S' rv' => p2 ρ' H' x S' v rv'⟩
        | xn e h2 => rw [hf] at p1; exact p1
        | bad => rw [hf] at p1; exact p1
      · rw [if_neg hkd] at p1
        exact p1.elim⟩⟩
theorem ej_app {apos cpos : Pos} (ha : EJ X W wx a fa) (hb : EJ X W wx b fb)
    (hbase : attributeBase a "append" X.env (eval a X.env) = eval a X.env := by rfl)
    (hfew : ((backTo cpos (starEach [b] X.env)).all (fun x => !x.1) && (backToKw cpos (keywordEach [] X.env)).all (fun x => x.1.isSome)
      && decide ([b].length + ([] : List Keyword).length + (if ([] : List Keyword).isEmpty then 0 else 1) < 30)) = true := by rfl)
    (hline : (apos.endLine == cpos.line) = true := by rfl) (hs : starEach [b] X.env = (false, eval b X.env) :: starEach [] X.env := by rfl) : EJ X W wx (.Call (.Attribute a "append" apos) [b] [] cpos) (eM isLst appD fa fb) :=
  ej_m PySem.F.plainAttrs_list PySem.F.slot_list_append PySem.F.type_list_append m_app isLst_ty ha hb hbase hfew hline hs
theorem ej_pop {apos cpos : Pos} (ha : EJ X W wx a fa) (hb : EJ X W wx b fb)
    (hbase : attributeBase a "pop" X.env (eval a X.env) = eval a X.env := by rfl)
    (hfew : ((backTo cpos (starEach [b] X.env)).all (fun x => !x.1) && (backToKw cpos (keywordEach [] X.env)).all (fun x => x.1.isSome)
      && decide ([b].length + ([] : List Keyword).length + (if ([] : List Keyword).isEmpty then 0 else 1) < 30)) = true := by rfl)
    (hline : (apos.endLine == cpos.line) = true := by rfl) (hs : starEach [b] X.env = (false, eval b X.env) :: starEach [] X.env := by rfl) : EJ X W wx (.Call (.Attribute a "pop" apos) [b] [] cpos) (eM isLst popD fa fb) :=
  ej_m PySem.F.plainAttrs_list PySem.F.slot_list_pop PySem.F.type_list_pop m_pop isLst_ty ha hb hbase hfew hline hs
theorem ej_join {apos cpos : Pos} (J : Jc X W wx) (ha : EJ X W wx a fa) (hb : EJ X W wx b fb)
    (hbase : attributeBase a "join" X.env (eval a X.env) = eval a X.env := by rfl)
    (hfew : ((backTo cpos (starEach [b] X.env)).all (fun x => !x.1) && (backToKw cpos (keywordEach [] X.env)).all (fun x => x.1.isSome)
      && decide ([b].length + ([] : List Keyword).length + (if ([] : List Keyword).isEmpty then 0 else 1) < 30)) = true := by rfl)
    (hline : (apos.endLine == cpos.line) = true := by rfl) (hs : starEach [b] X.env = (false, eval b X.env) :: starEach [] X.env := by rfl) : EJ X W wx (.Call (.Attribute a "join" apos) [b] [] cpos) (eM isStr joinD fa fb) :=
  ej_m PySem.F.plainAttrs_str PySem.F.slot_str_join PySem.F.type_str_join (m_join J.hK) isStr_ty ha hb hbase hfew hline hs
def KitOk (K : PySem.W.Frag) (W : Wd) (u : Value) (p : T1 → Option Bool) : Prop :=
  (∀ b, p .non = some b → PySem.W.kitOne K (.type "NoneType") u = some b) ∧ (∀ b, p .bl = some b → PySem.W.kitOne K (.type "bool") u = some b) ∧ (∀ b, p .int = some b → PySem.W.kitOne K (.type "int") u = some b) ∧
  (∀ b, p .str = some b → PySem.W.kitOne K (.type "str") u = some b) ∧ (∀ b, p .tup = some b → PySem.W.kitOne K (.type "tuple") u = some b) ∧ (∀ b, p .lst = some b → PySem.W.kitOne K (.type "list") u = some b) ∧
  (∀ b, p .dct = some b → PySem.W.kitOne K (.type "dict") u = some b) ∧
  ∀ c b, p (.own c) = some b → PySem.W.kitOne K (.ref (W.ca c)) u = some b ∧ Cls K (W.ca c) ∧ PySem.W.findIn K (.ref (W.ca c)) "__class__" = some (some (.builtin "object.__class__")) ∧
    PySem.W.specialIn K (.builtin "object.__class__") "__get__" = some (some (.builtin "getset_descriptor.__get__")) ∧ PySem.W.takesIn K (.builtin "object.__class__") = some true ∧ PySem.W.mroIn K (W.ca c) (.type "object") = some true
theorem tyX_rd {K : PySem.W.Frag} {H : Hp} {a : Addr} {u : List (Key × V)} (r : Rd H a (.dK u)) : TyX K H (.ref a) (.type "dict") := by
  rcases r with r | ⟨o, r⟩
  · exact .base (.dK r)
  · exact .fDict r
theorem isT_ok {Z ρ : List Addr} {h : Hh} {H : Hp} {d : D} {v : V} {u : Value} {p : T1 → Option Bool} {b : Bool} {t : T1} (hK : X.K = W.K) (hp : KitOk X.K W u p) (S : Sim W Z ρ h H) (r : RD W Z ρ H d v) (e1 : ty1 h d = some t) (e2 : p t = some b) :
    ∃ tv, TyX X.K H v tv ∧ PySem.W.kitOne X.K tv u = some b := by
  obtain ⟨k1, k2, k3, k4, k5, k6, k7, k8⟩ := hp
  cases r <;> simp only [ty1] at e1
  case non => cases e1; exact ⟨_, .base .non, k1 _ e2⟩
  case bl => cases e1; exact ⟨_, .base (.bl _), k2 _ e2⟩
  case int => cases e1; exact ⟨_, .base (.int _), k3 _ e2⟩
  case str => cases e1; exact ⟨_, .base (.str _), k4 _ e2⟩
  case tup q t => cases e1; exact ⟨_, .base (.tup q), k5 _ e2⟩
  case tupK k t =>
    cases e1
    obtain ⟨o, its, n, l, c, _⟩ := k
    exact ⟨_, .kTuple (hK ▸ l) c, k5 _ e2⟩
  case lst q t => cases e1; exact ⟨_, .base (.lst q), k6 _ e2⟩
  case dct q t => cases e1; exact ⟨_, tyX_rd q, k7 _ e2⟩
  case roi q =>
    cases e1
    rcases q with ⟨_, _, q | ⟨o, q⟩⟩ | ⟨o, its, n, l, c, _⟩
    · exact ⟨_, .base (.lst q), k6 _ e2⟩
    · exact ⟨_, .base (.frz q), k6 _ e2⟩
    · exact ⟨_, .kList (hK ▸ l) c, k6 _ e2⟩
  case obj q t =>
    cases e1
    obtain ⟨h1, h2, h3, h4, h5, h6⟩ := k8 _ _ e2
    exact ⟨_, .base (.ins q h2 h3 h4 h5 h6), h1⟩
  case ref a n hn =>
    cases eo : h[n]? with
    | none => rw [eo] at e1; cases e1
    | some ob =>
      rw [eo] at e1
      have q := S.obj n ob a eo hn
      cases ob <;> dsimp only at e1 <;> cases e1
      · cases q with | lst q t => exact ⟨_, .base (.lst q), k6 _ e2⟩
      · cases q with
        | ro q t =>
          rcases q with q | ⟨o, q⟩
          · exact ⟨_, .base (.lst q), k6 _ e2⟩
          · exact ⟨_, .base (.frz q), k6 _ e2⟩
      · cases q with | dct q t => exact ⟨_, .base (.dK q), k7 _ e2⟩
      · cases q with
        | ins q t =>
          obtain ⟨h1, h2, h3, h4, h5, h6⟩ := k8 _ _ e2
          exact ⟨_, .base (.ins q h2 h3 h4 h5 h6), h1⟩
  case fn => cases e1
theorem ej_isin {cv : V} {u : Value} {pr : T1 → Option Bool} (J : Jc X W wx) (ha : EJ X W wx a fa) (hb : PE X b (tC cv)) (hcv : ClsV cv u) (hp : KitOk X.K W u pr)
    (hg : Gl X "isinstance" := by rfl) (hm : X.mg "isinstance" = none := by assumption) (hv : bootBuiltins "isinstance" = some (.builtin "isinstance") := by rfl)
    (he : starEach [a, b] X.env = (false, eval a X.env) :: starEach [b] X.env := by rfl) (he2 : starEach [b] X.env = (false, eval b X.env) :: starEach [] X.env := by rfl) (hpl : (backTo pos (starEach [b] X.env)).any (·.1) = false := by rfl) :
    EJ X W wx (.Call (.Name "isinstance" p) [a, b] [] pos) (eU (isT pr) fa) :=
  ⟨fun pins s σ H Q I ⟨Z, ρ, σd, h0, S, rs, pp⟩ => (pe_callB call_isi hg hm hv (pa_cons ha (pa_cons hb pa_nil he2) he) (by decide) (by decide) he hpl).run pins s σ H Q I
    ⟨Z, ρ, σd, h0, S, rs, (Post.bind pp).imp fun d ρ1 h1 H1 x1 S1 p1 v rv => by
      obtain ⟨r, e, hA⟩ := post_opt p1
      simp only [isT, Option.map_eq_some_iff, Option.bind_eq_some_iff] at e
      obtain ⟨bb, ⟨t, e1, e2⟩, rfl⟩ := e
      obtain ⟨tv, h1, h2⟩ := isT_ok J.hK hp S1 rv e1 e2
      exact ⟨v, cv, tv, u, bb, rfl, hcv, h1, h2, hA.now S1 (.bl _)⟩⟩⟩
def isOf (T : T1) : T1 → Option Bool
  | .own _ => none
  | .bl => some (decide (T = .bl) || decide (T = .int))
  | t => some (decide (t = T))
end
end Fw
end
section
set_option Elab.async false
set_option linter.all false
set_option maxRecDepth 100000
set_option autoImplicit false
set_option maxHeartbeats 1000000
namespace Fw
open PySem PySem.Spec PyProof.Rows L2
section
variable {W : Wd} {Z ρ : List Addr} {H : Hp} {D : Addr} {σd : Sg} {σ : L2.St}
theorem RSg.hid (r : RSg W (D :: Z) ρ H σd σ) : RSg W Z ρ (hid H D) σd σ :=
  ⟨r.len, fun i d e => let ⟨v, e1, r1⟩ := r.at_ i d e; ⟨v, e1, r1.hid⟩⟩
end
section
variable {X : Cx} {W : Wd} {wx : WX} {tg iter tg1 iter1 elt : Expr} {ifs ifs1 : List Expr} {scope : Scope} {own : List (Str × Nat)} {pos : Pos} {f : TM} {gb gb1 : BM} {it it1 : It} {src src1 : AM} {g g1 : G} {own1 : List Nat}
end
theorem jc_blk {X : Cx} {W : Wd} {wx : WX} (J : Js X W wx) (s : Shared) (H : Hp) (scope : Scope) (cenv : Env) (fp : List Addr) : Js (X.blk s H scope cenv fp) W (fun _ _ _ _ => False) where
  hK := J.hK
  hu := J.hu
  hu2 := J.hu2
  gd := J.gd
  tk := takes_none5
  hN := J.hN
  hc := J.hc
  hp := PassesOwn.never
end Fw
end
section
set_option Elab.async false
set_option linter.all false
set_option maxRecDepth 100000
set_option autoImplicit false
set_option maxHeartbeats 1000000
namespace Fw
open PySem PySem.Spec PyProof.Rows L2
theorem sortI_eq {ys ks : List Int} (p : ys.Perm ks) (s : ys.Pairwise (· ≤ ·)) : ys = sortI ks := by
  have q : (sortI ks).Pairwise (· ≤ ·) := by
    have := List.pairwise_mergeSort (le := fun a b : Int => decide (a ≤ b)) (by intro a b c; simp; omega) (by intro a b; simp; omega) ks
    exact this.imp (by simp)
  exact List.Perm.eq_of_pairwise (fun a b _ _ h1 h2 => Int.le_antisymm h1 h2) s q (p.trans (List.mergeSort_perm ks _).symm)
section
variable {X : Cx} {W : Wd}
theorem intKeys_ok {Z ρ : List Addr} {H : Hp} : ∀ {kvs : List (K1 × D)} {vs : List (Key × V)} {is : List Int}, RKs W Z ρ H kvs vs → intKeys kvs = some is → vs.map (·.1) = is.map Sum.inl
  | [], _, _, .nil, e => by simp only [intKeys, Option.some.injEq] at e; subst e; rfl
  | _ :: _, _, _, @RKs.cons _ _ _ _ k d ds v vs r t, e => by
    cases k with
    | inl i =>
      simp only [intKeys, Option.map_eq_some_iff] at e
      obtain ⟨js, e1, rfl⟩ := e
      simp [intKeys_ok t e1, keyS]
    | inr s => simp [intKeys] at e
end
end Fw
end
section
set_option Elab.async false
set_option linter.all false
set_option maxRecDepth 100000
set_option autoImplicit false
set_option maxHeartbeats 1000000
namespace Fw
open PySem PySem.Spec PyProof.Rows L2
def Callee (X : Cx) (W : Wd) (k : Nat) (f : Addr) (ps : List Str) (dvs : List V) (r : List D → Hh → R D) : Prop :=
  ∃ (fd : FuncData) (ds : List Value), FnG X.prog X.w X.K X.mg X.base (L2.CX X.prog X.w) k f fd ps (spF W r) ∧ PySem.W.keepIn X.K (.ref f) = true ∧ Binds X.K fd ps ds ∧ Vals dvs ds
def Maker (X : Cx) (W : Wd) (k cls : Nat) (ps : List Str) (dvs : List V) (r : List D → Hh → R D) : Prop :=
  ∃ (f : Addr) (fd : FuncData) (ds : List Value), Mk X.K (W.ca cls) f ∧ FnG X.prog X.w X.K X.mg X.base (L2.CX X.prog X.w) k f fd ps (spM W cls r) ∧ Binds X.K fd ps ds ∧ Vals dvs ds
section
variable {X : Cx} {W : Wd} {wx : WX} {k cls n : Nat} {f : Addr} {ps : List Str} {r : List D → Hh → R D} {x m : Str} {p pos apos : Pos} {e o : Expr} {es : List Expr} {fs fk : AM} {fo : TM} {dds : List D} {dvs : List V}
theorem ec_call (J : Jc X W wx) (C : Callee X W k f ps dvs r) (hr : RoomG k X.A) (hdd : Dfl W dds dvs) (hm : X.mg x = some (.ref f)) (ha : AJ X W wx (e :: es) fs) (hg : Gl X x := by rfl)
    (hdb : (x == ("__debug__" : Str)) = false := by decide) (he : starEach (e :: es) X.env = (false, eval e X.env) :: starEach es X.env := by rfl) (hpl : (backTo pos (starEach es X.env)).any (·.1) = false := by rfl) :
    EJ X W wx (.Call (.Name x p) (e :: es) [] pos) (eCall (fun ds h => r (ds ++ dds) h) fs) := by
  obtain ⟨fd, ds, F, hk, hb, hd⟩ := C
  exact ej_call J F hr hg hm hk hb hd hdd ha hdb he hpl
theorem ec_meth {pl : Sem Bool} (J : Jc X W wx) (C : Callee X W k f ps dvs r) (hr : RoomG k X.A) (hdd : Dfl W dds dvs) (c : Cls X.K (W.ca cls)) (hm : Meth X.K (W.ca cls) m f) (hnm : ∀ k, W.an k ≠ m) (ho : EJ X W wx o fo) (ha : AJ X W wx (e :: es) fs)
    (hst : starEach (e :: es) X.env = (false, eval e X.env) :: starEach es X.env := by rfl) (hpl : (backTo pos (starEach es X.env)).any (·.1) = false := by rfl)
    (ht : eval (.Call (.Attribute o m apos) (e :: es) [] pos) X.env = (do
      let ov ← eval o X.env
      standAt apos.atName
      let (f, first) ← holding [ov] (getMethod ov m pl)
      callWith pos f first (backTo pos (starEach (e :: es) X.env)) (backToKw pos (keywordEach [] X.env))) := by rfl) :
    EJ X W wx (.Call (.Attribute o m apos) (e :: es) [] pos) (eMeth (fun ds h => r (ds ++ dds) h) cls fo fs) := by
  obtain ⟨fd, ds, F, hk, hb, hd⟩ := C
  exact ej_meth J ho c hm hnm F hr hb hd hdd ha hst hpl ht
theorem ec_meth0 {pl : Sem Bool} (J : Jc X W wx) (C : Callee X W k f ps dvs r) (hr : RoomG k X.A) (hdd : Dfl W dds dvs) (c : Cls X.K (W.ca cls)) (hm : Meth X.K (W.ca cls) m f) (hnm : ∀ k, W.an k ≠ m) (ho : EJ X W wx o fo)
    (ht : eval (.Call (.Attribute o m apos) [] [] pos) X.env = (do
      let ov ← eval o X.env
      standAt apos.atName
      let (f, first) ← holding [ov] (getMethod ov m pl)
      callWith pos f first (backTo pos (starEach [] X.env)) (backToKw pos (keywordEach [] X.env))) := by rfl) :
    EJ X W wx (.Call (.Attribute o m apos) [] [] pos) (eMeth (fun ds h => r (ds ++ dds) h) cls fo aNil) := by
  obtain ⟨fd, ds, F, hk, hb, hd⟩ := C
  exact ej_meth0 J ho c hm hnm F hr hb hd hdd ht
theorem ec_make (J : Jc X W wx) (C : Maker X W k cls ps dvs r) (hr : RoomG (k + 1) X.A) (hdd : Dfl W dds dvs) (hm : X.mg x = some (.ref (W.ca cls))) (ha : AJ X W wx (e :: es) fs) (hg : Gl X x := by rfl)
    (hdb : (x == ("__debug__" : Str)) = false := by decide) (he : starEach (e :: es) X.env = (false, eval e X.env) :: starEach es X.env := by rfl) (hpl : (backTo pos (starEach es X.env)).any (·.1) = false := by rfl) :
    EJ X W wx (.Call (.Name x p) (e :: es) [] pos) (eCall (fun ds h => r (ds ++ dds) h) fs) := by
  obtain ⟨f, fd, ds, M, F, hb, hd⟩ := C
  exact ej_make J M F hr hg hm hb hd hdd ha hdb he hpl
def MakerK (X : Cx) (W : Wd) (k cls n : Nat) (ps ks : List Str) (gV : List V → List V → List V) (r : List D → Hh → R D) : Prop :=
  ∃ (f : Addr) (fd : FuncData) (g : List Value → List Value → List Value), Mk X.K (W.ca cls) f ∧ FnG X.prog X.w X.K X.mg X.base (L2.CX X.prog X.w) k f fd ps (spM W cls r) ∧ KBn X.K fd ps (n + 1) ks g gV
def Len (fs : AM) (n : Nat) : Prop := ∀ {σ h ds h'}, fs σ h = .ok ds h' → ds.length = n
theorem len_nil : Len aNil 0 := fun e => by cases e; rfl
theorem len_cons {f : TM} (h : Len fs n) : Len (aCons f fs) (n + 1) := fun {σ h0 ds h'} e => by
  unfold aCons at e
  cases hf : f σ h0 with
  | ok d h1 =>
    rw [hf] at e
    simp only [R.bind_ok] at e
    cases hg : fs σ h1 with
    | ok es h2 => rw [hg] at e; cases e; simp [h hg]
    | xn x h2 => rw [hg] at e; cases e
    | bad => rw [hg] at e; cases e
  | xn x h1 => rw [hf] at e; cases e
  | bad => rw [hf] at e; cases e
theorem Len.post {fs : AM} {σd : Sg} {h : Hh} {n : Nat} {Z ρ : List Addr} {H : Hp} {P : List D → List Addr → Hh → Hp → Prop} {E : XK} (hl : Len fs n) (p : Post W Z ρ H (fs σd h) P E) : Post W Z ρ H (fs σd h) (fun ds ρ h H => ds.length = n ∧ P ds ρ h H) E := by
  cases hf : fs σd h with
  | ok ds h1 => rw [hf] at p; exact fun ρ' H' x S => ⟨hl hf, p ρ' H' x S⟩
  | xn e h1 => rw [hf] at p; exact p
  | bad => rw [hf] at p; exact p
theorem ec_makeK {kws : List Keyword} {ks : List Str} {gV : List V → List V → List V} {gD : List D → List D → List D} (J : Jc X W wx) (C : MakerK X W k cls n ps ks gV r) (hr : RoomG (k + 1) X.A)
    (hgd : ∀ (v : V) {Z ρ : List Addr} {H : Hp} {ds es : List D} {vs zs : List V}, RDs W Z ρ H ds vs → RDs W Z ρ H es zs → ∃ us, gV (v :: vs) zs = v :: us ∧ RDs W Z ρ H (gD ds es) us)
    (hm : X.mg x = some (.ref (W.ca cls))) (ha : AJ X W wx (e :: es) fs) (hkw : KJ X W wx kws fk) (hl : Len fs n) (hl2 : Len fk ks.length) (hg : Gl X x := by rfl)
    (hall : (backToKw pos (keywordEach kws X.env)).all (·.1.isSome) = true := by rfl) (hks : (backToKw pos (keywordEach kws X.env)).filterMap (·.1) = ks := by rfl)
    (hdb : (x == ("__debug__" : Str)) = false := by decide) (he : starEach (e :: es) X.env = (false, eval e X.env) :: starEach es X.env := by rfl)
    (hpl : ((backTo pos (starEach (e :: es) X.env)).any (·.1) || (backToKw pos (keywordEach kws X.env)).any (·.1.isNone)) = false := by rfl) :
    EJ X W wx (.Call (.Name x p) (e :: es) kws pos) (eCallK r gD fs fk) := by
  obtain ⟨f, fd, g, M, F, hb⟩ := C
  refine ⟨fun pins s σ H Q I ⟨Z, ρ, σd, h0, S, rs, pp⟩ => ?_⟩
  refine wpAny_Call_Name_kw (ld_glob I hg hm ?_ hdb)
  refine PySem.W.callWith_KW (h₀ := X.base) I.ok.mod.kin M.kp hall (thn (ha.run pos pins s σ H (fun vs H1 => vs.length = n ∧ tA W wx fk σ H1 fun zs H2 => zs.length = ks.length ∧
      ∀ x dx, H2 x = none → H2 dx = none → dx ≠ x → spM W cls r (gV (.ref x :: vs) zs) (upd (upd H2 dx (.own x)) x (.ins (W.ca cls) dx [])) (fun v H2 => v = .non ∧ Q (.ref x) H2) fun cls dd H => wx cls dd σ H) I
    ⟨Z, ρ, σd, h0, S, rs, (hl.post (Post.bind pp)).imp fun ds1 ρ1 h1 H1 x1 S1 p1 vs rvs => ?_⟩) fun us s1 ⟨vs, H1, I1, r, hln, q⟩ => ?_) hpl he
  · refine ⟨by rw [← rvs.length]; exact p1.1, Z, ρ1, σd, h1, S1, rs.mono x1, (hl2.post (Post.bind p1.2)).imp fun es2 ρ2 h2 H2 x2 S2 p2 zs rzs => ⟨by rw [← rzs.length]; exact p2.1, fun x dx hx hdx hne => ?_⟩⟩
    obtain ⟨us, e1, ru⟩ := hgd (.ref x) (rvs.mono x2) rzs
    rw [e1]
    exact spM_of S2 ru p2.2 x dx hx hdx hne
  · refine thn (hkw.run pos pins s1 σ H1 _ I1 q) fun ws s2 ⟨zs, H2, I2, rz, hl2', q2⟩ => ⟨I2.kIn, ?_⟩
    rw [hks]
    have hq := q2 (s2.heap.objs.size + 1) s2.heap.objs.size (I2.hok.fresh (Nat.le_succ _)) (I2.hok.fresh (Nat.le_refl _)) (Nat.ne_of_lt (Nat.lt_succ_self _))
    have I3 := Inv.made (C := W.ca cls) I2
    have rr : RelV (.ref (s2.heap.objs.size + 1)) (Value.ref (s2.heap.objs.size + 1)) := rfl
    refine wpAny_call (make_map (f := f) I2.kIn M.makes M.init (beq_iff_eq.mp M.fn) (codeAny_mono (F.run _ X.stack _ _ ⟨Value.ref (s2.heap.objs.size + 1) :: us, ks.zip ws⟩ (g (Value.ref (s2.heap.objs.size + 1) :: us) ws) _ _ _ (hr.make' _ us (ks.zip ws))
      (I3.env0.make _ us (ks.zip ws)) (hb.to _ (Value.ref (s2.heap.objs.size + 1) :: us) ws I3.kIn (by rw [List.length_cons, ← r.length, hln]) (by rw [← rz.length]; exact hl2')) (hb.rel (Paired.cons rr r) rz) hq) fun r s' hq' => ?_))
    cases r with
    | error e => exact passAt J.tk σ pins _ _ e s' I3 hq'
    | ok fl =>
      cases fl with
      | ret u =>
        obtain ⟨v, H', I4, rv, ev, q3⟩ := I3.after hq'
        subst ev
        exact ⟨rv, ⟨V.ref (s2.heap.objs.size + 1), H', I4, rfl, q3⟩⟩
      | next => exact False.elim hq'
      | brk => exact False.elim hq'
      | cont => exact False.elim hq'
end
end Fw
end
section
set_option Elab.async false
set_option linter.all false
set_option maxRecDepth 100000
set_option autoImplicit false
set_option maxHeartbeats 1000000
namespace Fw
open PySem PySem.Spec PyProof.Rows L2
def eNewCat (a b : TM) : TM := fun σ h => (a σ h).bind fun d h => (b σ h).bind fun e h => match asLst h d, asLst h e with
  | some xs, some ys => if xs.length + ys.length ≤ line then .ok (.ref h.length) (h ++ [.lst (xs ++ ys)]) else .bad
  | _, _ => .bad
section
variable {X : Cx} {W : Wd} {wx : WX} {a b e : Expr} {fa fb : TM} {pos : Pos} {x : Str}
theorem ej_gi {i : Int} (hm : ∃ t, X.mg x = some (.int i t)) (hg : Gl X x := by rfl) (hd : (x == ("__debug__" : Str)) = false := by decide) : EJ X W wx (.Name x pos) (eC (.int i)) := by
  obtain ⟨t, e⟩ := hm
  exact ej_c (pe_glob (v := .int i) hg e ⟨t, rfl⟩ hd) fun _ _ _ => .int i
end
section
variable {K : PySem.W.Frag} {W : Wd}
theorem kit_of {u : String} {T : T1} (h : kitB "NoneType" u = some (decide (T1.non = T)) ∧ kitB "bool" u = some (decide (T = .bl) || decide (T = .int)) ∧ kitB "int" u = some (decide (T1.int = T)) ∧ kitB "str" u = some (decide (T1.str = T)) ∧
    kitB "tuple" u = some (decide (T1.tup = T)) ∧ kitB "list" u = some (decide (T1.lst = T)) ∧ kitB "dict" u = some (decide (T1.dct = T))) : KitOk K W (.type u) (isOf T) := by
  obtain ⟨h1, h2, h3, h4, h5, h6, h7⟩ := h
  refine ⟨?_, ?_, ?_, ?_, ?_, ?_, ?_, ?_⟩
  · intro b e; simp only [isOf, Option.some.injEq] at e; subst e; exact kit_ty h1
  · intro b e; simp only [isOf, Option.some.injEq] at e; subst e; exact kit_ty h2
  · intro b e; simp only [isOf, Option.some.injEq] at e; subst e; exact kit_ty h3
  · intro b e; simp only [isOf, Option.some.injEq] at e; subst e; exact kit_ty h4
  · intro b e; simp only [isOf, Option.some.injEq] at e; subst e; exact kit_ty h5
  · intro b e; simp only [isOf, Option.some.injEq] at e; subst e; exact kit_ty h6
  · intro b e; simp only [isOf, Option.some.injEq] at e; subst e; exact kit_ty h7
  · intro c b e; simp [isOf] at e
theorem kit_int : KitOk K W (.type "int") (isOf .int) := kit_of (by decide +kernel)
theorem kit_bool : KitOk K W (.type "bool") (isOf .bl) := kit_of (by decide +kernel)
theorem kit_str : KitOk K W (.type "str") (isOf .str) := kit_of (by decide +kernel)
theorem kit_tuple : KitOk K W (.type "tuple") (isOf .tup) := kit_of (by decide +kernel)
end
def anOf (l : List Str) (k : Nat) : Str := match l[k]? with
  | some s => s
  | none => ⟨#[3000000 + k]⟩
theorem anOf_inj {l : List Str} (nd : l.Nodup) (hs : (l.all fun s => s.cps.toList.all fun c => decide (c < 3000000)) = true) : ∀ j k, anOf l j = anOf l k → j = k := by
  have big : ∀ (s : Str) (n : Nat), s ∈ l → s ≠ ⟨#[3000000 + n]⟩ := by
    intro s n hm e
    have h1 := List.all_eq_true.mp hs s hm
    rw [e] at h1
    simp at h1
    omega
  intro j k e
  unfold anOf at e
  cases hj : l[j]? with
  | some s =>
    cases hk : l[k]? with
    | some t =>
      rw [hj, hk] at e
      simp only at e
      subst e
      exact (List.getElem?_inj (List.getElem?_eq_some_iff.mp hj).1 nd).mp (hj.trans hk.symm)
    | none => rw [hj, hk] at e; exact absurd e (big s k (List.mem_of_getElem? hj))
  | none =>
    cases hk : l[k]? with
    | some t => rw [hj, hk] at e; exact absurd e.symm (big t j (List.mem_of_getElem? hk))
    | none =>
      rw [hj, hk] at e
      simp at e
      omega
theorem anOf_ne {l : List Str} {m : Str} (h : (l.all fun s => decide (s ≠ m)) = true) (h2 : (m.cps.toList.all fun c => decide (c < 3000000)) = true) : ∀ k, anOf l k ≠ m := by
  intro k e
  unfold anOf at e
  cases hk : l[k]? with
  | some s =>
    rw [hk] at e
    have := List.all_eq_true.mp h s (List.mem_of_getElem? hk)
    simp at this
    exact this e
  | none =>
    rw [hk] at e
    subst e
    simp at h2
    omega
abbrev FnD (K : PySem.W.Frag) (d : He.DefD) (fd : FuncData) : Prop := FunD K d.name d.qual d.params d.body d.scope (d.dvs K) (d.kws K) (He.fAd K d.at_) fd
def CalleeB (P : Program) (w : World) (K : PySem.W.Frag) (mg : Str → Option Value) (base : Heap) (W : Wd) (k : Nat) (f : Addr) (ps : List Str) (dvs : List V) (r : List D → Hh → R D) : Prop :=
  ∃ (fd : FuncData) (ds : List Value), FnG P w K mg base (L2.CX P w) k f fd ps (spF W r) ∧ PySem.W.keepIn K (.ref f) = true ∧ Binds K fd ps ds ∧ Vals dvs ds
def MakerB (P : Program) (w : World) (K : PySem.W.Frag) (mg : Str → Option Value) (base : Heap) (W : Wd) (k cls : Nat) (ps : List Str) (dvs : List V) (r : List D → Hh → R D) : Prop :=
  ∃ (f : Addr) (fd : FuncData) (ds : List Value), Mk K (W.ca cls) f ∧ FnG P w K mg base (L2.CX P w) k f fd ps (spM W cls r) ∧ Binds K fd ps ds ∧ Vals dvs ds
def MakerKB (P : Program) (w : World) (K : PySem.W.Frag) (mg : Str → Option Value) (base : Heap) (W : Wd) (k cls n : Nat) (ps ks : List Str) (gV : List V → List V → List V) (r : List D → Hh → R D) : Prop :=
  ∃ (f : Addr) (fd : FuncData) (g : List Value → List Value → List Value), Mk K (W.ca cls) f ∧ FnG P w K mg base (L2.CX P w) k f fd ps (spM W cls r) ∧ KBn K fd ps (n + 1) ks g gV
def kwA (p : Str × Option Str) (x : Str) (K : PySem.W.Frag) : Addr := match K.lookup (He.fAd K p) with
  | some ⟨_, _, .func fd, _⟩ => (match fd.kwdefaults with
    | .ref D => (match PySem.W.nsIn K D x with
      | some (some (.ref a)) => a
      | _ => 0)
    | _ => 0)
  | _ => 0
theorem spF_bad {W : Wd} {vs : List V} {H : Hp} {Q : VK} {E : XK} (p : spF W (fun _ _ => .bad) vs H Q E) : False := by
  obtain ⟨Z, ρ, h, ds, S, r, p⟩ := p
  exact p
theorem spM_bad {W : Wd} {c : Nat} {vs : List V} {H : Hp} {Q : VK} {E : XK} (p : spM W c (fun _ _ => .bad) vs H Q E) : False := by
  obtain ⟨x, dx, us, H0, _, _, _, _, _, Z, ρ, h, ds, S, r, p⟩ := p
  exact p
theorem fn_bad {P : Program} {w : World} {K : PySem.W.Frag} {mg : Str → Option Value} {base : Heap} {W : Wd} {k : Nat} {f : Addr} {fd : FuncData} {ps : List Str} : FnG P w K mg base (L2.CX P w) k f fd ps (spF W fun _ _ => .bad) :=
  ⟨fun _ _ _ _ p => (spF_bad p).elim, fun _ _ _ _ _ _ _ _ _ _ _ _ _ p => (spF_bad p).elim⟩
theorem fn_badM {P : Program} {w : World} {K : PySem.W.Frag} {mg : Str → Option Value} {base : Heap} {W : Wd} {k c : Nat} {f : Addr} {fd : FuncData} {ps : List Str} : FnG P w K mg base (L2.CX P w) k f fd ps (spM W c fun _ _ => .bad) :=
  ⟨fun _ _ _ _ p => (spM_bad p).elim, fun _ _ _ _ _ _ _ _ _ _ _ _ _ p => (spM_bad p).elim⟩
end Fw
end
section
set_option Elab.async false
set_option linter.all false
set_option maxRecDepth 100000
set_option autoImplicit false
set_option maxHeartbeats 1000000
namespace Fw
open PySem PySem.Spec PyProof.Rows L2
def CalleeK (X : Cx) (W : Wd) (k : Nat) (f : Addr) (n : Nat) (ps ks : List Str) (gV : List V → List V → List V) (r : List D → Hh → R D) : Prop :=
  ∃ (fd : FuncData) (g : List Value → List Value → List Value), FnG X.prog X.w X.K X.mg X.base (L2.CX X.prog X.w) k f fd ps (spF W r) ∧ PySem.W.keepIn X.K (.ref f) = true ∧ KBn X.K fd ps n ks g gV
section
variable {X : Cx} {W : Wd} {wx : WX} {k cls n : Nat} {f : Addr} {ps : List Str} {r : List D → Hh → R D} {x m : Str} {p pos apos : Pos} {e o : Expr} {es : List Expr} {fs fk : AM} {fo fa : TM} {dds : List D} {dvs : List V}
end
section
variable {prog : Program} {w : World} {A : Around} {E : Value → Shared → Prop} {s : Shared}
end
def revD (h : Hh) (d : D) : Option D := match d with
  | .tup xs => some (.tup xs.reverse)
  | d => (asLst h d).map fun xs => .lst xs.reverse
section
variable {X : Cx} {W : Wd} {wx : WX}
def tRev2 (K : PySem.W.Frag) (te : TE) : TE := fun σ H Q => te σ H fun x H1 => ∃ a xs, x = .ref a ∧ ((SqL K H1 a xs ∧ ∀ p, H1 p = none → Q (.ref p) (upd H1 p (.lst xs.reverse))) ∨ (SqT K H1 a xs ∧ ∀ p, H1 p = none → Q (.ref p) (upd H1 p (.tup xs.reverse))))
end
end Fw
end
section
set_option Elab.async false
set_option linter.all false
set_option maxRecDepth 100000
set_option autoImplicit false
set_option maxHeartbeats 1000000
namespace Fw
open PySem PySem.Spec PyProof.Rows L2
mutual
def D.dat : D → PyData
  | .non => .none
  | .bl b => .bool b
  | .int i => .int i
  | .str s => .str ⟨s.toArray⟩
  | .tup xs => .tuple (datAll xs)
  | .lst xs => .list (datAll xs)
  | .dct kvs => .dict (datK kvs)
  | _ => .none
def datAll : List D → List PyData
  | [] => []
  | x :: xs => x.dat :: datAll xs
def datK : List (K1 × D) → List (PyData × PyData)
  | [] => []
  | x :: xs => ((match x.1 with | .inl i => .int i | .inr s => .str ⟨s.toArray⟩), x.2.dat) :: datK xs
end
def neatKey (k : K1) : Bool := match k with
  | .inl i => decide (i.natAbs.log2 < 1920)
  | .inr _ => true
mutual
def D.neat : D → Bool
  | .non => true
  | .bl _ => true
  | .int i => decide (i.natAbs.log2 < 1920)
  | .str _ => true
  | .tup xs => neatAll xs
  | .lst xs => neatAll xs
  | .dct kvs => neatK kvs
  | _ => false
def neatAll : List D → Bool
  | [] => true
  | x :: xs => x.neat && neatAll xs
def neatK : List (K1 × D) → Bool
  | [] => true
  | x :: xs => neatKey x.1 && x.2.neat && neatK xs
end
def reprT (d : D) : Tx := d.dat.shown.cps.toList
def KeyDat (k : K1) : PyData := match k with
  | .inl i => .int i
  | .inr s => .str ⟨s.toArray⟩
theorem datK_keys : ∀ ds : List (K1 × D), (datK ds).map (·.1) = ds.map fun q => KeyDat q.1
  | [] => by simp [datK]
  | x :: xs => by
    simp only [datK, List.map_cons, datK_keys xs]
    rfl
theorem datK_vals : ∀ ds : List (K1 × D), (datK ds).map (·.2) = datAll (ds.map (·.2))
  | [] => by simp [datK, datAll]
  | x :: xs => by simp only [datK, List.map_cons, datK_vals xs, datAll]
section
variable {X : Cx} {W : Wd} {pins : List (Addr × Obj)} {σ : L2.St} {H : Hp} {s : Shared} {Z ρ : List Addr}
def Nest (X : Cx) (s : Shared) (u : Value) (p : PyData) : Prop := ∃ as bs, Reads s.heap u p as ∧ ReadAtMost s.heap p.depth bs ∧ ReprK X.prog X.w bs s.heap p.depth u p.shown
def NestAll (X : Cx) (s : Shared) (us : List Value) (ps : List PyData) : Prop := ∃ as bs, ReadsAll s.heap us ps as ∧ ReadAtMost s.heap (PyData.depthAll ps) bs ∧ ReprAllK X.prog X.w bs s.heap (PyData.depthAll ps) us (PyData.shownAll ps)
theorem NestAll.nil : NestAll X s [] [] := ⟨[], [], .nil, (fun _ h => nomatch h), by simp only [PyData.shownAll]; exact .nil⟩
theorem NestAll.cons {u : Value} {us : List Value} {p : PyData} {ps : List PyData} (h : Nest X s u p) (t : NestAll X s us ps) : NestAll X s (u :: us) (p :: ps) := by
  obtain ⟨as, bs, r1, m1, k1⟩ := h
  obtain ⟨as', bs', r2, m2, k2⟩ := t
  refine ⟨as ++ as', bs ++ bs', .cons r1 r2, ?_, ?_⟩
  · simp only [PyData.depthAll]
    exact (m1.mono (Nat.le_max_left _ _)).append (m2.mono (Nat.le_max_right _ _))
  · simp only [PyData.depthAll, PyData.shownAll]
    exact .cons ((k1.more fun b hb => List.mem_append_left _ hb).level_le (Nat.le_max_left _ _)) (k2.more_le (fun b hb => List.mem_append_right _ hb) (Nat.le_max_right _ _))
theorem nest_key {k : K1} {u : Value} (h : keyIs (keyS k) u = true) (hn : neatKey k = true) (hz : (KeyDat k).shown.length ≤ sizeLine) : Nest X s u (KeyDat k) := by
  rcases keyIs_shape h with ⟨i, t, e, rfl⟩ | ⟨x, t, e, rfl⟩
  · cases k with
    | inr y => cases e
    | inl j =>
      cases e
      refine ⟨[], [], .int _ t, (fun _ h => nomatch h), ?_⟩
      simp only [KeyDat, PyData.shown]
      exact .of_is (ReprIs.int t (by simpa [neatKey] using hn)) _ _ _
  · cases k with
    | inl y => cases e
    | inr y =>
      cases e
      refine ⟨[], [], .str _ t, (fun _ h => nomatch h), ?_⟩
      simp only [KeyDat, PyData.shown, toS]
      exact .of_is (ReprIs.str _ t (by simpa only [KeyDat, PyData.shown, toS] using hz)) _ _ _
mutual
theorem nest (I : Inv X pins σ H s) : ∀ {d : D} {v : V}, RD W Z ρ H d v → d.neat = true → d.dat.shown.length ≤ sizeLine → X.K = W.K → ∀ u, RelV v u → Nest X s u d.dat
  | _, _, .non, _, _, _, _, r => by
    cases r
    exact ⟨[], [], by simp only [D.dat]; exact .none, fun _ h => (nomatch h), by simp only [D.dat, PyData.shown]; exact .of_is ReprIs.none _ _ _⟩
  | _, _, .bl b, _, _, _, _, r => by
    cases r
    exact ⟨[], [], by simp only [D.dat]; exact .bool b, fun _ h => (nomatch h), by simp only [D.dat, PyData.shown]; exact .of_is (ReprIs.bool b) _ _ _⟩
  | _, _, .int i, h, _, _, _, r => by
    obtain ⟨t, rfl⟩ := r
    exact ⟨[], [], by simp only [D.dat]; exact .int i t, fun _ h => (nomatch h), by simp only [D.dat, PyData.shown]; exact .of_is (ReprIs.int t (by simpa [D.neat] using h)) _ _ _⟩
  | _, _, .str x, _, hz, _, _, r => by
    obtain ⟨t, rfl⟩ := r
    refine ⟨[], [], by simp only [D.dat]; exact .str _ t, fun _ h => (nomatch h), ?_⟩
    simp only [D.dat, PyData.shown] at hz ⊢
    exact .of_is (ReprIs.str _ t hz) _ _ _
  | _, _, .tup (a := a) (ds := ds) _ _ q t, h, hz, hK, _, r => by
    cases r
    simp only [D.dat, PyData.shown] at hz
    obtain ⟨its, rv, ⟨o, ho, hc, n, hd⟩, _⟩ := I.tuple (SqT.of (K := X.K) q)
    obtain ⟨as, bs, r1, m1, k1⟩ := nestAll I t (by simpa [D.neat] using h) (fun z hz' => Nat.le_trans (tupleText_mem_le hz') hz) hK its rv
    have rd : Reads s.heap (.ref a) (.tuple (datAll ds)) _ := .tuple ho hc hd r1
    have hna : a ∉ bs := not_mem_of_deeper rd (by simp only [PyData.depth]; omega) m1
    refine ⟨_, a :: bs, by simp only [D.dat]; exact rd, by simp only [D.dat]; exact ReadAtMost.cons rd (by simp only [PyData.depth]; omega) m1, ?_⟩
    simp only [D.dat, PyData.depth, PyData.shown]
    exact ReprK.tuple ho hc hd hna k1
  | _, _, .tupK (a := a) (ds := ds) q t, h, hz, hK, _, r => by
    cases r
    simp only [D.dat, PyData.shown] at hz
    obtain ⟨its, rv, ⟨o, ho, hc, n, hd⟩, _⟩ := I.tuple (.inr (hK ▸ q))
    obtain ⟨as, bs, r1, m1, k1⟩ := nestAll I t (by simpa [D.neat] using h) (fun z hz' => Nat.le_trans (tupleText_mem_le hz') hz) hK its rv
    have rd : Reads s.heap (.ref a) (.tuple (datAll ds)) _ := .tuple ho hc hd r1
    have hna : a ∉ bs := not_mem_of_deeper rd (by simp only [PyData.depth]; omega) m1
    refine ⟨_, a :: bs, by simp only [D.dat]; exact rd, by simp only [D.dat]; exact ReadAtMost.cons rd (by simp only [PyData.depth]; omega) m1, ?_⟩
    simp only [D.dat, PyData.depth, PyData.shown]
    exact ReprK.tuple ho hc hd hna k1
  | _, _, .lst (a := a) (ds := ds) _ _ q t, h, hz, hK, _, r => by
    cases r
    simp only [D.dat, PyData.shown] at hz
    obtain ⟨its, rv, ⟨o, n, ho, hc, _, hd⟩, _⟩ := I.list (SqL.of (K := X.K) q)
    obtain ⟨as, bs, r1, m1, k1⟩ := nestAll I t (by simpa [D.neat] using h) (fun z hz' => Nat.le_trans (listText_mem_le hz') hz) hK its rv
    have rd : Reads s.heap (.ref a) (.list (datAll ds)) _ := .list ho hc hd r1
    have hna : a ∉ bs := not_mem_of_deeper rd (by simp only [PyData.depth]; omega) m1
    refine ⟨_, a :: bs, by simp only [D.dat]; exact rd, by simp only [D.dat]; exact ReadAtMost.cons rd (by simp only [PyData.depth]; omega) m1, ?_⟩
    simp only [D.dat, PyData.depth, PyData.shown]
    cases its with
    | nil =>
      cases rv
      cases t
      simp only [datAll, PyData.shownAll, listText_nil]
      exact (ReprK.listEmpty ho hc hd).more fun b hb => hb
    | cons y l => exact ReprK.list ho hc hd hna (by simpa using k1.length_eq) (fun i y e => k1.item i y (by simpa using e))
  | _, _, .dct (a := a) (kds := ds) _ _ q t, h, hz, hK, _, r => by
    cases r
    simp only [D.dat, PyData.shown] at hz
    obtain ⟨_, hsys, vs, kv, o, es, ep, ho, hx, hd, _, hp, _⟩ := dk_rd I.hok q
    obtain ⟨⟨as, bs, r1, m1, k1⟩, ⟨cs, ds', r2, m2, k2⟩⟩ := nestK I t (by simpa [D.neat] using h)
      (fun z hz' => let ⟨p, hp, hl⟩ := PyData.shownKv_key_le _ z (by rw [datK_keys]; exact hz'); Nat.le_trans hl (Nat.le_trans (dictText_mem_le hp) hz))
      (fun z hz' => let ⟨p, hp, hl⟩ := PyData.shownKv_val_le _ z (by rw [datK_vals]; exact hz'); Nat.le_trans hl (Nat.le_trans (dictText_mem_le hp) hz)) hK kv hp
    have rd : Reads s.heap (.ref a) (.dict (datK ds)) _ := .dict ho hx.1 hd (by rw [datK_keys]; exact r1) (by rw [datK_vals]; exact r2)
    rw [← datK_keys] at m1 k1
    rw [← datK_vals] at m2 k2
    have mm : ReadAtMost s.heap (PyData.depthKv (datK ds)) (bs ++ ds') := (m1.mono (PyData.depthAll_keys_le _)).append (m2.mono (PyData.depthAll_vals_le _))
    have hna : a ∉ bs ++ ds' := not_mem_of_deeper rd (by simp only [PyData.depth]; omega) mm
    refine ⟨_, a :: (bs ++ ds'), by simp only [D.dat]; exact rd, by simp only [D.dat]; exact ReadAtMost.cons rd (by simp only [PyData.depth]; omega) mm, ?_⟩
    simp only [D.dat, PyData.depth, PyData.shown, PyData.shownKv_eq]
    exact ReprK.dict ho hx.1 hd hsys hna (ReprEntriesK.of_two es.toList _ _ (k1.more_le (fun b hb => List.mem_append_left _ hb) (PyData.depthAll_keys_le _)) (k2.more_le (fun b hb => List.mem_append_right _ hb) (PyData.depthAll_vals_le _)))
  | _, _, .obj _ _ _ _, h, _, _, _, _ => by simp [D.neat] at h
  | _, _, .ref _, h, _, _, _, _ => by simp [D.neat] at h
  | _, _, .fn _, h, _, _, _, _ => by simp [D.neat] at h
  | _, _, .roi _, h, _, _, _, _ => by simp [D.neat] at h
theorem nestAll (I : Inv X pins σ H s) : ∀ {ds : List D} {vs : List V}, RDs W Z ρ H ds vs → neatAll ds = true → (∀ t ∈ PyData.shownAll (datAll ds), t.length ≤ sizeLine) → X.K = W.K → ∀ us, Vals vs us → NestAll X s us (datAll ds)
  | _, _, .nil, _, _, _, _, r => by
    cases r
    simp only [datAll]
    exact .nil
  | _, _, .cons r t, h, hz, hK, _, rv => by
    cases rv with
    | cons r1 r2 =>
      simp only [neatAll, Bool.and_eq_true] at h
      simp only [datAll, PyData.shownAll] at hz ⊢
      exact .cons (nest I r h.1 (hz _ List.mem_cons_self) hK _ r1) (nestAll I t h.2 (fun z hz' => hz z (List.mem_cons_of_mem _ hz')) hK _ r2)
theorem nestK (I : Inv X pins σ H s) : ∀ {ds : List (K1 × D)} {vs : List (Key × V)}, RKs W Z ρ H ds vs → neatK ds = true → (∀ t ∈ PyData.shownAll (ds.map fun q => KeyDat q.1), t.length ≤ sizeLine) → (∀ t ∈ PyData.shownAll (datAll (ds.map (·.2))), t.length ≤ sizeLine) → X.K = W.K →
    ∀ {us : List (Key × Value)} {es : List DictEntry}, KV vs us → Pairs (mixKind X.prog X.w) es us → NestAll X s (es.map (·.key)) (ds.map fun q => KeyDat q.1) ∧ NestAll X s (es.map (·.val)) (datAll (ds.map (·.2)))
  | _, _, .nil, _, _, _, _, _, _, kv, hp => by
    cases kv
    cases hp
    simp only [List.map_nil, datAll]
    exact ⟨.nil, .nil⟩
  | _, _, .cons (k := k) r t, h, hz, hy, hK, _, _, kv, hp => by
    cases kv with
    | cons q kv =>
      cases hp with
      | cons h1 h2 hp =>
        simp only [neatK, Bool.and_eq_true] at h
        simp only [List.map_cons, PyData.shownAll, datAll] at hz hy ⊢
        obtain ⟨i1, i2⟩ := nestK I t h.2 (fun z hz' => hz z (List.mem_cons_of_mem _ hz')) (fun z hz' => hy z (List.mem_cons_of_mem _ hz')) hK kv hp
        obtain ⟨q1, q2⟩ := q
        refine ⟨.cons (nest_key (by have q1' := q1; simp only at q1'; rw [q1']; exact h1) h.1.1 (hz _ List.mem_cons_self)) i1, .cons (h2 ▸ nest I r h.1.2 (hy _ List.mem_cons_self) hK _ q2) i2⟩
end
theorem shows_lst (I : Inv X pins σ H s) (hK : X.K = W.K) {a : Addr} {ds : List D} {vs : List V} (q : H a = some (.lst vs)) (t : RDs W Z ρ H ds vs) (h : neatAll ds = true) (hz : (listText (PyData.shownAll (datAll ds))).length ≤ sizeLine) :
    ∃ T idr, ShowsBy X.prog X.w s.heap a (.list (datAll ds)) T idr := by
  obtain ⟨its, rv, ⟨o, n, ho, hc, _, hd⟩, _⟩ := I.list (SqL.of (K := X.K) q)
  obtain ⟨as, bs, r1, m1, k1⟩ := nestAll I t h (fun z hz' => Nat.le_trans (listText_mem_le hz') hz) hK its rv
  have rd : Reads s.heap (.ref a) (.list (datAll ds)) _ := .list ho hc hd r1
  have hna : a ∉ bs := not_mem_of_deeper rd (by simp only [PyData.depth]; omega) m1
  refine ⟨"list", "list.__repr__", PySem.F.slot_list_repr.toG, PySem.F.slot_list_str, PySem.F.slot_list_format, fun s hk => ⟨o, hk _ _ ho, hc⟩, fun A E s' Q hg hu hk hQ => ?_⟩
  simp only [PyData.depth] at hu
  simp only [PyData.shown] at hQ
  cases its with
  | nil =>
    cases rv
    cases t
    simp only [datAll, PyData.shownAll, listText_nil] at hQ
    exact call_list_repr_empty ⟨o, hk _ _ ho, hc⟩ (hk _ _ ho) hd (hQ s'.heap _ _ fun _ _ e => e)
  | cons x l => exact call_list_reprK ho hc hd hna (by simpa using k1.length_eq) (fun i y e => k1.item i y (by simpa using e)) hg (fun b _ => Clear.nil b) hu hk hQ hz
theorem shows_tup (I : Inv X pins σ H s) (hK : X.K = W.K) {a : Addr} {ds : List D} {vs : List V} (q : SqT X.K H a vs) (t : RDs W Z ρ H ds vs) (h : neatAll ds = true) (hz : (tupleText (PyData.shownAll (datAll ds))).length ≤ sizeLine) :
    ∃ T idr, ShowsBy X.prog X.w s.heap a (.tuple (datAll ds)) T idr := by
  obtain ⟨its, rv, ⟨o, ho, hc, n, hd⟩, _⟩ := I.tuple q
  obtain ⟨as, bs, r1, m1, k1⟩ := nestAll I t h (fun z hz' => Nat.le_trans (tupleText_mem_le hz') hz) hK its rv
  have rd : Reads s.heap (.ref a) (.tuple (datAll ds)) _ := .tuple ho hc hd r1
  have hna : a ∉ bs := not_mem_of_deeper rd (by simp only [PyData.depth]; omega) m1
  refine ⟨"tuple", "tuple.__repr__", PySem.F.slot_tuple_repr, PySem.F.slot_tuple_str, PySem.F.slot_tuple_format, fun s hk => ⟨o, hk _ _ ho, hc⟩, fun A E s' Q hg hu hk hQ => ?_⟩
  simp only [PyData.depth] at hu
  simp only [PyData.shown] at hQ
  exact call_tuple_reprK ho hc hd hna k1 hg (fun b _ => Clear.nil b) hu hk hQ hz
theorem shows_dct (I : Inv X pins σ H s) (hK : X.K = W.K) {a : Addr} {ds : List (K1 × D)} {vs : List (Key × V)} (q : Rd H a (.dK vs)) (t : RKs W Z ρ H ds vs) (h : neatK ds = true) (hz : (dictText (PyData.shownKv (datK ds))).length ≤ sizeLine) :
    ∃ T idr, ShowsBy X.prog X.w s.heap a (.dict (datK ds)) T idr := by
  obtain ⟨_, hsys, us, kv, o, es, ep, ho, hx, hd, _, hp, _⟩ := dk_rd I.hok q
  obtain ⟨⟨as, bs, r1, m1, k1⟩, ⟨cs, ds', r2, m2, k2⟩⟩ := nestK I t h
    (fun z hz' => let ⟨p, hp, hl⟩ := PyData.shownKv_key_le _ z (by rw [datK_keys]; exact hz'); Nat.le_trans hl (Nat.le_trans (dictText_mem_le hp) hz))
    (fun z hz' => let ⟨p, hp, hl⟩ := PyData.shownKv_val_le _ z (by rw [datK_vals]; exact hz'); Nat.le_trans hl (Nat.le_trans (dictText_mem_le hp) hz)) hK kv hp
  have rd : Reads s.heap (.ref a) (.dict (datK ds)) _ := .dict ho hx.1 hd (by rw [datK_keys]; exact r1) (by rw [datK_vals]; exact r2)
  rw [← datK_keys] at m1 k1
  rw [← datK_vals] at m2 k2
  have mm : ReadAtMost s.heap (PyData.depthKv (datK ds)) (bs ++ ds') := (m1.mono (PyData.depthAll_keys_le _)).append (m2.mono (PyData.depthAll_vals_le _))
  have hna : a ∉ bs ++ ds' := not_mem_of_deeper rd (by simp only [PyData.depth]; omega) mm
  refine ⟨"dict", "dict.__repr__", PySem.F.slot_dict_repr, PySem.F.slot_dict_str, PySem.F.slot_dict_format, fun s hk => ⟨o, hk _ _ ho, hx.1⟩, fun A E s' Q hg hu hk hQ => ?_⟩
  simp only [PyData.depth] at hu
  simp only [PyData.shown, PyData.shownKv_eq] at hQ
  exact call_dict_reprK ho hx.1 hd hsys hna (ReprEntriesK.of_two es.toList _ _ (k1.more_le (fun b hb => List.mem_append_left _ hb) (PyData.depthAll_keys_le _)) (k2.more_le (fun b hb => List.mem_append_right _ hb) (PyData.depthAll_vals_le _)))
    hg (fun b _ => Clear.nil b) hu hk hQ (by rw [← PyData.shownKv_eq]; exact hz)
end
def ownV (h : Hh) (d : D) : Option D := match d with
  | .ref n => (match h[n]? with
    | some (.lst xs) => some (.lst xs)
    | some (.dct kvs) => some (.dct kvs)
    | _ => none)
  | d => some d
def reprV (h : Hh) (d : D) : Option D := (ownV h d).bind fun e => if e.neat = true ∧ e.dat.depth ≤ 170 ∧ (reprT e).length ≤ line then some (.str (reprT e)) else none
section
variable {X : Cx} {W : Wd}
theorem cl_repr (hK : X.K = W.K) (hu : X.A.units + 190 < cLine) (hg : X.A.guards = some []) : CallR X (.builtin "repr") (r1 W reprV) := by
  intro pins s σ H xs us Q I rv ⟨Z, ρ, h, d, r, v, hx, S, rd, e, hA⟩
  subst hx
  obtain ⟨u, rfl, ru⟩ := vals1 rv
  simp only [reprV, Option.bind_eq_some_iff] at e
  obtain ⟨d', e1, e2⟩ := e
  split at e2
  case isFalse => cases e2
  case isTrue hc =>
  cases e2
  obtain ⟨c1, c2, c3⟩ := hc
  have c3' : d'.dat.shown.length ≤ sizeLine := by
    rw [line_eq] at c3
    have : (reprT d').length = d'.dat.shown.length := by simp [reprT, Str.length]
    omega
  have fin : ∀ (s' : Shared) (t : Tok), Inv X pins σ H s' → EP X pins σ Q (.str d'.dat.shown t) s' := fun s' t I' => by
    refine ⟨.str d'.dat.shown, H, I', ⟨t, rfl⟩, ?_⟩
    have := hA.now S (v := .str (toS (reprT d'))) (.str _)
    rwa [reprT, toS_of] at this
  have cont : ∀ {a : Addr} {p : PyData}, p = d'.dat → (∃ T idr, ShowsBy X.prog X.w s.heap a p T idr) → wpAny (model X.prog X.w) X.A (call (.builtin "repr") [.ref a]) (EP X pins σ Q) X.xe s := by
    rintro a p rfl ⟨T, idr, B⟩
    exact call_repr_slot (by omega) (B.typeIs s fun _ _ e => e) B.slotRepr (B.call X.A.in1 X.xe s _ hg (by show X.A.units + 1 + _ < cLine; omega) (fun _ _ e => e) fun h' u tk hk => ⟨_, _, rfl, fin _ u (I.kept hk)⟩)
  have rd0 := rd
  cases rd
  case ref a n en =>
    cases ru
    simp only [ownV] at e1
    cases eo : h[n]? with
    | none => rw [eo] at e1; cases e1
    | some o =>
      rw [eo] at e1
      have q := S.obj n o a eo en
      cases o <;> dsimp only at e1 <;> cases e1
      · cases q with | lst q t => exact cont (by simp only [D.dat]) (shows_lst I hK q t (by simpa [D.neat] using c1) (by simpa only [D.dat, PyData.shown] using c3'))
      · cases q with | dct q t => exact cont (by simp only [D.dat]) (shows_dct I hK (.inl q) t (by simpa [D.neat] using c1) (by simpa only [D.dat, PyData.shown] using c3'))
  all_goals
    simp only [ownV, Option.some.injEq] at e1
    subst e1
  case non => cases ru; simp only [D.dat, PyData.shown] at fin; exact PySem.P.repr_of_none (fin _ _ (I.tok _))
  case bl b => cases ru; simp only [D.dat, PyData.shown] at fin; exact PySem.P.repr_of_bool (fin _ _ (I.tok _))
  case int i => obtain ⟨t, rfl⟩ := ru; simp only [D.dat, PyData.shown] at fin; exact PySem.P.repr_of_int (by simpa [D.neat] using c1) (fin _ _ (I.tok _))
  case str x => obtain ⟨t, rfl⟩ := ru; simp only [D.dat, PyData.shown] at fin c3'; exact PySem.P.repr_of_str (fin _ _ (I.tok _)) c3'
  case tup a ds vs z ra q t => cases ru; exact cont (by simp only [D.dat]) (shows_tup I hK (SqT.of q) t (by simpa [D.neat] using c1) (by simpa only [D.dat, PyData.shown] using c3'))
  case tupK a ds vs q t => cases ru; exact cont (by simp only [D.dat]) (shows_tup I hK (.inr (hK ▸ q)) t (by simpa [D.neat] using c1) (by simpa only [D.dat, PyData.shown] using c3'))
  case lst a ds vs z ra q t => cases ru; exact cont (by simp only [D.dat]) (shows_lst I hK q t (by simpa [D.neat] using c1) (by simpa only [D.dat, PyData.shown] using c3'))
  case dct a ds vs z ra q t => cases ru; exact cont (by simp only [D.dat]) (shows_dct I hK q t (by simpa [D.neat] using c1) (by simpa only [D.dat, PyData.shown] using c3'))
  all_goals simp [D.neat] at c1
end
end Fw
end
section
set_option Elab.async false
set_option linter.all false
set_option maxRecDepth 100000
set_option autoImplicit false
set_option maxHeartbeats 1000000
namespace Fw
open PySem PySem.Spec PyProof.Rows L2
def strV (_ : Hh) (d : D) : Option D := match d with
  | .int i => if i.natAbs.log2 < 1920 then some (.str (toString i : Str).cps.toList) else none
  | .str s => some (.str s)
  | _ => none
def intV (h : Hh) (d : D) : Option D := match d with
  | .str s => if s.length ≤ 640 then (PySem.intText? (toS s)).map .int else none
  | d => intD h d
section
variable {X : Cx} {W : Wd}
theorem cl_str : CallR X (.type "str") (r1 W strV) := by
  intro pins s σ H xs us Q I rv ⟨Z, ρ, h, d, r, v, hx, S, rd, e, hA⟩
  subst hx
  cases d <;> simp only [strV] at e <;> first | (cases e; done) | skip
  · split at e
    · rename_i hl
      cases e
      cases rd
      have := hA.now S (.str _)
      rw [toS_of] at this
      exact call_str_int pins s σ H _ us Q I rv ⟨_, rfl, hl, this⟩
    · cases e
  · cases e
    cases rd
    exact SkE.call_str_str pins s σ H _ us Q I rv ⟨_, rfl, hA.now S (.str _)⟩
theorem cl_intV : CallR X (.type "int") (r1 W intV) := by
  intro pins s σ H xs us Q I rv ⟨Z, ρ, h, d, r, v, hx, S, rd, e, hA⟩
  by_cases ht : ∃ t, d = .str t
  · obtain ⟨t, rfl⟩ := ht
    subst hx
    simp only [intV] at e
    split at e
    · rename_i hl
      obtain ⟨n, e1, rfl⟩ := Option.map_eq_some_iff.mp e
      cases rd
      exact call_int_str pins s σ H _ us Q I rv ⟨_, n, rfl, e1, by rw [toS_len]; exact hl, hA.now S (.int _)⟩
    · cases e
  · have e' : intD h d = some r := by
      rw [← e]
      cases d <;> first | rfl | exact absurd ⟨_, rfl⟩ ht
    exact cl_int pins s σ H xs us Q I rv ⟨Z, ρ, h, d, r, v, hx, S, rd, e', hA⟩
end
def eM2 (k : Hh → D → Bool) (g : Hh → D → D → D → Option D) (a b c : TM) : TM := fun σ h => (a σ h).bind fun d h => if k h d then (b σ h).bind fun e h => (c σ h).bind fun f h => opt (g h d e f) h else .bad
def startV (_ : Hh) (d e f : D) : Option D := match d, e, f with
  | .str s, .str t, .int i => some (.bl (Txt.startswith3 (toS s) (toS t) i))
  | _, _, _ => none
section
variable {X : Cx} {W : Wd} {wx : WX} {a b c : Expr} {fa fb fc : TM} {x : Str}
def rM2 (W : Wd) (g : Hh → D → D → D → Option D) : V → List V → Hp → VK → Prop := fun x xs H Q => ∃ Z ρ h d e f r v u, xs = [v, u] ∧ Sim W Z ρ h H ∧ RD W Z ρ H d x ∧ RD W Z ρ H e v ∧ RD W Z ρ H f u ∧ g h d e f = some r ∧ Fw.Ans W Z ρ h H r Q
end
def KTab (K : PySem.W.Frag) (w : World) (W : Wd) (d : Addr) (tab : List (Tx × Nat)) : Prop := ∃ es n, KDict K w d es n ∧ ∀ z : Tx, PySem.W.nsIn K d (toS z) = some ((tab.lookup z).map fun i => .ref (W.fa i))
def bKIn (tab : List (Tx × Nat)) (a : TM) : BM := fun σ h => (a σ h).bind fun d h => match d with
  | .str s => .ok (tab.lookup s).isSome h
  | _ => .bad
def eKGet (tab : List (Tx × Nat)) (a : TM) : TM := fun σ h => (a σ h).bind fun d h => match d with
  | .str s => opt ((tab.lookup s).map .fn) h
  | _ => .bad
def eCallV (fs : List Nat) (c : Nat → List D → Hh → R D) (i : Nat) (as : AM) : TM := fun σ h => match sget σ i with
  | some (.fn f) => if f ∈ fs then (as σ h).bind fun ds h => c f ds h else .bad
  | _ => .bad
section
variable {X : Cx} {W : Wd} {wx : WX} {a e : Expr} {fa : TM} {x : Str} {pos p p2 : Pos} {tab : List (Tx × Nat)} {d : Addr} {es : List Expr} {as : AM} {k i : Nat}
end
def entB : List DictEntry → List (Tx × Addr) → Bool
  | [], [] => true
  | e :: es, q :: tab => (match e.key, e.val with
    | .str x _, .ref c => decide (x = toS q.1) && decide (c = q.2)
    | _, _ => false) && entB es tab
  | _, _ => false
def tabB (K : PySem.W.Frag) (a : Addr) (tab : List (Tx × Addr)) : Bool := match K.lookup a with
  | some ⟨_, _, .dict es _, _⟩ => entB es.toList tab
  | _ => false
def CalleeKB (P : Program) (w : World) (K : PySem.W.Frag) (mg : Str → Option Value) (base : Heap) (W : Wd) (k : Nat) (f : Addr) (n : Nat) (ps ks : List Str) (gV : List V → List V → List V) (r : List D → Hh → R D) : Prop :=
  ∃ (fd : FuncData) (g : List Value → List Value → List Value), FnG P w K mg base (L2.CX P w) k f fd ps (spF W r) ∧ PySem.W.keepIn K (.ref f) = true ∧ KBn K fd ps n ks g gV
end Fw
end
section
set_option Elab.async false
set_option linter.all false
set_option maxRecDepth 100000
set_option autoImplicit false
set_option maxHeartbeats 1000000
namespace Fw
open PySem PySem.Spec PyProof.Rows L2
section
variable {X : Cx} {W : Wd}
end
end Fw
end
section
set_option Elab.async false
set_option linter.all false
set_option maxRecDepth 100000
set_option autoImplicit false
set_option maxHeartbeats 1000000
namespace Fw
open PySem PySem.Spec PyProof.Rows L2
def eBad : TM := fun _ _ => .bad
def sBad : SM := fun _ _ => .bad
section
variable {X : Cx} {W : Wd} {wx : WX}
end
def eFmt (a : TM) : TM := fun σ h => (a σ h).bind fun d h => match d with
  | .str y => if y.length ≤ line then .ok (.str y) h else .bad
  | .int i => if i.natAbs.log2 < 1920 then .ok (.str (toString i : Str).cps.toList) h else .bad
  | _ => .bad
def jsM : List TM → Tx → Sg → Hh → R Tx
  | [], acc, _, h => .ok acc h
  | t :: ts, acc, σ, h => (t σ h).bind fun d h => match d with
    | .str y => if acc.length + y.length ≤ line then jsM ts (acc ++ y) σ h else .bad
    | _ => .bad
def eFs (ts : List TM) : TM := fun σ h => (jsM ts [] σ h).bind fun y h => .ok (.str y) h
section
variable {X : Cx} {W : Wd} {wx : WX} {a : Expr} {fa : TM} {pos : Pos}
inductive JsJ (X : Cx) (W : Wd) (wx : WX) : List Expr → List TM → Prop where
  | nil : JsJ X W wx [] []
  | cons {e : Expr} {f : TM} {es : List Expr} {fs : List TM} (h : EJ X W wx e f) (r : JsJ X W wx es fs) : JsJ X W wx (e :: es) (f :: fs)
end
section
variable {prog : Program} {w : World} {A : Around} {E : Value → Shared → Prop} {s : Shared}
end
section
variable {X : Cx} {pos : Pos}
def gStar (K : PySem.W.Frag) (n : Nat) (t : TGs) : TG := fun v σ H Q => ∃ a xs, v = .ref a ∧ (SqT K H a xs ∨ SqL K H a xs) ∧ n ≤ xs.length ∧ ∀ p, H p = none → t (xs.take n ++ [.ref p]) σ (upd H p (.lst (xs.drop n))) Q
end
def sAsgS (gs : List G) (i : Nat) (e : TM) : SM := fun σ h => .of σ (e σ h) fun d h => match asSeq h d with
  | some xs => if gs.length ≤ xs.length then (match bindGs σ gs (xs.take gs.length) with
    | some σ => .nx (σ.set i (some (.lst (xs.drop gs.length)))) h
    | none => .bad) else .bad
  | none => .bad
section
variable {X : Cx} {W : Wd} {wx : WX} {e tg : Expr} {fe : TM} {pos : Pos}
end
end Fw
end
section
set_option Elab.async false
set_option linter.all false
set_option maxRecDepth 100000
set_option autoImplicit false
set_option maxHeartbeats 1000000
namespace Fw
open PySem PySem.Spec PyProof.Rows L2
def raB (K : PySem.W.Frag) (C : Addr) : Bool := PySem.W.excIn K C [.type "ValueError", .type "Exception", .type "BaseException", .type "object"] "ValueError.__new__" && PySem.W.keepIn K (.ref C) &&
  (PySem.W.subIn K (.ref C) (.type "BaseException") == some true) && (PySem.W.typeIn K (.ref C) == some (.type "type"))
structure RaK (K : PySem.W.Frag) (C : Addr) : Prop where
  x : PySem.W.excIn K C [.type "ValueError", .type "Exception", .type "BaseException", .type "object"] "ValueError.__new__" = true
  k : PySem.W.keepIn K (.ref C) = true
  b : PySem.W.subIn K (.ref C) (.type "BaseException") = some true
  t : PySem.W.typeIn K (.ref C) = some (.type "type")
def isB (K : PySem.W.Frag) (D : Addr) : Bool := (PySem.W.findIn K (.ref D) "__getattribute__" == some (some (.builtin "BaseException.__getattribute__"))) && (PySem.W.findIn K (.ref D) "__getattr__" == some none) &&
  (PySem.W.subIn K (.ref D) (.type "BaseException") == some true) && PySem.W.hasDictIn K D && (PySem.W.findIn K (.ref D) "__class__" == some (some (.builtin "object.__class__"))) &&
  (PySem.W.specialIn K (.builtin "object.__class__") "__get__" == some (some (.builtin "getset_descriptor.__get__"))) && (PySem.W.takesIn K (.builtin "object.__class__") == some true) && (PySem.W.mroIn K D (.type "object") == some true)
def sRaiseT (c : Nat) (e : TM) : SM := fun σ h => .of σ (e σ h) fun _ h => .xn ⟨c, none⟩ σ h
section
variable {X : Cx} {W : Wd} {wx : WX} {e : Expr} {fe : TM} {x : Str} {p pos pos' : Pos}
end
def tX (W : Wd) (known : List Nat) (i : Nat) (a : Addr) (cls : Value) (dd : Option Addr) (f : Exn → Hh → Option D) : TE := fun σ H Q => σ[i]? = some (some (.ref a)) ∧ ∃ Z ρ h x d, Sim W Z ρ h H ∧ RX W Z ρ H x cls dd ∧ x.cls ∈ known ∧ f x h = some d ∧ Fw.Ans W Z ρ h H d Q
def sTryR (i : Nat) (known cs : List Nat) (b : SM) (f : Exn → Hh → Option D) : SM := fun σ h => match b σ h with
  | .xn x σ' h' => if x.cls ∈ known ∧ i < σ'.length then (if x.cls ∈ cs then (match f x h' with
      | some d => .rt d h'
      | none => .bad) else .xn x σ' h') else .bad
  | r => r
section
variable {X : Cx} {W : Wd} {wx : WX} {e : Expr} {b : SM} {body : List Stmt} {x n : Str} {c : Value} {i : Nat} {known cs : List Nat} {f : Exn → Hh → Option D} {np pos pos' p3 : Pos}
end
section
variable {X : Cx} {W : Wd} {known : List Nat} {i : Nat} {a : Addr} {oe : Obj} {cls : Value} {dd : Option Addr} {pn : List (Addr × Obj)} {f g : Exn → Hh → Option D} {pos : Pos}
abbrev XJ (X : Cx) (W : Wd) (known : List Nat) (i : Nat) (a : Addr) (oe : Obj) (cls : Value) (dd : Option Addr) (pn : List (Addr × Obj)) (e : Expr) (f : Exn → Hh → Option D) : Prop := PE (X.suite a ((a, oe) :: pn)) e (tX W known i a cls dd f)
def xAnd (f g : Exn → Hh → Option D) : Exn → Hh → Option D := fun x h => match f x h with
  | some (.bl true) => g x h
  | some (.bl false) => some (.bl false)
  | _ => none
def xNot (f : Exn → Hh → Option D) : Exn → Hh → Option D := fun x h => match f x h with
  | some (.bl k) => some (.bl !k)
  | _ => none
def xIs (l : List Nat) : Exn → Hh → Option D := fun x _ => match x.fld with
  | none => some (.bl (decide (x.cls ∈ l)))
  | some _ => none
variable {p pe : Pos} {n : Str} {ce : Expr} {cv : V} {u : Value} {l : List Nat}
variable {c2 : Expr} {cv2 : V} {u2 : Value} {l2 : List Nat} {ctx : Nat} {tpos : Pos}
end
end Fw
end
section
set_option Elab.async false
set_option linter.all false
set_option maxRecDepth 100000
set_option autoImplicit false
set_option maxHeartbeats 1000000
namespace Fw
open PySem PySem.Spec PyProof.Rows L2
def splitD (_ : Hh) : D → D → Option (D × Option (Nat × O))
  | .str s, .str u => if u ≠ [] ∧ u.all (· < 256) ∧ s.length + 2 ≤ line then some (.lst ((TL.spl u 0 [] s).map .str), none) else none
  | _, _ => none
def findV (_ : Hh) (d e f : D) : Option D := match d, e, f with
  | .str s, .str t, .int i => some (.int (Txt.find3 (toS s) (toS t) i))
  | _, _, _ => none
section
variable {X : Cx} {W : Wd} {wx : WX} {a b c : Expr} {fa fb fc : TM} {pos : Pos}
def inD (h : Hh) (a b : D) : Option Bool := (asLst h b).bind fun xs => if a.flat 60 && (D.lst xs).flat 60 then some (xs.any fun y => y.eqv a) else none
def bInD (a b : TM) : BM := fun σ h => (a σ h).bind fun d h => (b σ h).bind fun e h => optB (inD h d e) h
theorem any_py {a : D} (ha : a.flat 60 = true) : ∀ {n : Nat} {xs : List D}, flatAll n xs = true → (pyAll xs).any (fun z => PyData.eqv z a.py) = xs.any fun y => y.eqv a
  | n, [], _ => rfl
  | n, x :: xs, h => by
    simp only [flatAll, Bool.and_eq_true] at h
    simp only [pyAll, List.any_cons, flat_eqv n 60 x a h.1 ha, any_py ha h.2]
end
def KTabI (K : PySem.W.Frag) (w : World) (d : Addr) (tab : List (Tx × Int)) : Prop := ∃ es n, KDict K w d es n ∧ ∀ z : Tx, ∃ r, PySem.W.nsIn K d (toS z) = some r ∧ (match tab.lookup z with
  | some i => ∃ t, r = some (.int i t)
  | none => r = none)
def eKGetI (tab : List (Tx × Int)) (a b : TM) : TM := fun σ h => (a σ h).bind fun d h => (b σ h).bind fun e h => match d with
  | .str s => .ok (match tab.lookup s with
    | some i => .int i
    | none => e) h
  | _ => .bad
section
variable {X : Cx} {W : Wd} {wx : WX} {a b : Expr} {fa fb : TM} {x : Str} {d : Addr} {tab : List (Tx × Int)} {p apos cpos : Pos}
end
section
variable {X : Cx} {W : Wd} {wx : WX} {x : Str} {pos : Pos}
end
def strsB : List Value → List Tx → Bool
  | [], [] => true
  | v :: vs, t :: ts => (match v with
    | .str x _ => decide (x = toS t)
    | _ => false) && strsB vs ts
  | _, _ => false
def ktB (K : PySem.W.Frag) (a : Addr) (ts : List Tx) : Bool := match K.lookup a with
  | some ⟨.type c, _, .seq its _, _⟩ => decide (c = "tuple") && decide (its.size ≤ 100) && strsB its.toList ts
  | _ => false
def entIB : List DictEntry → List (Tx × Int) → Bool
  | [], [] => true
  | e :: es, q :: tab => (match e.key, e.val with
    | .str x _, .int c _ => decide (x = toS q.1) && decide (c = q.2)
    | _, _ => false) && entIB es tab
  | _, _ => false
def tabIB (K : PySem.W.Frag) (a : Addr) (tab : List (Tx × Int)) : Bool := match K.lookup a with
  | some ⟨_, _, .dict es _, _⟩ => entIB es.toList tab
  | _ => false
end Fw
end
section
set_option Elab.async false
set_option linter.all false
set_option maxRecDepth 100000
set_option autoImplicit false
set_option maxHeartbeats 1000000
namespace Fw
open PySem PySem.Spec PyProof.Rows L2
def par2 (i j : Nat) (σ : Sg) (ds : List D) (h : Hh) : SR := match ds with
  | [d, e] => .nx ((σ.set i (some d)).set j (some e)) h
  | _ => .bad
def sPar2 (i j : Nat) (as : AM) : SM := fun σ h => .of σ (as σ h) fun ds h => par2 i j σ ds h
def par3 (i j k : Nat) (σ : Sg) (ds : List D) (h : Hh) : SR := match ds with
  | [d, e, f] => .nx (((σ.set i (some d)).set j (some e)).set k (some f)) h
  | _ => .bad
def sPar3 (i j k : Nat) (as : AM) : SM := fun σ h => .of σ (as σ h) fun ds h => par3 i j k σ ds h
section
variable {X : Cx} {W : Wd} {wx : WX} {a b c : Expr} {fs : AM} {pos : Pos}
theorem sj_par2 {i j : Nat} {x y : Str} {px py pt : Pos} {kt k2 pt2} (J : Js X W wx) (hi : X.N[i]? = some x) (hj : X.N[j]? = some y) (ha : AJ X W wx [a, b] fs) (hij : i ≠ j := by decide)
    (hx : X.env.scope.names.lookup x = some .local := by rfl) (hy : X.env.scope.names.lookup y = some .local := by rfl)
    (hw : swappedStores [.Tuple [.Name x px, .Name y py] kt pt] (.Tuple [a, b] k2 pt2) X.env = pure (some [x, y]) := by rfl)
    (hs : swapsWithSole [.Tuple [.Name x px, .Name y py] kt pt] (.Tuple [a, b] k2 pt2) pos.line X.env = pure false := by rfl) :
    SJ X W wx (.Assign [.Tuple [.Name x px, .Name y py] kt pt] (.Tuple [a, b] k2 pt2) pos) (sPar2 i j fs) :=
  ⟨fun pins s σ H D I ⟨Z, ρ, σd, h0, S, rs, p⟩ => (ps_par J.hc J.hN hi hj hij hx hy ha hw hs).run pins s σ H D I
    ⟨Z, ρ, σd, h0, S, rs, (PostS.of rs p).imp fun ds ρ1 h1 H1 x1 S1 p1 vs rvs => by
      cases rvs with
      | nil => exact p1.elim
      | cons r1 q1 =>
        cases q1 with
        | nil => exact p1.elim
        | cons r2 q2 =>
          cases q2 with
          | nil => exact ⟨_, _, rfl, p1.nx S1 (((rs.mono x1).set r1).set r2)⟩
          | cons _ _ => exact p1.elim⟩⟩
end
end Fw
end
section
set_option Elab.async false
set_option linter.all false
set_option maxRecDepth 100000
set_option autoImplicit false
set_option maxHeartbeats 1000000
namespace Fw
open PySem PySem.Spec PyProof.Rows L2
section
variable {X : Cx} {e : Expr} {es : List Expr} {ta : L2.TA} {x : Str} {B : Addr} {p1 p2 pos : Pos}
end
end Fw
end
section
set_option Elab.async false
set_option linter.all false
set_option maxRecDepth 100000
set_option autoImplicit false
set_option maxHeartbeats 1000000
namespace Fw
open PySem PySem.Spec PyProof.Rows L2
def spI (C : Addr) (f : Str) : Sp := fun vs H Q _ => ∃ a y, vs = [V.ref a, y] ∧ H a = some (exo a C none) ∧ ∀ dx, H dx = none → dx ≠ a → Q .non (upd (upd H dx (exd dx [(f, y)])) a (exo a C (some dx)))
def sRaiseF (c fk : Nat) (e : TM) : SM := fun σ h => .of σ (e σ h) fun d h => .xn ⟨c, some (fk, d)⟩ σ h
section
variable {X : Cx} {W : Wd} {wx : WX} {e : Expr} {fe : TM} {x : Str} {p pos pos' : Pos}
end
end Fw
end
section
set_option Elab.async false
set_option linter.all false
set_option maxRecDepth 100000
set_option autoImplicit false
set_option maxHeartbeats 1000000
namespace Fw
open PySem PySem.Spec PyProof.Rows L2
def oxB (K : PySem.W.Frag) (C : Addr) : Bool := match K.lookup C with
  | some ⟨.type t, _, .cls cd, sl⟩ => (match cd.mro, sl.toList with
    | .ref C' :: bm, [_, _, _, _, some (.builtin n), _] => t == "type" && C' == C && n == "ValueError.__new__" && !cd.hasDel && cd.hasDict && PySem.HandSPX.refsVE bm
    | _, _ => false)
  | _ => false
def oexB (K : PySem.W.Frag) (C : Addr) : Bool := oxB K C && (PySem.W.findIn K (.ref C) "__setattr__" == some (some (.builtin "object.__setattr__"))) && (PySem.W.subIn K (.ref C) (.type "BaseException") == some true) && (PySem.W.typeIn K (.ref C) == some (.type "type")) && PySem.W.keepIn K (.ref C)
section
variable {X : Cx} {W : Wd} {known : List Nat} {i : Nat} {a : Addr} {oe : Obj} {cls : Value} {dd : Option Addr} {pn : List (Addr × Obj)} {f g : Exn → Hh → Option D} {pos : Pos}
def xFld (fk : Nat) : Exn → Hh → Option D := fun x _ => match x.fld with
  | some (k, d) => if k = fk then some d else none
  | none => none
def xLst2 (t : Tx) (f : Exn → Hh → Option D) : Exn → Hh → Option D := fun x h => (f x h).map fun d => .lst [.str t, d]
end
end Fw
end
section
set_option Elab.async false
set_option linter.all false
set_option maxRecDepth 100000
set_option autoImplicit false
set_option maxHeartbeats 1000000
namespace Fw
open PySem PySem.Spec PyProof.Rows L2
def start1D (_ : Hh) : D → D → Option (D × Option (Nat × O))
  | .str s, .str t => some (.bl (Txt.startswith (toS s) (toS t)), none)
  | _, _ => none
section
variable {X : Cx} {W : Wd} {wx : WX} {a b : Expr} {fa fb : TM} {pos : Pos}
end
def fcB (K : PySem.W.Frag) (B : Addr) : Bool := match PySem.W.findCls K (.ref B) (.type "type") "__init__" with
  | some (.val v) => v == .builtin "ValueError.__init__"
  | _ => false
end Fw
end
section
set_option Elab.async false
set_option linter.all false
set_option maxRecDepth 100000
set_option autoImplicit false
set_option maxHeartbeats 1000000
namespace Fw
open PySem PySem.Spec PyProof.Rows L2
end Fw
end
section
set_option Elab.async false
set_option linter.all false
set_option maxRecDepth 100000
set_option autoImplicit false
set_option maxHeartbeats 1000000
namespace Fw
open PySem PySem.Spec PyProof.Rows L2
def itmI : It → Nat → D → D
  | .enum, i, d => .tup [.int i, d]
  | _, _, d => d
def lcLI (n : Nat) (it : It) (step : D → Hh → R (Option D)) : Nat → Nat → List D → Hh → R (List D)
  | 0, _, _, _ => .bad
  | f + 1, i, acc, h => match h[n]? with
    | some (.lst ys) => (match ys[i]? with
      | none => .ok acc h
      | some x => (step (itmI it i x) h).bind fun o h => match o with
        | none => lcLI n it step f (i + 1) acc h
        | some d => if acc.length < line then lcLI n it step f (i + 1) (acc ++ [d]) h else .bad)
    | _ => .bad
def isOwnL (h : Hh) (n : Nat) : Bool := match h[n]? with
  | some (.lst _) => true
  | _ => false
def eLcI (elt : TM) (g : G) (it : It) (src : TM) (cond : BM) (own : List Nat) (F : Nat) : TM := fun σ h => (src σ h).bind fun d h => match d with
  | .ref n => if isOwnL h n then (noX (lcLI n it (lcStep elt g cond own σ) F 0 [] h)).bind fun ys h => .ok (.lst ys) h else .bad
  | _ => .bad
def forLI (n : Nat) (it : It) (body : D → Sg → Hh → SR) : Nat → Nat → Sg → Hh → SR
  | 0, _, _, _ => .bad
  | f + 1, i, σ, h => match h[n]? with
    | some (.lst ys) => (match ys[i]? with
      | none => .nx σ h
      | some x => match body (itmI it i x) σ h with
        | .nx σ h => forLI n it body f (i + 1) σ h
        | .ct σ h => forLI n it body f (i + 1) σ h
        | .bk σ h => .nx σ h
        | r => r)
    | _ => .bad
def sForI (g : G) (it : It) (src : TM) (b : SM) (F : Nat) : SM := fun σ h => .of σ (src σ h) fun d h => match d with
  | .ref n => if isOwnL h n then forLI n it (forB g b) F 0 σ h else .bad
  | _ => .bad
theorem isOwnL_ok {h : Hh} {n : Nat} (e : isOwnL h n = true) : ∃ ys, h[n]? = some (.lst ys) := by
  unfold isOwnL at e
  split at e
  · rename_i ys q; exact ⟨ys, q⟩
  · cases e
def jI (K : PySem.W.Frag) : It → Addr → L2.It
  | .enum, a => Ite K a
  | _, a => Itl K a
def tIR (K : PySem.W.Frag) (W : Wd) (wx : WX) (it : It) (f : TM) : TI := fun σ H R => ∃ Z ρ σd h, Sim W Z ρ h H ∧ RSg W Z ρ H σd σ ∧
  Post W Z ρ H (f σd h) (fun d ρ' h' H' => ∃ n a ys, d = .ref n ∧ ρ'[n]? = some a ∧ h'[n]? = some (.lst ys) ∧ R (jI K it a) H') (fun cls dd H' => wx cls dd σ H')
abbrev IR (X : Cx) (W : Wd) (wx : WX) (tg e : Expr) (it : It) (f : TM) : Prop := PI X tg e (tIR X.K W wx it f)
section
variable {X : Cx} {W : Wd} {wx : WX} {tg e : Expr} {f : TM}
theorem own_at {Z ρ : List Addr} {h : Hh} {H : Hp} {n : Nat} {a : Addr} {ys : List D} (S : Sim W Z ρ h H) (hn : ρ[n]? = some a) (e : h[n]? = some (.lst ys)) : ∃ vs, H a = some (.lst vs) ∧ RDs W Z ρ H ys vs := by
  cases S.obj n _ a e hn with
  | lst q t => exact ⟨_, q, t⟩
theorem ir_e (he : EJ X W wx e f) : IR X W wx tg e .e f := by
  refine ⟨fun pins s σ H R I ⟨Z, ρ, σd, h0, S, rs, p⟩ => ?_⟩
  refine thn (he.run pins s σ H (fun v H1 => IterV X tg pins σ R v H1) I ⟨Z, ρ, σd, h0, S, rs, Post.imp p fun d ρ1 h1 H1 x1 S1 p2 v rv => ?_⟩) fun u s1 ⟨v, H1, I1, r1, q1⟩ => q1 s1 u I1 r1
  obtain ⟨n, a, ys, rfl, hn, hy, q⟩ := p2
  cases rv with
  | ref hv =>
    rw [hn] at hv
    cases hv
    obtain ⟨vs, q1, t⟩ := own_at S1 hn hy
    exact iter_list (SqL.of q1) q
end
section
variable {X : Cx} {W : Wd} {wx : WX} {tg iter elt : Expr} {ifs : List Expr} {scope : Scope} {own : List (Str × Nat)} {pos : Pos} {f fs : TM} {gb : BM} {it : It} {g : G}
theorem own_turn {K : PySem.W.Frag} {Z ρ : List Addr} {h : Hh} {H : Hp} {a : Addr} {vs : List V} {ys : List D} {i : Nat} {y : D} (S : Sim W Z ρ h H) (q : H a = some (.lst vs)) (t : RDs W Z ρ H ys vs) (hy : ys[i]? = some y) :
    (jI K it a).go i H ∧ ∀ v H2, (jI K it a).yld i H v H2 → Ext ρ H ρ H2 ∧ Sim W Z ρ h H2 ∧ RD W Z ρ H2 (itmI it i y) v := by
  obtain ⟨v0, ev, rv⟩ := t.get hy
  have sq : SqL K H a vs := SqL.of q
  by_cases hit : it = .enum
  · subst hit
    refine ⟨⟨vs, v0, sq, ev⟩, fun v H2 ⟨T, x, e1, n, e2, hw⟩ => ?_⟩
    subst e1 e2
    have := hw vs sq
    rw [ev] at this
    cases this
    exact pair_ok S n (.int _) rv
  · have e1 : jI K it a = Itl K a := by cases it <;> first | rfl | exact absurd rfl hit
    have e2 : itmI it i y = y := by cases it <;> first | rfl | exact absurd rfl hit
    rw [e1, e2]
    refine ⟨⟨vs, v0, sq, ev⟩, fun v H2 ⟨e3, hw⟩ => ?_⟩
    subst e3
    have := hw vs sq
    rw [ev] at this
    cases this
    exact ⟨Ext.refl, S, rv⟩
theorem own_stop {K : PySem.W.Frag} {H : Hp} {a : Addr} {vs : List V} {i : Nat} (q : H a = some (.lst vs)) (hi : vs.length ≤ i) : (jI K it a).stop i H := by
  cases it <;> exact ⟨vs, SqL.of q, hi⟩
theorem sj_forI {F : Nat} {body : List Stmt} {b : SM} (J : Js X W wx) (hi : IR X W wx tg iter it fs) (hg : GJ X tg g) (hb : SsJ X W wx body b)
    (hs : ∀ x, foldedSetIterable iter X.env x = pure x := by intro _; rfl) : SJ X W wx (.For tg iter body [] pos) (sForI g it fs b F) := by
  refine ⟨fun pins s σ H D I ⟨Z, ρ, σd, h0, S, rs, p⟩ => (ps_for J.hp J.hc hi hg hb hs).run pins s σ H D I ⟨Z, ρ, σd, h0, S, rs, (PostS.of rs p).imp fun d ρ1 h1 H1 x1 S1 p1 => ?_⟩⟩
  cases d <;> first | (exact p1.elim) | skip
  rename_i n
  dsimp only at p1
  by_cases hio : isOwnL h1 n = true
  · rw [if_pos hio] at p1
    obtain ⟨ys0, hy0⟩ := isOwnL_ok hio
    obtain ⟨a, hna, _⟩ := S1.at_ hy0
    refine ⟨n, a, ys0, rfl, hna, hy0, ?_⟩
    refine ⟨fun i m σ H => ∃ ρ σd h, Ext ρ1 H1 ρ H ∧ Sim W Z ρ h H ∧ RSg W Z ρ H σd σ ∧ PostS W Z ρ H (forLI n it (forB g b) m i σd h) D wx,
      ⟨F, ρ1, σd, h1, Ext.refl, S1, rs.mono x1, p1⟩, fun i m σ H ⟨ρ2, σ2, h2, x2, S2, r2, p2⟩ => ?_⟩
    cases m with
    | zero => exact p2.elim
    | succ m =>
      rw [forLI] at p2
      cases eo : h2[n]? with
      | none => rw [eo] at p2; exact p2.elim
      | some ob =>
        rw [eo] at p2
        cases ob <;> dsimp only at p2 <;> first | (exact p2.elim) | skip
        rename_i ys
        have hna2 : ρ2[n]? = some a := pre_get x2.pre hna
        obtain ⟨vs, q, t⟩ := own_at S2 hna2 eo
        cases ey : ys[i]? with
        | none =>
          rw [ey] at p2
          exact .inl ⟨own_stop q (by rw [← t.length]; exact List.getElem?_eq_none_iff.mp ey), p2.nx S2 r2⟩
        | some y =>
          rw [ey] at p2
          dsimp only at p2
          obtain ⟨go, yl⟩ := own_turn (K := X.K) (it := it) S2 q t ey
          refine .inr ⟨go, fun σ' H' => ∃ ρ σd h, Ext ρ1 H1 ρ H' ∧ Sim W Z ρ h H' ∧ RSg W Z ρ H' σd σ' ∧ PostS W Z ρ H' (forLI n it (forB g b) m (i + 1) σd h) D wx,
            fun σ' H' a2 => ⟨m, by omega, a2⟩, fun v H' hy => ?_⟩
          obtain ⟨x3, S3, rv⟩ := yl v H' hy
          have q := wh_post (N := fun σ' H' => ∃ ρ σd h, Ext ρ1 H1 ρ H' ∧ Sim W Z ρ h H' ∧ RSg W Z ρ H' σd σ' ∧ PostS W Z ρ H' (forLI n it (forB g b) m (i + 1) σd h) D wx) (k := fun σ h => forLI n it (forB g b) m (i + 1) σ h) (p2.mono x3)
            fun ρ' H4 σ' σd' h' S' rs' x4 q => ⟨ρ', σd', h', (x2.trans x3).trans x4, S', rs', q⟩
          unfold forB at q
          cases hb' : bindG σ2 g (itmI it i y) with
          | none => rw [hb'] at q; exact q.elim
          | some σ4 =>
            rw [hb'] at q
            exact bindG_ok J.hK g (r2.mono x3) rv hb' fun σ5 r5 _ => ⟨Z, ρ2, σ4, h2, S3, r5, q⟩
  · rw [if_neg hio] at p1
    exact p1.elim
end
def pairK : D → Option (K1 × D)
  | .tup [k, d] => (key1 k).map fun k => (k, d)
  | _ => none
def asPairs : List D → Option (List (K1 × D))
  | [] => some []
  | x :: xs => (pairK x).bind fun q => (asPairs xs).map (q :: ·)
def mergeP (acc : List (K1 × D)) (kvs : List (K1 × D)) : List (K1 × D) := kvs.foldl (fun acc q => put q.1 q.2 acc) acc
def dictPD (h : Hh) (d : D) : Option D := ((asLst h d).bind asPairs).map fun kvs => .dct (mergeP [] kvs)
section
variable {X : Cx} {W : Wd} {Z ρ : List Addr} {H : Hp}
theorem rks_merge {us : List (Key × V)} : ∀ {kvs acc : List (K1 × D)} {ac : List (Key × V)}, RKs W Z ρ H kvs us → RKs W Z ρ H acc ac → RKs W Z ρ H (mergeP acc kvs) (mergeK ac us) := by
  induction us with
  | nil => intro kvs acc ac r r0; cases r; exact r0
  | cons u us ih =>
    intro kvs acc ac r r0
    cases r with
    | @cons k d ds v _ r t => exact ih (kvs := ds) (acc := put k d acc) (ac := putK ac (keyS k) v) t (rks_put r r0)
end
def clearD (h : Hh) : D → Option (D × Option (Nat × O))
  | .ref n => match h[n]? with
    | some (.lst _) => some (.non, some (n, .lst []))
    | _ => none
  | _ => none
section
variable {X : Cx} {W : Wd} {wx : WX} {a : Expr} {fa : TM} {x : Str}
def rM0 (W : Wd) (f : Hh → D → Option (D × Option (Nat × O))) : V → List V → Hp → VK → Prop := fun x vs H Q => ∃ Z ρ h d r w, vs = [] ∧ Sim W Z ρ h H ∧ RD W Z ρ H d x ∧ f h d = some (r, w) ∧
  ∀ ρ' H' v, Ext ρ H ρ' H' → Sim W Z ρ' (wr h w) H' → RD W Z ρ' H' r v → Q v H'
end
end Fw
end
section
set_option Elab.async false
set_option linter.all false
set_option maxRecDepth 100000
set_option autoImplicit false
set_option maxHeartbeats 1000000
namespace Fw
open PySem PySem.Spec PyProof.Rows L2
def isDct (h : Hh) (d : D) : Bool := (asDct h d).isSome
def dgetD (h : Hh) (d e : D) : Option (D × Option (Nat × O)) := (asDct h d).bind fun kvs => (key1 e).map fun k => ((look k kvs).getD .non, none)
def dget2D (h : Hh) (d e f : D) : Option D := (asDct h d).bind fun kvs => (key1 e).map fun k => (look k kvs).getD f
def dpopD (h : Hh) : D → D → Option (D × Option (Nat × O))
  | .ref n, e => match h[n]? with
    | some (.dct kvs) => (key1 e).bind fun k => (look k kvs).map fun d => (d, some (n, .dct (drop1 k kvs)))
    | _ => none
  | _, _ => none
def dpop2D (h : Hh) : D → D → D → Option (D × Option (Nat × O))
  | .ref n, e, f => match h[n]? with
    | some (.dct kvs) => (key1 e).map fun k => match look k kvs with
      | some d => (d, some (n, .dct (drop1 k kvs)))
      | none => (f, none)
    | _ => none
  | _, _, _ => none
def eM2W (k : Hh → D → Bool) (f : Hh → D → D → D → Option (D × Option (Nat × O))) (a b c : TM) : TM := fun σ h => (a σ h).bind fun d h => if k h d then (b σ h).bind fun e h => (c σ h).bind fun g h => optW h (f h d e g) else .bad
section
variable {W : Wd} {Z ρ : List Addr} {h : Hh} {H : Hp}
theorem key_ok {d : D} {v : V} {k : K1} (r : RD W Z ρ H d v) (e : key1 d = some k) : v = kV (keyS k) := by
  cases r <;> simp only [key1] at e <;> first | (cases e; done) | skip
  · cases e; rfl
  · cases e; rfl
theorem rks_none {k : K1} : ∀ {kds : List (K1 × D)} {kvs : List (Key × V)}, RKs W Z ρ H kds kvs → look k kds = none → valV kvs (keyS k) = none := by
  intro kds
  induction kds with
  | nil => intro kvs r e; cases r; rfl
  | cons q kds ih =>
    intro kvs r e
    cases r with
    | @cons k' d' _ v vs r t =>
      simp only [look] at e
      by_cases hk : k' = k
      · rw [if_pos hk] at e; cases e
      · rw [if_neg hk] at e
        rw [valV_neg (fun z => hk (keyS_inj z))]
        exact ih t e
theorem rks_getD {k : K1} {x : D} {u : V} {kds : List (K1 × D)} {kvs : List (Key × V)} (r : RKs W Z ρ H kds kvs) (ru : RD W Z ρ H x u) : RD W Z ρ H ((look k kds).getD x) ((valV kvs (keyS k)).getD u) := by
  cases e : look k kds with
  | none => rw [rks_none r e]; exact ru
  | some d =>
    obtain ⟨v, e2, rv⟩ := r.look e
    rw [e2]
    exact rv
end
section
variable {X : Cx} {W : Wd} {wx : WX} {a b c : Expr} {fa fb fc : TM} {apos cpos : Pos}
theorem isDct_is {Z ρ : List Addr} {h : Hh} {H : Hp} {d : D} {v : V} (S : Sim W Z ρ h H) (r : RD W Z ρ H d v) (e : isDct h d = true) : ∃ a, v = .ref a ∧ IsD H a := by
  unfold isDct at e
  obtain ⟨kvs, e1⟩ := Option.isSome_iff_exists.mp e
  obtain ⟨a, vs, rfl, q, t⟩ := asDct_ok S r e1
  exact ⟨a, rfl, .inl ⟨_, q⟩⟩
theorem ej_dget1 (J : Jc X W wx) (ha : EJ X W wx a fa) (hb : EJ X W wx b fb) (m : M1 X a "get" apos b cpos := by exact ⟨rfl, rfl, rfl, rfl⟩) : EJ X W wx (.Call (.Attribute a "get" apos) [b] [] cpos) (eM isDct dgetD fa fb) :=
  ⟨fun pins s σ H Q I ⟨Z, ρ, σd, h0, S, rs, p⟩ => (pe_dget1 (by have := J.hu; omega) ha hb m).run pins s σ H Q I
    ⟨Z, ρ, σd, h0, S, rs, (Post.bind p).imp fun d ρ1 h1 H1 x1 S1 p1 v rv => by
      by_cases hk : isDct h1 d = true
      · rw [if_pos hk] at p1
        obtain ⟨ad, rfl, hi⟩ := isDct_is S1 rv hk
        refine ⟨ad, rfl, hi, Z, ρ1, σd, h1, S1, rs.mono x1, (Post.bind p1).imp fun e ρ2 h2 H2 x2 S2 p2 u ru => ?_⟩
        unfold dgetD at p2
        cases e1 : asDct h2 d with
        | none => rw [e1] at p2; exact p2.elim
        | some kvs =>
          rw [e1] at p2
          cases e2 : key1 e with
          | none => rw [e2] at p2; exact p2.elim
          | some k =>
            rw [e2] at p2
            obtain ⟨a2, vs, ea, q, t⟩ := asDct_ok S2 (rv.mono x2) e1
            cases ea
            refine ⟨valV vs (keyS k), .inl ⟨vs, keyS k, q, key_ok ru e2, rfl⟩, ?_⟩
            exact post_now S2 p2 _ (rks_getD t .non)
      · rw [if_neg hk] at p1
        exact p1.elim⟩⟩
end
def dPairs : List (TM × TM) → Sg → Hh → R (List (K1 × D))
  | [], _, h => .ok [] h
  | (k, v) :: r, σ, h => (k σ h).bind fun kd h => (v σ h).bind fun d h => match key1 kd with
    | none => .bad
    | some kk => (dPairs r σ h).bind fun qs h => .ok ((kk, d) :: qs) h
def eDisp (ps : List (TM × TM)) : TM := fun σ h => (noX (dPairs ps σ h)).bind fun qs h => .ok (.dct (mergeP [] qs)) h
def eDispN (ps : List (TM × TM)) : TM := fun σ h => (noX (dPairs ps σ h)).bind fun qs h => .ok (.ref h.length) (h ++ [.dct (mergeP [] qs)])
section
variable {W : Wd} {Z ρ ρ' : List Addr} {H H' Hc : Hp} {D : Addr} {h h' : Hh} {o : HO}
theorem Ext.hidO (n : Hc D = none) (x : Ext ρ (upd Hc D o) ρ' H') : Ext ρ Hc ρ' (Fw.hid H' D) :=
  ⟨x.pre, fun a u hr e => by
    have na : a ≠ D := ne_of_none e n
    obtain ⟨h1, h2⟩ := x.keep a u hr (by rw [upd_ne na]; exact e)
    exact ⟨h1, by rw [hid_ne na]; exact h2⟩⟩
theorem RX.hidO {e : Exn} {cls : Value} {dd : Option Addr} (hl : H D = some o) (ho : ∀ gs, o ≠ .xd gs) (r : RX W (D :: Z) ρ H e cls dd) : RX W Z ρ (Fw.hid H D) e cls dd := by
  refine ⟨r.1, ?_⟩
  have r2 := r.2
  cases hf : e.fld with
  | none => rw [hf] at r2; exact r2
  | some d =>
    obtain ⟨f, d⟩ := d
    rw [hf] at r2
    obtain ⟨a, v, e1, e2, e3, e4⟩ := r2
    exact ⟨a, v, e1, by rw [hid_ne (fun z => by rw [z, hl] at e2; cases e2; exact ho _ rfl)]; exact e2, e3, e4.hid⟩
theorem Post.shownO {α : Type} {r : R α} {Q : α → List Addr → Hh → Hp → Prop} (ho : ∀ gs, o ≠ .xd gs) (hD : D ∉ Z) (hρ : D ∉ ρ) (n : Hc D = none) (p : Post W Z ρ Hc r Q fun _ _ _ => False) {E : XK} :
    Post W (D :: Z) ρ (upd Hc D o) r (fun a ρ' h' H' => H' D = some o ∧ Sim W Z ρ' h' (hid H' D) ∧ Ext ρ Hc ρ' (hid H' D) ∧ Q a ρ' h' (hid H' D)) E := by
  cases r with
  | ok a h => exact fun ρ' H' x S => ⟨(x.keep D _ hρ upd_same).2, S.hid hD, Ext.hidO n x, p ρ' (hid H' D) (Ext.hidO n x) (S.hid hD)⟩
  | xn e h =>
    intro ρ' H' cls dd x S rx
    exact (p ρ' (Fw.hid H' D) cls dd (Ext.hidO n x) (S.hid hD) (RX.hidO (x.keep D _ hρ upd_same).2 ho rx)).elim
  | bad => exact p
end
section
variable {X : Cx} {W : Wd} {wx : WX} {pos : Pos}
inductive PsJ (X : Cx) (W : Wd) (wx : WX) : List (Option Expr) → List Expr → List (TM × TM) → Prop
  | nil : PsJ X W wx [] [] []
  | cons {k v : Expr} {ks : List (Option Expr)} {vs : List Expr} {fk fv : TM} {fs : List (TM × TM)} : EJ X W wx k fk → EJ X W wx v fv → PsJ X W wx ks vs fs → PsJ X W wx (some k :: ks) (v :: vs) ((fk, fv) :: fs)
theorem PsJ.pps {ks : List (Option Expr)} {vs : List Expr} {fs : List (TM × TM)} (h : PsJ X W wx ks vs fs) : PPs X pos ks vs (fs.map fun q => (tE W wx q.1, tE W wx q.2)) := by
  induction h with
  | nil => exact pps_nil
  | cons hk hv _ ih => exact pps_cons hk hv ih
theorem PsJ.all {ks : List (Option Expr)} {vs : List Expr} {fs : List (TM × TM)} (h : PsJ X W wx ks vs fs) : ks.all (·.isSome) = true ∧ ks.length = vs.length ∧ ks.length = fs.length := by
  induction h with
  | nil => exact ⟨rfl, rfl, rfl⟩
  | cons _ _ _ ih => exact ⟨by simpa using ih.1, by simp [ih.2.1], by simp [ih.2.2]⟩
theorem pairs_read : ∀ (fs : List (TM × TM)) {σ : L2.St} {H : Hp} {Z ρ : List Addr} {σd : Sg} {h : Hh} {QQ : List (V × V) → Hp → Prop}, Sim W Z ρ h H → RSg W Z ρ H σd σ →
    Post W Z ρ H (dPairs fs σd h) (fun qs ρ' h' H' => ∀ us, RKs W Z ρ' H' qs us → us.length = fs.length → QQ (us.map fun kv => (kV kv.1, kv.2)) H') (fun cls dd H' => wx cls dd σ H') →
    tPairs (fs.map fun q => (tE W wx q.1, tE W wx q.2)) σ H QQ
  | [], σ, H, Z, ρ, σd, h, QQ, S, rs, p => post_now S p [] .nil rfl
  | (fk, fv) :: fs, σ, H, Z, ρ, σd, h, QQ, S, rs, p => by
    refine ⟨Z, ρ, σd, h, S, rs, (Post.bind p).imp fun kd ρ1 h1 H1 x1 S1 p1 v rv => ?_⟩
    refine ⟨Z, ρ1, σd, h1, S1, rs.mono x1, (Post.bind p1).imp fun d ρ2 h2 H2 x2 S2 p2 u ru => ?_⟩
    cases ek : key1 kd with
    | none => rw [ek] at p2; exact p2.elim
    | some kk =>
      rw [ek] at p2
      dsimp only at p2
      have hv := key_ok rv ek
      refine pairs_read fs S2 ((rs.mono x1).mono x2) ((Post.bind p2).imp fun qs ρ3 h3 H3 x3 S3 p3 us rus hl => ?_)
      have := post_now S3 p3 ((keyS kk, u) :: us) (.cons (ru.mono x3) rus) (by simp [hl])
      rw [hv]
      exact this
theorem disp_core {fs : List (TM × TM)} {σ : L2.St} {H : Hp} {Q : VK} {Z ρ : List Addr} {σd : Sg} {h : Hh} (hl : fs.length ≤ 15) (S : Sim W Z ρ h H) (rs : RSg W Z ρ H σd σ)
    (p : Post W Z ρ H (noX (dPairs fs σd h)) (fun qs ρ' h' H' => ∀ us p, RKs W Z ρ' H' qs us → H' p = none → Q (.ref p) (upd H' p (.dK (mergeK [] us)))) fun _ _ _ => False) :
    tDisp (fs.map fun q => (tE W wx q.1, tE W wx q.2)) σ H Q := by
  intro pa hpa
  have hnw := S.new hpa
  have q := Post.shownO (o := .dK []) (E := fun cls dd H' => wx cls dd σ H') (fun gs => by intro e; cases e) hnw.1 hnw.2 hpa (noX_ok' p)
  have hz : ∀ z ∈ pa :: Z, z ∈ Z ∨ H z = none := fun z hz => (List.mem_cons.mp hz).elim (fun e => .inr (by rw [e]; exact hpa)) .inl
  have rs' : RSg W (pa :: Z) ρ (upd H pa (.dK [])) σd σ := ⟨rs.len, fun i d e => by
    obtain ⟨w, e1, r1⟩ := rs.at_ i d e
    exact ⟨w, e1, (r1.reZ hz).mono (Ext.laid hpa)⟩⟩
  refine pairs_read fs (S.shown hpa) rs' (q.imp fun qs ρ1 h1 H1 x1 S1 p1 us rus hlen => ?_)
  obtain ⟨e1, S2, x2, p2⟩ := p1
  refine ⟨e1, us, rfl, by omega, ?_⟩
  have := p2 us pa rus.hid hid_self
  rwa [upd_hid] at this
theorem ej_disp {ks : List (Option Expr)} {vs : List Expr} {fs : List (TM × TM)} (h : PsJ X W wx ks vs fs) (h0 : ks ≠ [] := by decide) (h15 : ks.length ≤ 15 := by decide) : EJ X W wx (.Dict ks vs pos) (eDisp fs) :=
  ⟨fun pins s σ H Q I ⟨Z, ρ, σd, hh, S, rs, p⟩ => (pe_disp h.pps h.all.1 h.all.2.1 h0 h15).run pins s σ H Q I (disp_core (by rw [← h.all.2.2]; exact h15) S rs (by
    unfold eDisp at p
    cases hd : noX (dPairs fs σd hh) with
    | ok qs h1 =>
      rw [hd] at p
      exact fun ρ' H' x S' us pa rus n => p ρ' _ (x.trans (Ext.laid n)) (S'.laid n) (.ref pa) (.dct (S'.new n).1 (S'.new n).2 (Rd.of upd_same) (rks_merge (rus.mono (Ext.laid n)) .nil))
    | xn e h1 => cases hq : dPairs fs σd hh <;> rw [hq] at hd <;> cases hd
    | bad => rw [hd] at p; exact p))⟩
end
def eInD (a b : TM) : TM := fun σ h => (a σ h).bind fun d h => (b σ h).bind fun e h => opt ((inD h d e).map .bl) h
section
variable {X : Cx} {W : Wd} {wx : WX} {a b : Expr} {fa fb : TM} {pos : Pos}
end
end Fw
end
section
set_option linter.all false
set_option autoImplicit false
set_option maxRecDepth 100000
namespace Fw
open PySem PySem.Spec PyProof.Rows L2
def updD (h : Hh) : D → D → Option (D × Option (Nat × O))
  | .ref n, .ref m => if n = m then none else match h[n]?, h[m]? with
    | some (.dct kvs), some (.dct more) => if kvs.length + more.length ≤ 1000000 then some (.non, some (n, .dct (mergeP kvs more))) else none
    | _, _ => none
  | _, _ => none
def isOwnD (h : Hh) : D → Bool
  | .ref n => match h[n]? with
    | some (.dct _) => true
    | _ => false
  | _ => false
def rUpd : V → List V → Hp → VK → Prop := fun x xs H Q => ∃ (a b : Addr) (kvs more : List (Key × V)), x = .ref a ∧ xs = [.ref b] ∧ a ≠ b ∧ H a = some (.dK kvs) ∧ H b = some (.dK more) ∧ kvs.length + more.length ≤ 1000000 ∧ Q .non (upd H a (.dK (mergeK kvs more)))
section
variable {X : Cx} {W : Wd} {wx : WX} {a b : Expr} {fa fb : TM}
end
end Fw
end
section
set_option Elab.async false
set_option linter.all false
set_option maxRecDepth 100000
set_option autoImplicit false
set_option maxHeartbeats 1000000
namespace Fw
open PySem PySem.Spec PyProof.Rows L2
def partD (_ : Hh) : D → D → Option (D × Option (Nat × O))
  | .str x, .str y => if y ≠ [] ∧ x.length ≤ line then some (.tup [.str (Txt.partition (toS x) (toS y)).1.cps.toList, .str (Txt.partition (toS x) (toS y)).2.1.cps.toList, .str (Txt.partition (toS x) (toS y)).2.2.cps.toList], none) else none
  | _, _ => none
section
variable {X : Cx} {W : Wd} {wx : WX} {a b : Expr} {fa fb : TM}
end
end Fw
end
section
set_option Elab.async false
set_option linter.all false
set_option maxRecDepth 100000
set_option autoImplicit false
set_option maxHeartbeats 1000000
namespace Fw
open PySem PySem.Spec PyProof.Rows L2
section
variable {X : Cx}
theorem call_sortedDA (hcalm : X.calm = true) : CallR X (.builtin "sorted") (fun xs H Q => ∃ (a : Addr) (kvs : List (Key × V)) (ks : List Int), xs = [.ref a] ∧ Rd H a (.dK kvs) ∧ kvs.map (·.1) = ks.map Sum.inl ∧
    ∀ (ys : List Int) (p : Addr), ys.Perm ks → ys.Pairwise (· ≤ ·) → H p = none → Q (.ref p) (upd H p (.lst (ys.map V.int)))) := by
  intro pins s σ H xs us Q I r q
  obtain ⟨a, kvs, ks, ex, hd, hks, q⟩ := q
  subst ex
  obtain ⟨u, eu, rx⟩ := vals1 r
  subst eu
  cases rx
  obtain ⟨z, lo, vs, rel, dd⟩ := dk_rd I.hok hd
  obtain ⟨ep, hat⟩ := dd.dictAt
  have hkeys : vs.map (·.1) = ks.map Sum.inl := rel.keys.symm.trans hks
  have hl : vs.length = ks.length := by simpa using congrArg List.length hkeys
  have hlz : kvs.length = ks.length := by simpa using congrArg List.length hks
  have h16 : vs.length ≤ sizeLine := by rw [hl, ← hlz]; exact z
  refine Calls.call_function_entry PyProof.Rows.kind_sorted PyProof.Rows.plain_sorted PyProof.Rows.entry_sorted (PyProof.Rows.args_sorted1 _) ?_
  unfold Builtin.«sorted»
  refine wpAny_bind (m := checkCount "sorted" 1 1 _) (wpAny_pure ?_)
  refine wpAny_bind (PySem.W.kdu_collect (A := X.A.in1) (PySem.W.kdl_dict (knd := mixKind X.prog X.w) (kvs := vs) (ep := ep) lo) (I.ok.hd hcalm) hat h16 fun h' tk acc hk hacc => ?_)
  have hal : acc.toList.length = ks.length := by rw [Array.length_toList, hacc.1, hl]
  have hS : IntsAre acc.toList ks := ints_each hal fun j v e => by
    obtain ⟨k, x, e1, e2⟩ := hacc.2 j v (by rw [← Array.getElem?_toList]; exact e)
    have e3 : (vs.map (·.1))[j]? = some k := by rw [List.getElem?_map, e1]; rfl
    rw [hkeys, List.getElem?_map] at e3
    cases e4 : ks[j]? with
    | none => rw [e4] at e3; cases e3
    | some y =>
      rw [e4] at e3
      have e5 : Sum.inl y = k := Option.some.inj e3
      subst e5
      rcases keyIs_shape (show keyIs (Sum.inl y) v = true from e2) with ⟨i, t, ek, ev⟩ | ⟨z, t, ek, ev⟩
      · cases ek
        exact ⟨y, t, rfl, ev⟩
      · cases ek
  have I1 : Inv X pins σ H { s with heap := h', toks := tk } := I.kept hk
  have hsz : acc.toList.length ≤ sizeLine := by rw [hal, ← hl]; exact h16
  refine wpAny_bind (wpAny_newList ?_ (by exact hsz))
  have hoL : (h'.push (seqObj "list" acc.toList.toArray 0)).get? h'.objs.size = some (seqObj "list" acc.toList.toArray 0) := Heap.get?_push_size _ rfl
  show wpAny _ _ _ _ _ { s with heap := h'.push (seqObj "list" acc.toList.toArray 0), toks := tk }
  refine wpAny_bind (wpAny_holding (wpAny_call_entry PyProof.Rows.slot_list_sort ⟨_, hoL, rfl⟩ PyProof.Rows.entry_list_sort
    (SrtO.list_sort_ord (s := { s with heap := h'.push (seqObj "list" acc.toList.toArray 0), toks := tk }) SrtO.swo_int hoL hsz (fun h2 => SrtO.ints_sortable hS h2) fun out h1 h2 => ⟨_, rfl, ?_⟩) (PyProof.Rows.args_list_sort _)))
  obtain ⟨k1, k2, k3⟩ := SrtO.ints_out hS h1 h2
  obtain ⟨e', he'⟩ := PyProof.Rows.sortedHeap_at (vs := acc.toList) (out := out.toArray) hoL
  have hlen : ((out.map SrtO.iv).map V.int).length ≤ sizeLine := by
    rw [List.length_map, k2.length_eq, ← hl]; exact h16
  refine wpAny_pure ⟨_, rfl, .ref h'.objs.size, upd H h'.objs.size (.lst ((out.map SrtO.iv).map V.int)), I1.laid (t' := tk) (fun b u e => ?_) (Nat.le_refl _)
    (show ObjOk X.prog X.w _ _ _ (.lst ((out.map SrtO.iv).map V.int)) from ⟨hlen, out, e', vals_of_ints k1, he'⟩), rfl, q _ _ k2 k3 (I1.hok.fresh (Nat.le_refl _))⟩
  have hb : b < h'.objs.size := Heap.lt_size e
  rw [PyProof.Rows.sortedHeap_old (Nat.ne_of_lt hb) (by rw [size_push']; exact Nat.lt_succ_of_lt hb)]
  exact Heap.get?_push_of_some _ e
end
def sortedKI (h : Hh) (d : D) : Option D := (asDct h d).bind fun kvs => (intKeys kvs).map fun is => .lst ((sortI is).map .int)
section
variable {X : Cx} {W : Wd}
theorem cl_sortedKI (hc : X.calm = true) : CallR X (.builtin "sorted") (r1 W sortedKI) := by
  intro pins s σ H xs us Q I rv ⟨Z, ρ, h, d, r, v, hx, S, rd, e, hA⟩
  subst hx
  simp only [sortedKI, Option.bind_eq_some_iff, Option.map_eq_some_iff] at e
  obtain ⟨kvs, e1, is, ei, rfl⟩ := e
  obtain ⟨a, vs, rfl, q, t⟩ := asDct_ok S rd e1
  refine call_sortedDA hc pins s σ H _ us Q I rv ⟨a, vs, is, rfl, q, intKeys_ok t ei, fun ys p hp hs n => ?_⟩
  rw [sortI_eq hp hs]
  exact hA.lst S (rds_ints _) p n
end
def dictOD (h : Hh) (d : D) : Option D := (asDct h d).map .dct
section
variable {X : Cx} {W : Wd}
end
def eNewRev (a : TM) : TM := fun σ h => (a σ h).bind fun d h => match asLst h d with
  | some xs => .ok (.ref h.length) (h ++ [.lst xs.reverse])
  | none => .bad
section
variable {X : Cx} {W : Wd} {wx : WX}
end
section
variable {X : Cx} {W : Wd} {known : List Nat} {i : Nat} {a : Addr} {oe : Obj} {cls : Value} {dd : Option Addr} {pn : List (Addr × Obj)} {f g : Exn → Hh → Option D} {pos : Pos}
variable {p pe : Pos} {n : Str} {ce : Expr} {cv : V} {u : Value} {l : List Nat}
def xIsF (l : List Nat) : Exn → Hh → Option D := fun x _ => some (.bl (decide (x.cls ∈ l)))
def tXB (W : Wd) (known : List Nat) (i : Nat) (a : Addr) (cls : Value) (dd : Option Addr) (f : Exn → Hh → Option D) : TT := fun σ H Q => σ[i]? = some (some (.ref a)) ∧ ∃ Z ρ h x k, Sim W Z ρ h H ∧ RX W Z ρ H x cls dd ∧ x.cls ∈ known ∧ f x h = some (.bl k) ∧
  ∀ ρ' H', Ext ρ H ρ' H' → Sim W Z ρ' h H' → Q k H'
abbrev XB (X : Cx) (W : Wd) (known : List Nat) (i : Nat) (a : Addr) (oe : Obj) (cls : Value) (dd : Option Addr) (pn : List (Addr × Obj)) (e : Expr) (f : Exn → Hh → Option D) : Prop := PT (X.suite a ((a, oe) :: pn)) e (tXB W known i a cls dd f)
abbrev XW (X : Cx) (W : Wd) (known : List Nat) (i : Nat) (a : Addr) (oe : Obj) (cls : Value) (dd : Option Addr) (pn : List (Addr × Obj)) (e : Expr) (f : Exn → Hh → Option D) : Prop := PW (X.suite a ((a, oe) :: pn)) e (tXB W known i a cls dd f)
end
def sTryI (i : Nat) (known cs : List Nat) (b : SM) (t f : Exn → Hh → Option D) : SM := fun σ h => match b σ h with
  | .xn x σ' h' => if x.cls ∈ known ∧ i < σ'.length then (if x.cls ∈ cs then (match t x h' with
      | some (.bl true) => (match f x h' with
        | some d => .rt d h'
        | none => .bad)
      | some (.bl false) => .nx (σ'.set i none) h'
      | _ => .bad) else .xn x σ' h') else .bad
  | r => r
section
variable {X : Cx} {W : Wd} {wx : WX} {e tc : Expr} {b : SM} {body : List Stmt} {x n : Str} {c : Value} {i : Nat} {known cs : List Nat} {t f : Exn → Hh → Option D} {np pos pos' p3 p4 : Pos}
end
end Fw
end
section
set_option Elab.async false
set_option linter.all false
set_option maxRecDepth 100000
set_option autoImplicit false
set_option maxHeartbeats 1000000
namespace Fw
open PySem PySem.Spec PyProof.Rows L2
def keysT : List D → Option (List K1)
  | [] => some []
  | d :: ds => (key1 d).bind fun k => (keysT ds).map (k :: ·)
def lookT (k : List K1) : List (List K1 × D) → Option D
  | [] => none
  | q :: r => if q.1 = k then some q.2 else lookT k r
def putT (k : List K1) (d : D) (l : List (List K1 × D)) : List (List K1 × D) := if l.any fun q => decide (q.1 = k) then l.map fun q => if q.1 = k then (q.1, d) else q else l ++ [(k, d)]
theorem map_keyS_inj {a b : List K1} (h : a.map keyS = b.map keyS) : a = b := by
  induction a generalizing b with
  | nil => cases b <;> simp at h ⊢
  | cons x a ih =>
    cases b with
    | nil => simp at h
    | cons y b =>
      simp only [List.map_cons, List.cons.injEq] at h
      rw [keyS_inj h.1, ih h.2]
section
variable {W : Wd} {Z ρ : List Addr} {H : Hp}
theorem putT_ok {k : List K1} {d : D} {v : V} (rv : RD W Z ρ H d v) {kds : List (List K1 × D)} {kvs : List (List Key × V)} (h : kvs.map (·.1) = kds.map (fun q => q.1.map keyS)) (t : RDs W Z ρ H (kds.map (·.2)) (kvs.map (·.2))) :
    (putK kvs (k.map keyS) v).map (·.1) = (putT k d kds).map (fun q => q.1.map keyS) ∧ RDs W Z ρ H ((putT k d kds).map (·.2)) ((putK kvs (k.map keyS) v).map (·.2)) := by
  have hany : ∀ {kds : List (List K1 × D)} {kvs : List (List Key × V)}, kvs.map (·.1) = kds.map (fun q => q.1.map keyS) → (kvs.any fun kv => decide (kv.1 = k.map keyS)) = kds.any fun q => decide (q.1 = k) := by
    intro kds
    induction kds with
    | nil => intro kvs h; cases kvs with
      | nil => rfl
      | cons _ _ => simp at h
    | cons q kds ih =>
      intro kvs h
      cases kvs with
      | nil => simp at h
      | cons p kvs =>
        simp only [List.map_cons, List.cons.injEq] at h
        rw [List.any_cons, List.any_cons, ih h.2]
        congr 1
        by_cases hk : q.1 = k
        · rw [decide_eq_true hk, decide_eq_true (by rw [h.1, hk])]
        · rw [decide_eq_false hk, decide_eq_false fun e => hk (map_keyS_inj (h.1.symm.trans e))]
  by_cases hf : (kds.any fun q => decide (q.1 = k)) = true
  · have e1 : putT k d kds = kds.map fun q => if q.1 = k then (q.1, d) else q := if_pos hf
    have e2 : putK kvs (k.map keyS) v = kvs.map fun kv => if kv.1 = k.map keyS then (kv.1, v) else kv := if_pos (by rw [hany h]; exact hf)
    rw [e1, e2]
    clear e1 e2 hf hany
    induction kds generalizing kvs with
    | nil => cases kvs with
      | nil => exact ⟨rfl, .nil⟩
      | cons _ _ => simp at h
    | cons q kds ih =>
      cases kvs with
      | nil => simp at h
      | cons p kvs =>
        simp only [List.map_cons, List.cons.injEq] at h
        rw [List.map_cons, List.map_cons] at t
        cases t with
        | cons r t =>
          obtain ⟨i1, i2⟩ := ih h.2 t
          by_cases hk : q.1 = k
          · have hk' : p.1 = k.map keyS := by rw [h.1, hk]
            simp only [List.map_cons, if_pos hk, if_pos hk']
            exact ⟨by rw [i1, h.1], .cons rv i2⟩
          · have hk' : ¬ p.1 = k.map keyS := fun e => hk (map_keyS_inj (h.1.symm.trans e))
            simp only [List.map_cons, if_neg hk, if_neg hk']
            exact ⟨by rw [i1, h.1], .cons r i2⟩
  · have e1 : putT k d kds = kds ++ [(k, d)] := if_neg hf
    have e2 : putK kvs (k.map keyS) v = kvs ++ [(k.map keyS, v)] := if_neg (by rw [hany h]; exact hf)
    rw [e1, e2]
    simp only [List.map_append, List.map_cons, List.map_nil]
    exact ⟨by rw [h], t.append (.cons rv .nil)⟩
end
def eNewDT : TM := fun _ h => .ok (.ref h.length) (h ++ [.dtu []])
def isDtu (h : Hh) : D → Bool
  | .ref n => match h[n]? with
    | some (.dtu _) => true
    | _ => false
  | _ => false
def getT (h : Hh) (d : D) (ds : List D) : Option D := match d with
  | .ref n => match h[n]? with
    | some (.dtu kvs) => if ds.length ≤ 100 then (keysT ds).map fun k => (lookT k kvs).getD .non else none
    | _ => none
  | _ => none
def eGetT (a : TM) (as : AM) : TM := fun σ h => (a σ h).bind fun d h => if isDtu h d then (as σ h).bind fun ds h => opt (getT h d ds) h else .bad
def setT (h : Hh) (o : D) (is : List D) (v : D) : Option Hh := match o with
  | .ref n => match h[n]? with
    | some (.dtu kvs) => if kvs.length < line ∧ is.length ≤ 100 then (keysT is).map fun k => h.set n (.dtu (putT k v kvs)) else none
    | _ => none
  | _ => none
def sSetIT (a : TM) (as : AM) (c : TM) : SM := fun σ h => .of σ (c σ h) fun v h => .of σ (a σ h) fun o h => .of σ (as σ h) fun is h => match setT h o is v with
  | some h => .nx σ h
  | none => .bad
section
variable {X : Cx} {W : Wd} {wx : WX} {a e : Expr} {es : List Expr} {fa f : TM} {fs : AM} {pos : Pos}
end
def sTryK (i : Nat) (known cs : List Nat) (b : SM) (v : Bool) : SM := fun σ h => match b σ h with
  | .xn x σ' h' => if x.cls ∈ known then (if x.cls ∈ cs then .nx (σ'.set i (some (.bl v))) h' else .xn x σ' h') else .bad
  | r => r
section
variable {X : Cx} {W : Wd} {wx : WX} {b : SM} {body : List Stmt} {x n : Str} {c : Value} {i j : Nat} {v : Bool} {known cs : List Nat} {np pos pos' p1 p2 p3 : Pos}
end
end Fw
end
section
set_option Elab.async false
set_option linter.all false
set_option maxRecDepth 100000
set_option autoImplicit false
set_option maxHeartbeats 1000000
namespace Fw
open PySem PySem.Spec PyProof.Rows L2
def makeF (c np N : Nat) (b : SM) (ds : List D) (h : Hh) : R D := if ds.length + 1 = np then (match b (startD N (.ref h.length :: ds)) (h ++ [.ins c []]) with
  | .nx _ h' => .ok (.ref h.length) h'
  | .rt .non h' => .ok (.ref h.length) h'
  | .xn x _ h' => .xn x h'
  | _ => .bad) else .bad
section
variable {W : Wd} {Z ρ : List Addr} {H : Hp}
theorem makeF_len {N : List Str} {sm : SM} {n c : Nat} {vs : List V} {Q : VK} {E : XK} (p : spM W c (makeF c n N.length sm) vs H Q E) : vs.length = n := by
  obtain ⟨x, dx, us, H0, rfl, _, _, _, _, Z, ρ, h, ds, S, r, p⟩ := p
  unfold makeF at p
  split at p
  · rename_i hl; rw [← hl, r.length]; rfl
  · exact p.elim
theorem makeF_read {N : List Str} {sm : SM} {n c : Nat} {vs : List V} {Q : VK} {E : XK} (p : spM W c (makeF c n N.length sm) vs H Q E) :
    tS W (fun cls d _ H => E cls d H) sm { nx := fun _ H' => Q .non H', rt := Q } (L2.start N vs) H := by
  obtain ⟨x, dx, us, H0, rfl, hx, hdx, hne, rfl, Z, ρ, h, ds, S, r, p⟩ := p
  unfold makeF at p
  split at p
  case isFalse => exact p.elim
  have n1 : upd H0 dx (.own x) x = none := by rw [upd_ne (Ne.symm hne)]; exact hx
  have S1 : Sim W Z ρ h (upd H0 dx (.own x)) := S.laid hdx
  have x1 : Ext ρ H0 ρ (upd H0 dx (.own x)) := Ext.laid hdx
  have x2 : Ext ρ (upd H0 dx (.own x)) (ρ ++ [x]) (upd (upd H0 dx (.own x)) x (.ins (W.ca c) dx [])) := Ext.own n1
  have S2 := S1.own (o := .ins (W.ca c) dx []) (ob := .ins c []) n1 (.ins upd_same .nil)
  have xx := x1.trans x2
  have hg : (ρ ++ [x])[h.length]? = some x := by rw [← S.len]; simp
  refine ⟨Z, ρ ++ [x], startD N.length (.ref h.length :: ds), h ++ [.ins c []], S2, rsg_start (.cons (.ref hg) ((r.mono x1).mono x2)), ?_⟩
  cases hs : sm (startD N.length (.ref h.length :: ds)) (h ++ [.ins c []]) with
  | nx σ h1 => rw [hs] at p; exact fun ρ' H' σ' y S' _ => p ρ' H' (xx.trans y) S' (.ref (pre_get y.pre hg))
  | rt d h1 =>
    rw [hs] at p
    cases d <;> first | (exact p.elim) | skip
    intro ρ' H' v y S' rv
    cases rv
    exact p ρ' H' (xx.trans y) S' (.ref (pre_get y.pre hg))
  | xn e σ h1 => rw [hs] at p; exact fun ρ' H' σ' cls dd y S' _ rx => p ρ' H' cls dd (xx.trans y) S' rx
  | bk σ h1 => rw [hs] at p; exact p.elim
  | ct σ h1 => rw [hs] at p; exact p.elim
  | bad => rw [hs] at p; exact p.elim
end
section
variable {P : Program} {w : World} {K : PySem.W.Frag} {mg : Str → Option Value} {base : Heap} {x qual : Str} {params : Arguments} {body : List Stmt} {scope : Scope} {dvs : List V} {kws : List (Str × V)} {f : Addr} {fd : FuncData} {N ps : List Str} {k : Nat} {W : Wd} {sm : SM}
theorem fn_makeF {c : Nat} (F : FunD K x qual params body scope dvs kws f fd) (S : FnScope N ps scope) (hK : K = W.K)
    (hb : ∀ (cdv : Value) (A : Around) (outer : List Env) (s : Shared) (H : Hp) (E : XK), RoomG k (A.deeper (envOfC qual scope s.heap.objs.size f cdv)) →
      SsJ (cxOf (L2.CX P w) P w K mg base N qual scope f cdv A outer s H E) W (fun cls d _ H => E cls d H) body sm) :
    FnG P w K mg base (L2.CX P w) (k + 1) f fd ps (spM W c (makeF c ps.length N.length sm)) :=
  okG F S (fun vs H Q E p => makeF_len p) fun cdv A outer s H vs Q E r p => ⟨_, hb cdv A outer s H E r, makeF_read p⟩
end
end Fw
end
section
set_option Elab.async false
set_option linter.all false
set_option maxRecDepth 100000
set_option autoImplicit false
set_option maxHeartbeats 1000000
namespace Fw
open PySem PySem.Spec PyProof.Rows L2
def sForB (g : G) (src : TM) (b : SM) (F : Nat) : SM := fun σ h => .of σ (src σ h) fun d h => match d with
  | .ref n => if isOwnL h n then forLI n .e (forB g b) F 0 σ h else .bad
  | .lst ys => forL (forB g b) ys σ h
  | _ => .bad
def tBR (K : PySem.W.Frag) (W : Wd) (wx : WX) (f : TM) : TI := fun σ H R => ∃ Z ρ σd h, Sim W Z ρ h H ∧ RSg W Z ρ H σd σ ∧
  Post W Z ρ H (f σd h) (fun d ρ' h' H' => (∃ n a ys, d = .ref n ∧ ρ'[n]? = some a ∧ h'[n]? = some (.lst ys) ∧ R (Itl K a) H') ∨
    (∃ ys, d = .lst ys ∧ ∀ a vs, a ∉ Z → a ∉ ρ' → H' a = some (.lst vs) → RDs W Z ρ' H' ys vs → R (Itl K a) H')) (fun cls dd H' => wx cls dd σ H')
abbrev BR (X : Cx) (W : Wd) (wx : WX) (tg e : Expr) (f : TM) : Prop := PI X tg e (tBR X.K W wx f)
section
variable {X : Cx} {W : Wd} {wx : WX} {tg e : Expr} {f : TM}
end
section
variable {X : Cx} {W : Wd} {wx : WX} {tg iter : Expr} {pos : Pos} {fs : TM} {g : G}
end
end Fw
end
section
set_option Elab.async false
set_option linter.all false
set_option maxRecDepth 100000
set_option autoImplicit false
set_option maxHeartbeats 1000000
namespace Fw
open PySem PySem.Spec PyProof.Rows L2
def xEqI (c : Int) (f : Exn → Hh → Option D) : Exn → Hh → Option D := fun x h => match f x h with
  | some (.int i) => some (.bl (decide (i = c)))
  | _ => none
section
variable {X : Cx} {W : Wd} {known : List Nat} {i : Nat} {a : Addr} {oe : Obj} {cls : Value} {dd : Option Addr} {pn : List (Addr × Obj)} {f g : Exn → Hh → Option D} {pos : Pos}
end
section
variable {X : Cx} {W : Wd} {wx : WX} {k : Nat} {f : Addr} {fd : FuncData} {ps : List Str} {r : List D → Hh → R D} {x : Str} {p pos : Pos} {dds : List D} {dvs : List V} {ds : List Value} {cls : Nat}
end
end Fw
end
section
set_option Elab.async false
set_option linter.all false
set_option maxRecDepth 100000
set_option autoImplicit false
set_option maxHeartbeats 1000000
namespace Fw
open PySem PySem.Spec PyProof.Rows L2
def eNewRg (a b : TM) : TM := fun σ h => (a σ h).bind fun d h => (b σ h).bind fun e h => match d, e with
  | .int m, .int n => if 0 ≤ m ∧ m ≤ 16777216 ∧ 0 ≤ n ∧ n ≤ 16777216 then .ok (.ref h.length) (h ++ [.lst (rangeD m (n - m).toNat)]) else .bad
  | _, _ => .bad
theorem rds_rg {W : Wd} {Z ρ : List Addr} {H : Hp} (m : Int) : ∀ l : List Nat, RDs W Z ρ H (l.map fun (i : Nat) => D.int (m + (i : Int))) (l.map fun (i : Nat) => V.int (m + (i : Int)))
  | [] => .nil
  | x :: l => .cons (.int _) (rds_rg m l)
section
variable {X : Cx} {W : Wd} {wx : WX} {a b : Expr} {fa fb : TM} {p1 p2 q1 q2 : Pos}
theorem ej_newRg (hc : X.calm = true) (ha : EJ X W wx a fa) (hb : EJ X W wx b fb) (hl : Gl X "list") (hlm : X.mg "list" = none) (hr : Gl X "range") (hrm : X.mg "range" = none)
    (na : starEach [a, b] X.env = (false, eval a X.env) :: starEach [b] X.env := by rfl) (nb : starEach [b] X.env = (false, eval b X.env) :: starEach [] X.env := by rfl) (hp : (backTo q2 (starEach [b] X.env)).any (·.1) = false := by rfl) :
    EJ X W wx (.Call (.Name "list" p1) [.Call (.Name "range" q1) [a, b] [] q2] [] p2) (eNewRg fa fb) :=
  ⟨fun pins s σ H Q I ⟨Z, ρ, σd, h0, S, rs, p⟩ => (pe_listRg hc hl hlm (prg_2 hr hrm ha hb na nb hp)).run pins s σ H Q I
    ⟨Z, ρ, σd, h0, S, rs, (Post.bind p).imp fun d ρ1 h1 H1 x1 S1 p1 v rv => ⟨Z, ρ1, σd, h1, S1, rs.mono x1, (Post.bind p1).imp fun e ρ2 h2 H2 x2 S2 p2 w rw => by
      cases d <;> cases e <;> first | (exact p2.elim) | skip
      rename_i m n
      dsimp only at p2
      split at p2
      · rename_i hb
        cases rv
        cases rw
        refine ⟨m, n, rfl, rfl, RgOk.of_le hb.1 hb.2.2.2 hb.2.1 hb.2.2.1, fun q nq => ?_⟩
        exact p2 (ρ2 ++ [q]) _ (Ext.own nq) (S2.own (o := .lst (rgV m n)) (ob := .lst (rangeD m (n - m).toNat)) nq (.lst upd_same ((rds_rg m _).mono (Ext.own nq)))) (.ref q) (.ref (by rw [← S2.len]; simp))
      · exact p2.elim⟩⟩⟩
end
def keyD : K1 → D
  | .inl i => .int i
  | .inr t => .str t
def noXS : SR → SR
  | .xn _ _ _ => .bad
  | r => r
def sForK (i : Nat) (g : G) (b : SM) : SM := fun σ h => match sget σ i with
  | some (.dct kvs) => noXS (forL (forB g b) (kvs.map fun q => keyD q.1) σ h)
  | _ => .bad
structure Lk (H H' : Hp) (a : Addr) (kvs : List (Key × V)) : Prop where
  ne : ∀ b, b ≠ a → H' b = H b
  old : Rd H a (.dK kvs)
  new : Rd H' a (.dK kvs)
section
variable {W : Wd} {Z ρ : List Addr} {H H' : Hp} {a : Addr} {kvs : List (Key × V)}
theorem rd_one {u u' : HO} (h1 : Rd H a u) (h2 : Rd H a u') (m1 : ∀ o v, u ≠ .frz o v) (m2 : ∀ o v, u' ≠ .frz o v) : u' = u := by
  rcases h1 with h1 | ⟨o, h1⟩ <;> rcases h2 with h2 | ⟨o', h2⟩ <;> rw [h1] at h2 <;> cases h2
  · rfl
  · exact absurd rfl (m1 _ _)
  · exact absurd rfl (m2 _ _)
  · rfl
theorem Lk.rd (L : Lk H H' a kvs) {b : Addr} {u : HO} (h : Rd H b u) (m : ∀ o v, u ≠ .frz o v) : Rd H' b u := by
  by_cases e : b = a
  · subst e
    rw [rd_one L.old h (fun _ _ => nofun) m]
    exact L.new
  · rcases h with h | ⟨o, h⟩
    · exact .inl (by rw [L.ne b e]; exact h)
    · exact .inr ⟨o, by rw [L.ne b e]; exact h⟩
theorem Lk.at_ (L : Lk H H' a kvs) {b : Addr} {u : HO} (h : H b = some u) (m : ∀ o v, u ≠ .frz o v) (k : ∀ l, u ≠ .dK l) : H' b = some u := by
  by_cases e : b = a
  · subst e
    exact absurd (rd_one L.old (.inl h) (fun _ _ => nofun) m) (k _)
  · rw [L.ne b e]
    exact h
mutual
theorem RD.lk (L : Lk H H' a kvs) : ∀ {d : D} {v : V}, RD W Z ρ H d v → RD W Z ρ H' d v
  | _, _, .non => .non
  | _, _, .bl b => .bl b
  | _, _, .int i => .int i
  | _, _, .str s => .str s
  | _, _, .tup z r q t => .tup z r (L.at_ q (fun _ _ => nofun) (fun _ => nofun)) (RDs.lk L t)
  | _, _, .tupK k t => .tupK k (RDs.lk L t)
  | _, _, .lst z r q t => .lst z r (L.at_ q (fun _ _ => nofun) (fun _ => nofun)) (RDs.lk L t)
  | _, _, .dct z r q t => .dct z r (L.rd q (fun _ _ => nofun)) (RKs.lk L t)
  | _, _, .obj z r q t => .obj z r (L.at_ q (fun _ _ => nofun) (fun _ => nofun)) (RFs.lk L t)
  | _, _, .ref e => .ref e
  | _, _, .fn f => .fn f
  | _, _, .roi q => .roi (q.elim (fun ⟨z, r, q⟩ => .inl ⟨z, r, L.rd q (fun _ _ => nofun)⟩) .inr)
theorem RDs.lk (L : Lk H H' a kvs) : ∀ {ds : List D} {vs : List V}, RDs W Z ρ H ds vs → RDs W Z ρ H' ds vs
  | _, _, .nil => .nil
  | _, _, .cons r t => .cons (RD.lk L r) (RDs.lk L t)
theorem RKs.lk (L : Lk H H' a kvs) : ∀ {ds : List (K1 × D)} {vs : List (Key × V)}, RKs W Z ρ H ds vs → RKs W Z ρ H' ds vs
  | _, _, .nil => .nil
  | _, _, .cons r t => .cons (RD.lk L r) (RKs.lk L t)
theorem RFs.lk (L : Lk H H' a kvs) : ∀ {ds : List (Nat × D)} {vs : List (Str × V)}, RFs W Z ρ H ds vs → RFs W Z ρ H' ds vs
  | _, _, .nil => .nil
  | _, _, .cons r t => .cons (RD.lk L r) (RFs.lk L t)
end
theorem RSg.lk (L : Lk H H' a kvs) {σd : Sg} {σ : L2.St} (r : RSg W Z ρ H σd σ) : RSg W Z ρ H' σd σ :=
  ⟨r.len, fun i d e => let ⟨v, e1, r1⟩ := r.at_ i d e; ⟨v, e1, r1.lk L⟩⟩
theorem Lk.there (L : Lk H H' a kvs) {b : Addr} (h : ∃ o, H b = some o) : ∃ o, H' b = some o := by
  by_cases e : b = a
  · subst e
    rcases L.new with h | ⟨_, h⟩
    · exact ⟨_, h⟩
    · exact ⟨_, h⟩
  · rw [L.ne b e]
    exact h
theorem Sim.lk (L : Lk H H' a kvs) {h : Hh} (ha : a ∉ ρ) (S : Sim W Z ρ h H) : Sim W Z ρ h H' := by
  refine ⟨S.len, S.nd, fun z hz => ⟨(S.dis z hz).1, L.there (S.dis z hz).2⟩, fun n o b e1 e2 => ?_⟩
  have hb : b ≠ a := fun e => ha (e ▸ List.mem_of_getElem? e2)
  cases S.obj n o b e1 e2 with
  | lst q t => exact .lst (by rw [L.ne b hb]; exact q) (t.lk L)
  | ro q t => exact .ro (L.rd q (fun _ _ => nofun)) (t.lk L)
  | dct q t => exact .dct (by rw [L.ne b hb]; exact q) (t.lk L)
  | ins q t => exact .ins (by rw [L.ne b hb]; exact q) (t.lk L)
  | dtu q e t => exact .dtu (by rw [L.ne b hb]; exact q) e (t.lk L)
def endsL (a : Addr) (od : Obj) (u : HO) (D : Ends) : Ends := ⟨fun σ' H' => H' a = some (.frz od u) ∧ D.nx σ' (upd H' a u), fun v H' => H' a = some (.frz od u) ∧ D.rt v (upd H' a u), fun σ' H' => H' a = some (.frz od u) ∧ D.bk σ' (upd H' a u), fun σ' H' => H' a = some (.frz od u) ∧ D.ct σ' (upd H' a u)⟩
theorem PostS.lock {r : SR} {D : Ends} {wx : WX} {od : Obj} (ha : a ∉ ρ) (h : H a = some (.dK kvs)) (p : PostS W Z ρ H (noXS r) D wx) : PostS W Z ρ (upd H a (.frz od (.dK kvs))) (noXS r) (endsL a od (.dK kvs) D) wx := by
  have key : ∀ (ρ' : List Addr) (H' : Hp), Ext ρ (upd H a (.frz od (.dK kvs))) ρ' H' → H' a = some (.frz od (.dK kvs)) ∧ a ∉ ρ' ∧ Ext ρ H ρ' (upd H' a (.dK kvs)) ∧ Lk H' (upd H' a (.dK kvs)) a kvs := by
    intro ρ' H' x
    obtain ⟨k1, k2⟩ := x.keep a _ ha upd_same
    refine ⟨k2, k1, ⟨x.pre, fun b o hb e => ?_⟩, ⟨fun b hb => upd_ne hb, .inr ⟨od, k2⟩, .inl upd_same⟩⟩
    by_cases hb' : b = a
    · subst hb'
      rw [h] at e
      cases e
      exact ⟨k1, upd_same⟩
    · obtain ⟨j1, j2⟩ := x.keep b o hb (by rw [upd_ne hb']; exact e)
      exact ⟨j1, by rw [upd_ne hb']; exact j2⟩
  cases r with
  | nx σ h1 => exact fun ρ' H' σ' x S rs => let ⟨k1, k2, k3, k4⟩ := key ρ' H' x; ⟨k1, p ρ' _ σ' k3 (S.lk k4 k2) (rs.lk k4)⟩
  | bk σ h1 => exact fun ρ' H' σ' x S rs => let ⟨k1, k2, k3, k4⟩ := key ρ' H' x; ⟨k1, p ρ' _ σ' k3 (S.lk k4 k2) (rs.lk k4)⟩
  | ct σ h1 => exact fun ρ' H' σ' x S rs => let ⟨k1, k2, k3, k4⟩ := key ρ' H' x; ⟨k1, p ρ' _ σ' k3 (S.lk k4 k2) (rs.lk k4)⟩
  | rt d h1 => exact fun ρ' H' v x S rv => let ⟨k1, k2, k3, k4⟩ := key ρ' H' x; ⟨k1, p ρ' _ v k3 (S.lk k4 k2) (rv.lk k4)⟩
  | xn e σ h1 => exact p.elim
  | bad => exact p.elim
theorem PostS.noX {r : SR} {D : Ends} {wx : WX} (p : PostS W Z ρ H (noXS r) D wx) : PostS W Z ρ H r D wx := by
  cases r with
  | xn e σ h1 => exact p.elim
  | _ => exact p
theorem rd_keys : ∀ {kds : List (K1 × D)} {kvs : List (Key × V)}, RKs W Z ρ H kds kvs → ∀ (i : Nat) (d : D), (kds.map fun q => keyD q.1)[i]? = some d → ∃ (k : Key) (v : V), kvs[i]? = some (k, v) ∧ ∀ (Z' ρ' : List Addr) (H' : Hp), RD W Z' ρ' H' d (kV k)
  | _, _, .nil, i, d, e => by simp at e
  | _, _, .cons (k := k) r t, 0, d, e => by
    simp only [List.map_cons, List.getElem?_cons_zero, Option.some.injEq] at e
    subst e
    refine ⟨_, _, rfl, fun Z' ρ' H' => ?_⟩
    cases k with
    | inl i => exact .int i
    | inr t => exact .str t
  | _, _, .cons r t, i + 1, d, e => by
    simp only [List.map_cons, List.getElem?_cons_succ] at e
    exact rd_keys t i d e
theorem RKs.length : ∀ {kds : List (K1 × D)} {kvs : List (Key × V)}, RKs W Z ρ H kds kvs → kds.length = kvs.length
  | _, _, .nil => rfl
  | _, _, .cons r t => by simp [RKs.length t]
end
section
variable {X : Cx} {W : Wd} {wx : WX} {tg : Expr}
theorem forK_run {x : Str} {i : Nat} {body : List Stmt} {g : G} {b : SM} {pos p0 : Pos} (J : Js X W wx) (hN : X.N[i]? = some x) (hv : Vis X.env.scope x) (hg : GJ X tg g) (hb : SsJ X W wx body b) (hd : (x == ("__debug__" : Str)) = false) (hcd : (x == ("__classdict__" : Str)) = false)
    (hs : ∀ y, foldedSetIterable (.Name x p0) X.env y = pure y) {a : Addr} {od : Obj} {kvs : List (Key × V)} {kds : List (K1 × Fw.D)} {Z ρ : List Addr} {σ : L2.St} {σd : Sg} {h : Hh} {H : Hp} {D : Ends} {pins : List (Addr × Obj)} {s : Shared} (I : Inv X pins σ H s)
    (S : Sim W Z ρ h H) (rs : RSg W Z ρ H σd σ) (ha : a ∉ ρ) (az : a ∉ Z) (hf : H a = some (.frz od (.dK kvs))) (hσ : σ[i]? = some (some (.ref a))) (rk : RKs W Z ρ H kds kvs) (p : PostS W Z ρ H (forL (forB g b) (kds.map fun q => keyD q.1) σd h) D wx) :
    wpAny (model X.prog X.w) X.A (exec (.For tg (.Name x p0) body [] pos) X.env) (SP X pins D) X.xe s := by
  generalize hxs : (kds.map fun q => keyD q.1) = xs at p
  have hl : xs.length = kvs.length := by rw [← hxs, List.length_map, rk.length]
  refine (ps_for J.hp J.hc (pi_keys (pe_var (pos := p0) hN hv hd hcd)) hg hb hs).run pins s σ H D I ⟨.ref a, hσ, a, od, rfl, .inl ⟨kvs, hf, ?_⟩⟩
  refine ⟨fun i m σ H2 => ∃ ρ2 σ2 h2, i ≤ xs.length ∧ m = xs.length - i ∧ Ext ρ H ρ2 H2 ∧ Sim W Z ρ2 h2 H2 ∧ RSg W Z ρ2 H2 σ2 σ ∧ PostS W Z ρ2 H2 (forL (forB g b) (xs.drop i) σ2 h2) D wx,
    ⟨xs.length, ρ, σd, h, Nat.zero_le _, rfl, Ext.refl, S, rs, p⟩, fun i m σ H2 ⟨ρ2, σ2, h2, hi, hm, x2, S2, r2, p2⟩ => ?_⟩
  have hf2 := (x2.keep a _ ha hf).2
  by_cases he : i = xs.length
  · subst he
    rw [List.drop_length] at p2
    exact .inl ⟨⟨hf2, by omega⟩, p2.nx S2 r2⟩
  · have hlt : i < xs.length := by omega
    rw [List.drop_eq_getElem_cons hlt] at p2
    refine .inr ⟨⟨hf2, by omega⟩, fun σ' H' => ∃ ρ3 σ3 h3, i + 1 ≤ xs.length ∧ Ext ρ H ρ3 H' ∧ Sim W Z ρ3 h3 H' ∧ RSg W Z ρ3 H' σ3 σ' ∧ PostS W Z ρ3 H' (forL (forB g b) (xs.drop (i + 1)) σ3 h3) D wx,
      fun σ' H' ⟨ρ3, σ3, h3, a1, a2, a3, a4, a5⟩ => ⟨xs.length - (i + 1), by omega, ρ3, σ3, h3, a1, rfl, a2, a3, a4, a5⟩, fun v H' hy => ?_⟩
    obtain ⟨rfl, k, v', hk, rfl⟩ := hy
    obtain ⟨k2, v2, hk2, rk2⟩ := rd_keys rk i xs[i] (by rw [hxs]; simp [hlt])
    rw [hk] at hk2
    cases hk2
    have rv := rk2 Z ρ2 H'
    have q := fl_post (N := fun σ' H' => ∃ ρ3 σ3 h3, i + 1 ≤ xs.length ∧ Ext ρ H ρ3 H' ∧ Sim W Z ρ3 h3 H' ∧ RSg W Z ρ3 H' σ3 σ' ∧ PostS W Z ρ3 H' (forL (forB g b) (xs.drop (i + 1)) σ3 h3) D wx) p2
      fun ρ' H4 σ' σd' h' S' rs' x4 q => ⟨ρ', σd', h', by omega, x2.trans x4, S', rs', q⟩
    unfold forB at q
    cases hb' : bindG σ2 g xs[i] with
    | none => rw [hb'] at q; exact q.elim
    | some σ4 =>
      rw [hb'] at q
      exact bindG_ok J.hK g r2 rv hb' fun σ5 r5 _ => ⟨Z, ρ2, σ4, h2, S2, r5, q⟩
theorem sj_forK {x : Str} {i : Nat} {body : List Stmt} {g : G} {b : SM} {pos p0 : Pos} (J : Js X W wx) (hN : X.N[i]? = some x) (hv : Vis X.env.scope x) (hg : GJ X tg g) (hb : SsJ X W wx body b) (hd : (x == ("__debug__" : Str)) = false := by decide) (hcd : (x == ("__classdict__" : Str)) = false := by decide)
    (hs : ∀ y, foldedSetIterable (.Name x p0) X.env y = pure y := by intro _; rfl) : SJ X W wx (.For tg (.Name x p0) body [] pos) (sForK i g b) := by
  refine ⟨fun pins s σ H D I ⟨Z, ρ, σd, h0, S, rs, p⟩ => ?_⟩
  unfold sForK at p
  split at p
  · rename_i kds hg'
    have : σd[i]? = some (some (.dct kds)) := by
      unfold sget at hg'
      split at hg'
      · rename_i d' q; cases hg'; exact q
      · cases hg'
    obtain ⟨v, hσ, rv⟩ := rs.at_ i _ this
    cases rv with
    | dct az ha hr rk =>
      rename_i a kvs
      rcases hr with hr | ⟨od, hr⟩
      · refine (ps_lock ⟨fun pins s σ' H' D' I' (q : ∃ od, D' = endsL a od (.dK kvs) D ∧ σ' = σ ∧ H' = upd H a (.frz od (.dK kvs))) => ?_⟩).run pins s σ H D I ⟨a, .dK kvs, hr, trivial, fun od => ⟨od, rfl, rfl, rfl⟩⟩
        obtain ⟨od, rfl, rfl, rfl⟩ := q
        have L : Lk H (upd H a (.frz od (.dK kvs))) a kvs := ⟨fun b hb => upd_ne hb, .inl hr, .inr ⟨od, upd_same⟩⟩
        exact forK_run J hN hv hg hb hd hcd hs I' (S.lk L ha) (rs.lk L) ha az upd_same hσ (rk.lk L) (p.lock ha hr).noX
      · exact forK_run J hN hv hg hb hd hcd hs I S rs ha az hr hσ rk p.noX
  · exact p.elim
end
end Fw
end
section
set_option Elab.async false
set_option linter.all false
set_option maxRecDepth 100000
set_option autoImplicit false
set_option maxHeartbeats 1000000
namespace Fw
open PySem PySem.Spec PyProof.Rows L2
def eNewDct (a : TM) : TM := fun σ h => (a σ h).bind fun d h => match asDct h d with
  | some kvs => .ok (.ref h.length) (h ++ [.dct kvs])
  | none => .bad
def rNewD (W : Wd) : List V → Hp → VK → Prop := fun xs H Q => ∃ Z ρ h d kvs v, xs = [v] ∧ Sim W Z ρ h H ∧ RD W Z ρ H d v ∧ asDct h d = some kvs ∧ ∀ ρ' H' v, Ext ρ H ρ' H' → Sim W Z ρ' (h ++ [.dct kvs]) H' → RD W Z ρ' H' (.ref h.length) v → Q v H'
section
variable {X : Cx} {W : Wd} {wx : WX}
theorem cl_newDct : CallR X (.type "dict") (rNewD W) := by
  intro pins s σ H xs us Q I rv ⟨Z, ρ, h, d, kvs, v, hx, S, rd, e, hA⟩
  subst hx
  obtain ⟨a, vs, rfl, q, t⟩ := asDct_ok S rd e
  exact call_dictD pins s σ H _ us Q I rv ⟨a, vs, rfl, q, fun l n => hA (ρ ++ [l]) _ _ (Ext.own n) (S.own (o := .dK vs) (ob := .dct kvs) n (.dct upd_same (t.mono (Ext.own n)))) (.ref (by rw [← S.len]; simp))⟩
theorem newDct_read {fa : TM} {σ : L2.St} {H : Hp} {Q : VK} (p : tE W wx (eNewDct fa) σ H Q) : tA W wx (aCons fa aNil) σ H fun vs H1 => rNewD W vs H1 Q := by
  obtain ⟨Z, ρ, σd, h0, S, rs, p⟩ := p
  refine ⟨Z, ρ, σd, h0, S, rs, ?_⟩
  unfold aCons aNil
  unfold eNewDct at p
  cases hf : fa σd h0 with
  | ok d h1 =>
    rw [hf] at p
    intro ρ' H' x S' vs rvs
    simp only [R.bind_ok] at p
    cases e : asDct h1 d with
    | none => rw [e] at p; exact p.elim
    | some kvs =>
      rw [e] at p
      cases rvs with
      | cons rv t => cases t; exact ⟨Z, ρ', h1, d, kvs, _, rfl, S', rv, e, fun ρ2 H2 v x2 S2 rv2 => p ρ2 H2 (x.trans x2) S2 v rv2⟩
  | xn x h1 => rw [hf] at p; exact p
  | bad => rw [hf] at p; exact p
theorem ej_newDct {a : Expr} {fa : TM} {p pos : Pos} (ha : EJ X W wx a fa) (hg : Gl X "dict" := by rfl) (hm : X.mg "dict" = none := by assumption)
    (he : starEach [a] X.env = (false, eval a X.env) :: starEach [] X.env := by rfl) : EJ X W wx (.Call (.Name "dict" p) [a] [] pos) (eNewDct fa) :=
  ⟨fun pins s σ H Q I q => (pe_callTy (cl_newDct (W := W)) hg hm (by decide +kernel) (aj_cons ha aj_nil he) (by decide) (by decide) he).run pins s σ H Q I (newDct_read q)⟩
end
end Fw
namespace Fw
open PySem PySem.Spec PyProof.Rows L2
def bNInD (a b : TM) : BM := fun σ h => (a σ h).bind fun d h => (b σ h).bind fun e h => optB ((inD h d e).map fun k => !k) h
section
variable {X : Cx} {W : Wd} {wx : WX} {a b : Expr} {fa fb : TM} {pos : Pos}
theorem bj_notInD (J : Jc X W wx) (ha : EJ X W wx a fa) (hb : EJ X W wx b fb) (hm : behindInMarks .NotIn b = false := by with_unfolding_all rfl) : BJ X W wx (.Compare a [.NotIn] [b] pos) (bNInD fa fb) :=
  ⟨fun pins s σ H Q I ⟨Z, ρ, σd, h0, S, rs, p⟩ => (pt_cmpR (op_notInD (by have := J.hu2; omega)) ha hb hm).run pins s σ H Q I
    ⟨Z, ρ, σd, h0, S, rs, (Post.bind p).imp fun d ρ1 h1 H1 x1 S1 p1 v rv =>
      ⟨Z, ρ1, σd, h1, S1, rs.mono x1, (Post.bind p1).imp fun e ρ2 h2 H2 x2 S2 p2 u ru => by
        obtain ⟨r, e1, q⟩ := post_optB S2 p2
        simp only [Option.map_eq_some_iff, inD, Option.bind_eq_some_iff] at e1
        obtain ⟨k, ⟨xs, e2, e3⟩, e4⟩ := e1
        split at e3
        · rename_i hc
          cases e3
          subst e4
          rw [Bool.and_eq_true] at hc
          obtain ⟨a', vs, rfl, q1, t⟩ := asLst_ok S2 ru e2
          have hl : flatAll 59 xs = true := by simpa [D.flat] using hc.2
          have dl : Dp X.K H2 (.ref a') (D.lst xs).py := by
            rw [J.hK]
            simp only [D.py]
            exact .lst (SqL.of q1) (flat_dps 59 hl t)
          have dd : Dp X.K H2 v d.py := by
            rw [J.hK]
            exact flat_dp 60 hc.1 (rv.mono x2)
          refine ⟨d.py, pyAll xs, dd, by simpa [D.py] using dl, flat_shaped hc.1, by simpa [D.py] using flat_shaped (d := .lst xs) hc.2, ?_⟩
          rw [any_py hc.1 hl]
          exact ⟨_, rfl, q⟩
        · cases e3⟩⟩⟩
end
end Fw
end
section
set_option Elab.async false
set_option linter.all false
set_option maxRecDepth 100000
set_option autoImplicit false
set_option maxHeartbeats 0
namespace Lw
open PySem PySem.Spec PyProof.Rows L2 Fw
def top (i : Nat) : Stmt := PySem.Challenge.pw_appendedbook_k76_books_that_read_alike.main.body.getD i (.Pass ⟨0, 0, 0, 0⟩)
def inC (s : Stmt) (j : Nat) : Stmt := match s with
  | .ClassDef _ _ _ b _ _ _ _ _ _ _ => b.getD j (.Pass ⟨0, 0, 0, 0⟩)
  | _ => s
def empA : PySem.W.Frag → Addr := kwA ("Book", some "__init__") "free"
abbrev st0 : Stmt := top 3
def d0 : He.DefD := ⟨("is_whole", none), "is_whole", "is_whole", defArgs st0, defBody st0, defScope st0, [], []⟩
abbrev N0 : List Str := ["thing"]
abbrev ps0 : List Str := ["thing"]
theorem sc0 : FnScope N0 ps0 (defScope st0) := ⟨rfl, rfl, rfl, by decide +kernel, rfl, by decide +kernel, by decide +kernel⟩
abbrev st1 : Stmt := top 4
def d1 : He.DefD := ⟨("is_from", none), "is_from", "is_from", defArgs st1, defBody st1, defScope st1, [], []⟩
abbrev N1 : List Str := ["thing", "least", "most"]
abbrev ps1 : List Str := ["thing", "least", "most"]
theorem sc1 : FnScope N1 ps1 (defScope st1) := ⟨rfl, rfl, rfl, by decide +kernel, rfl, by decide +kernel, by decide +kernel⟩
abbrev st2 : Stmt := top 5
def d2 : He.DefD := ⟨("is_number", none), "is_number", "is_number", defArgs st2, defBody st2, defScope st2, [], []⟩
abbrev N2 : List Str := ["thing"]
abbrev ps2 : List Str := ["thing"]
theorem sc2 : FnScope N2 ps2 (defScope st2) := ⟨rfl, rfl, rfl, by decide +kernel, rfl, by decide +kernel, by decide +kernel⟩
abbrev st3 : Stmt := top 6
def d3 : He.DefD := ⟨("is_edition", none), "is_edition", "is_edition", defArgs st3, defBody st3, defScope st3, [], []⟩
abbrev N3 : List Str := ["thing"]
abbrev ps3 : List Str := ["thing"]
theorem sc3 : FnScope N3 ps3 (defScope st3) := ⟨rfl, rfl, rfl, by decide +kernel, rfl, by decide +kernel, by decide +kernel⟩
abbrev st4 : Stmt := top 7
def d4 : He.DefD := ⟨("is_reference", none), "is_reference", "is_reference", defArgs st4, defBody st4, defScope st4, [], []⟩
abbrev N4 : List Str := ["thing"]
abbrev ps4 : List Str := ["thing"]
theorem sc4 : FnScope N4 ps4 (defScope st4) := ⟨rfl, rfl, rfl, by decide +kernel, rfl, by decide +kernel, by decide +kernel⟩
abbrev st5 : Stmt := top 8
def d5 : He.DefD := ⟨("is_kind", none), "is_kind", "is_kind", defArgs st5, defBody st5, defScope st5, [], []⟩
abbrev N5 : List Str := ["thing", "word"]
abbrev ps5 : List Str := ["thing", "word"]
theorem sc5 : FnScope N5 ps5 (defScope st5) := ⟨rfl, rfl, rfl, by decide +kernel, rfl, by decide +kernel, by decide +kernel⟩
abbrev st6 : Stmt := inC (top 12) 0
def d6 : He.DefD := ⟨("Book", some "__init__"), "__init__", "Book.__init__", defArgs st6, defBody st6, defScope st6, [], [("root", .non), ("free", .adr empA)]⟩
abbrev N6 : List Str := ["self", "things", "root", "free"]
abbrev ps6 : List Str := ["self", "things", "root", "free"]
theorem sc6 : FnScope N6 ps6 (defScope st6) := ⟨rfl, rfl, rfl, by decide +kernel, rfl, by decide +kernel, by decide +kernel⟩
abbrev st7 : Stmt := inC (top 12) 4
def d7 : He.DefD := ⟨("Book", some "root"), "root", "Book.root", defArgs st7, defBody st7, defScope st7, [], []⟩
abbrev N7 : List Str := ["self"]
abbrev ps7 : List Str := ["self"]
theorem sc7 : FnScope N7 ps7 (defScope st7) := ⟨rfl, rfl, rfl, by decide +kernel, rfl, by decide +kernel, by decide +kernel⟩
abbrev st8 : Stmt := inC (top 12) 6
def d8 : He.DefD := ⟨("Book", some "edition"), "edition", "Book.edition", defArgs st8, defBody st8, defScope st8, [], []⟩
abbrev N8 : List Str := ["self", "number"]
abbrev ps8 : List Str := ["self", "number"]
theorem sc8 : FnScope N8 ps8 (defScope st8) := ⟨rfl, rfl, rfl, by decide +kernel, rfl, by decide +kernel, by decide +kernel⟩
abbrev st9 : Stmt := inC (top 12) 8
def d9 : He.DefD := ⟨("Book", some "leads"), "leads", "Book.leads", defArgs st9, defBody st9, defScope st9, [], []⟩
abbrev N9 : List Str := ["self", "reference"]
abbrev ps9 : List Str := ["self", "reference"]
theorem sc9 : FnScope N9 ps9 (defScope st9) := ⟨rfl, rfl, rfl, by decide +kernel, rfl, by decide +kernel, by decide +kernel⟩
abbrev st10 : Stmt := inC (top 12) 9
def d10 : He.DefD := ⟨("Book", some "at"), "at", "Book.at", defArgs st10, defBody st10, defScope st10, [], []⟩
abbrev N10 : List Str := ["self", "reference"]
abbrev ps10 : List Str := ["self", "reference"]
theorem sc10 : FnScope N10 ps10 (defScope st10) := ⟨rfl, rfl, rfl, by decide +kernel, rfl, by decide +kernel, by decide +kernel⟩
abbrev st11 : Stmt := inC (top 14) 0
def d11 : He.DefD := ⟨("Beside", some "__init__"), "__init__", "Beside.__init__", defArgs st11, defBody st11, defScope st11, [], []⟩
abbrev N11 : List Str := ["self", "one", "other"]
abbrev ps11 : List Str := ["self", "one", "other"]
theorem sc11 : FnScope N11 ps11 (defScope st11) := ⟨rfl, rfl, rfl, by decide +kernel, rfl, by decide +kernel, by decide +kernel⟩
abbrev st12 : Stmt := inC (top 14) 1
def d12 : He.DefD := ⟨("Beside", some "is_met"), "is_met", "Beside.is_met", defArgs st12, defBody st12, defScope st12, [], []⟩
abbrev N12 : List Str := ["self", "one", "other", "here", "far"]
abbrev ps12 : List Str := ["self", "one", "other"]
theorem sc12 : FnScope N12 ps12 (defScope st12) := ⟨rfl, rfl, rfl, by decide +kernel, rfl, by decide +kernel, by decide +kernel⟩
abbrev st13 : Stmt := inC (top 14) 2
def d13 : He.DefD := ⟨("Beside", some "are_alike"), "are_alike", "Beside.are_alike", defArgs st13, defBody st13, defScope st13, [], []⟩
abbrev N13 : List Str := ["self", "one", "other", "word", "part", "key", "more"]
abbrev ps13 : List Str := ["self", "one", "other"]
theorem sc13 : FnScope N13 ps13 (defScope st13) := ⟨rfl, rfl, rfl, by decide +kernel, rfl, by decide +kernel, by decide +kernel⟩
abbrev st14 : Stmt := inC (top 14) 3
def d14 : He.DefD := ⟨("Beside", some "are_rows_alike"), "are_rows_alike", "Beside.are_rows_alike", defArgs st14, defBody st14, defScope st14, [], []⟩
abbrev N14 : List Str := ["self", "some", "others", "part", "more"]
abbrev ps14 : List Str := ["self", "some", "others"]
theorem sc14 : FnScope N14 ps14 (defScope st14) := ⟨rfl, rfl, rfl, by decide +kernel, rfl, by decide +kernel, by decide +kernel⟩
abbrev st15 : Stmt := top 15
def d15 : He.DefD := ⟨("read_alike", none), "read_alike", "read_alike", defArgs st15, defBody st15, defScope st15, [], []⟩
abbrev N15 : List Str := ["one", "other", "beside", "at", "value", "other_value"]
abbrev ps15 : List Str := ["one", "other"]
theorem sc15 : FnScope N15 ps15 (defScope st15) := ⟨rfl, rfl, rfl, by decide +kernel, rfl, by decide +kernel, by decide +kernel⟩
abbrev st16 : Stmt := top 17
def d16 : He.DefD := ⟨("_law_leads", none), "_law_leads", "_law_leads", defArgs st16, defBody st16, defScope st16, [], []⟩
abbrev N16 : List Str := ["_law_things_here", "_law_ref"]
abbrev ps16 : List Str := ["_law_things_here", "_law_ref"]
theorem sc16 : FnScope N16 ps16 (defScope st16) := ⟨rfl, rfl, rfl, by decide +kernel, rfl, by decide +kernel, by decide +kernel⟩
abbrev st17 : Stmt := top 18
def d17 : He.DefD := ⟨("_law_same", none), "_law_same", "_law_same", defArgs st17, defBody st17, defScope st17, [], []⟩
abbrev N17 : List Str := ["_law_one", "_law_other", "_law_both", "_law_pairs", "_law_here", "_law_there", "_law_part", "_law_more"]
abbrev ps17 : List Str := ["_law_one", "_law_other", "_law_both", "_law_pairs"]
theorem sc17 : FnScope N17 ps17 (defScope st17) := ⟨rfl, rfl, rfl, by decide +kernel, rfl, by decide +kernel, by decide +kernel⟩
abbrev st18 : Stmt := top 19
def d18 : He.DefD := ⟨("_law_alike", none), "_law_alike", "_law_alike", defArgs st18, defBody st18, defScope st18, [], []⟩
abbrev N18 : List Str := ["_law_things_here", "_law_begin_at", "_law_others", "_law_top", "_law_pairs", "_law_at", "_law_one", "_law_other", "_law_here", "_law_there"]
abbrev ps18 : List Str := ["_law_things_here", "_law_begin_at", "_law_others", "_law_top"]
theorem sc18 : FnScope N18 ps18 (defScope st18) := ⟨rfl, rfl, rfl, by decide +kernel, rfl, by decide +kernel, by decide +kernel⟩
abbrev st19 : Stmt := top 20
def d19 : He.DefD := ⟨("_law_called", none), "_law_called", "_law_called", defArgs st19, defBody st19, defScope st19, [], []⟩
abbrev N19 : List Str := ["_law_own", "_law_things_here", "_law_names", "_law_one", "_law_word"]
abbrev ps19 : List Str := ["_law_own", "_law_things_here", "_law_names"]
theorem sc19 : FnScope N19 ps19 (defScope st19) := ⟨rfl, rfl, rfl, by decide +kernel, rfl, by decide +kernel, by decide +kernel⟩
abbrev st20 : Stmt := top 21
def d20 : He.DefD := ⟨("_law_take", none), "_law_take", "_law_take", defArgs st20, defBody st20, defScope st20, [], []⟩
abbrev N20 : List Str := ["_law_pool_here", "_law_many", "_law_found"]
abbrev ps20 : List Str := ["_law_pool_here", "_law_many"]
theorem sc20 : FnScope N20 ps20 (defScope st20) := ⟨rfl, rfl, rfl, by decide +kernel, rfl, by decide +kernel, by decide +kernel⟩
abbrev st21 : Stmt := top 22
def d21 : He.DefD := ⟨("_law_otherwise", none), "_law_otherwise", "_law_otherwise", defArgs st21, defBody st21, defScope st21, [], []⟩
abbrev N21 : List Str := ["_law_pool_here", "_law_things_here", "_law_begin_at", "_law_left", "_law_names", "_law_number", "_law_found"]
abbrev ps21 : List Str := ["_law_pool_here", "_law_things_here", "_law_begin_at"]
theorem sc21 : FnScope N21 ps21 (defScope st21) := ⟨rfl, rfl, rfl, by decide +kernel, rfl, by decide +kernel, by decide +kernel⟩
abbrev st22 : Stmt := top 23
def d22 : He.DefD := ⟨("_law_ref_in", none), "_law_ref_in", "_law_ref_in", defArgs st22, defBody st22, defScope st22, [], []⟩
abbrev N22 : List Str := ["_law_pool_here", "_law_most"]
abbrev ps22 : List Str := ["_law_pool_here", "_law_most"]
theorem sc22 : FnScope N22 ps22 (defScope st22) := ⟨rfl, rfl, rfl, by decide +kernel, rfl, by decide +kernel, by decide +kernel⟩
abbrev st23 : Stmt := top 24
def d23 : He.DefD := ⟨("_law_line", none), "_law_line", "_law_line", defArgs st23, defBody st23, defScope st23, [], []⟩
abbrev N23 : List Str := ["_law_pool_here", "_law_signs", "_law_turn"]
abbrev ps23 : List Str := ["_law_pool_here"]
theorem sc23 : FnScope N23 ps23 (defScope st23) := ⟨rfl, rfl, rfl, by decide +kernel, rfl, by decide +kernel, by decide +kernel⟩
abbrev st24 : Stmt := top 25
def d24 : He.DefD := ⟨("_law_linked", none), "_law_linked", "_law_linked", defArgs st24, defBody st24, defScope st24, [], []⟩
abbrev N24 : List Str := ["_law_pool_here", "_law_most", "_law_deep", "_law_way", "_law_some", "_law_turn", "_law_word", "_law_one"]
abbrev ps24 : List Str := ["_law_pool_here", "_law_most", "_law_deep"]
theorem sc24 : FnScope N24 ps24 (defScope st24) := ⟨rfl, rfl, rfl, by decide +kernel, rfl, by decide +kernel, by decide +kernel⟩
abbrev st25 : Stmt := top 26
def d25 : He.DefD := ⟨("_law_held_in", none), "_law_held_in", "_law_held_in", defArgs st25, defBody st25, defScope st25, [], []⟩
abbrev N25 : List Str := ["_law_pool_here", "_law_most", "_law_one"]
abbrev ps25 : List Str := ["_law_pool_here", "_law_most"]
theorem sc25 : FnScope N25 ps25 (defScope st25) := ⟨rfl, rfl, rfl, by decide +kernel, rfl, by decide +kernel, by decide +kernel⟩
abbrev st26 : Stmt := top 27
def d26 : He.DefD := ⟨("_law_bent", none), "_law_bent", "_law_bent", defArgs st26, defBody st26, defScope st26, [], []⟩
abbrev N26 : List Str := ["_law_pool_here", "_law_things_here", "_law_begin_at", "_law_numbers", "_law_found", "_law_number"]
abbrev ps26 : List Str := ["_law_pool_here", "_law_things_here", "_law_begin_at"]
theorem sc26 : FnScope N26 ps26 (defScope st26) := ⟨rfl, rfl, rfl, by decide +kernel, rfl, by decide +kernel, by decide +kernel⟩
abbrev st27 : Stmt := top 28
def d27 : He.DefD := ⟨("_law_pool", none), "_law_pool", "_law_pool", defArgs st27, defBody st27, defScope st27, [], []⟩
abbrev N27 : List Str := ["_law_script", "_law_k", "_law_cell", "_law_seed"]
abbrev ps27 : List Str := ["_law_script", "_law_k"]
theorem sc27 : FnScope N27 ps27 (defScope st27) := ⟨rfl, rfl, rfl, by decide +kernel, rfl, by decide +kernel, by decide +kernel⟩
abbrev st28 : Stmt := top 29
def d28 : He.DefD := ⟨("_law_things", none), "_law_things", "_law_things", defArgs st28, defBody st28, defScope st28, [], []⟩
abbrev N28 : List Str := ["_law_pool_here", "_law_most", "_law_found", "_law_number", "_law_top"]
abbrev ps28 : List Str := ["_law_pool_here"]
theorem sc28 : FnScope N28 ps28 (defScope st28) := ⟨rfl, rfl, rfl, by decide +kernel, rfl, by decide +kernel, by decide +kernel⟩
abbrev st29 : Stmt := top 30
def d29 : He.DefD := ⟨("law", none), "law", "law", defArgs st29, defBody st29, defScope st29, [], []⟩
abbrev N29 : List Str := ["_law_script", "_law_k", "_law_pool_here", "_law_turn", "_law_book", "_law_some", "_law_things_here", "_law_begin_at", "_law_others", "_law_top", "_law_other", "_law_due"]
abbrev ps29 : List Str := ["_law_script"]
theorem sc29 : FnScope N29 ps29 (defScope st29) := ⟨rfl, rfl, rfl, by decide +kernel, rfl, by decide +kernel, by decide +kernel⟩
abbrev flds : List Str := ["own_things", "own_free", "own_root", "own_books", "led_there", "led_back", "waiting"]
def ix_is_whole : Nat := 0
def ix_is_from : Nat := 1
def ix_is_number : Nat := 2
def ix_is_edition : Nat := 3
def ix_is_reference : Nat := 4
def ix_is_kind : Nat := 5
def ix_Book_init : Nat := 6
def ix_Book_root : Nat := 7
def ix_Book_edition : Nat := 8
def ix_Book_leads : Nat := 9
def ix_Book_at : Nat := 10
def ix_Beside_init : Nat := 11
def ix_Beside_is_met : Nat := 12
def ix_Beside_are_alike : Nat := 13
def ix_Beside_are_rows_alike : Nat := 14
def ix_read_alike : Nat := 15
def ix__law_leads : Nat := 16
def ix__law_same : Nat := 17
def ix__law_alike : Nat := 18
def ix__law_called : Nat := 19
def ix__law_take : Nat := 20
def ix__law_otherwise : Nat := 21
def ix__law_ref_in : Nat := 22
def ix__law_line : Nat := 23
def ix__law_linked : Nat := 24
def ix__law_held_in : Nat := 25
def ix__law_bent : Nat := 26
def ix__law_pool : Nat := 27
def ix__law_things : Nat := 28
def ix_law : Nat := 29
def Wk (K : PySem.W.Frag) : Wd where
  K := K
  fa := fun n => match n with
    | _ => empA K
  ca := fun c => match c with
    | 0 => He.ga K "Book"
    | 1 => He.ga K "Beside"
    | _ => 0
  an := anOf flds
  inj := anOf_inj (by decide +kernel) (by decide +kernel)
def df_Book_init : List D := [.non, .fn empT]
def dv6 (K : PySem.W.Frag) : List V := [.non, .ref (empA K)]
def df_Beside_init : List D := []
def dv11 (K : PySem.W.Frag) : List V := []
theorem dfl11 {K : PySem.W.Frag} : Dfl (Wk K) df_Beside_init (dv11 K) := fun _ _ _ => .nil
def kd_Book_init_root (ds es : List D) : List D := match ds, es with
  | [u0], [z0] => [u0, z0, (.fn empT)]
  | _, _ => []
def gg6_root {α : Type} (us ms zs : List α) : List α := match us, ms, zs with
  | [u0, u1], [m0], [z0] => [u0, u1, z0, m0]
  | u :: _, _, _ => [u]
  | _, _, _ => []
def lk6_root (K : PySem.W.Frag) : List (Str × V) := [("free", .ref (empA K))]
def kv6_root (K : PySem.W.Frag) (vs zs : List V) : List V := gg6_root vs ((lk6_root K).map (·.2)) zs
theorem kg6_root {K : PySem.W.Frag} (v : V) {Z ρ : List Addr} {H : Hp} {ds es : List D} {vs zs : List V} (r : RDs (Wk K) Z ρ H ds vs) (t : RDs (Wk K) Z ρ H es zs) : ∃ us, kv6_root K (v :: vs) zs = v :: us ∧ RDs (Wk K) Z ρ H (kd_Book_init_root ds es) us := by
  cases r with
  | nil => exact ⟨[], rfl, .nil⟩
  | cons r0 rr0 =>
    cases rr0 with
    | cons _ _ => exact ⟨[], rfl, .nil⟩
    | nil =>
      cases t with
      | nil => exact ⟨[], rfl, .nil⟩
      | cons t0 tt0 =>
        cases tt0 with
        | cons _ _ => exact ⟨[], rfl, .nil⟩
        | nil => exact ⟨_, rfl, (.cons r0 (.cons t0 (.cons (.fn empT) .nil)))⟩
def kd_Book_init_root_free (ds es : List D) : List D := match ds, es with
  | [u0], [z0, z1] => [u0, z0, z1]
  | _, _ => []
def gg6_root_free {α : Type} (us ms zs : List α) : List α := match us, ms, zs with
  | [u0, u1], [], [z0, z1] => [u0, u1, z0, z1]
  | u :: _, _, _ => [u]
  | _, _, _ => []
def lk6_root_free (K : PySem.W.Frag) : List (Str × V) := []
def kv6_root_free (K : PySem.W.Frag) (vs zs : List V) : List V := gg6_root_free vs ((lk6_root_free K).map (·.2)) zs
theorem kg6_root_free {K : PySem.W.Frag} (v : V) {Z ρ : List Addr} {H : Hp} {ds es : List D} {vs zs : List V} (r : RDs (Wk K) Z ρ H ds vs) (t : RDs (Wk K) Z ρ H es zs) : ∃ us, kv6_root_free K (v :: vs) zs = v :: us ∧ RDs (Wk K) Z ρ H (kd_Book_init_root_free ds es) us := by
  cases r with
  | nil => exact ⟨[], rfl, .nil⟩
  | cons r0 rr0 =>
    cases rr0 with
    | cons _ _ => exact ⟨[], rfl, .nil⟩
    | nil =>
      cases t with
      | nil => exact ⟨[], rfl, .nil⟩
      | cons t0 tt0 =>
        cases tt0 with
        | nil => exact ⟨[], rfl, .nil⟩
        | cons t1 tt1 =>
          cases tt1 with
          | cons _ _ => exact ⟨[], rfl, .nil⟩
          | nil => exact ⟨_, rfl, (.cons r0 (.cons t0 (.cons t1 .nil)))⟩
def b_is_whole (c : Nat → List D → Hh → R D) (F : Nat) : SM := (sCons (sRet (eAnd (eU (isT (isOf .int)) (eV 0)) (eNot (eU (isT (isOf .bl)) (eV 0)))))
 sNil)
def b_is_from (c : Nat → List D → Hh → R D) (F : Nat) : SM := (sCons (sRet (eAnd (eCall (fun ds h => c ix_is_whole (ds ++ []) h) (aCons (eV 0) aNil)) (eCh .le .le (eV 1) (eV 0) (eV 2))))
 sNil)
def b_is_number (c : Nat → List D → Hh → R D) (F : Nat) : SM := (sCons (sRet (eCall (fun ds h => c ix_is_from (ds ++ []) h) (aCons (eV 0) (aCons (eC (.int 1)) (aCons (eC (.int 200)) aNil)))))
 sNil)
def b_is_edition (c : Nat → List D → Hh → R D) (F : Nat) : SM := (sCons (sRet (eCall (fun ds h => c ix_is_from (ds ++ []) h) (aCons (eV 0) (aCons (eC (.int 0)) (aCons (eC (.int 99)) aNil)))))
 sNil)
def b_is_reference (c : Nat → List D → Hh → R D) (F : Nat) : SM := (sCons (sIf (bOr (bNot (bT (eU (isT (isOf .tup)) (eV 0)))) (bOr (bCmp .ne (eU lenD (eV 0)) (eC (.int 3))) (bNot (bT (eCall (fun ds h => c ix_is_kind (ds ++ []) h) (aCons (eV 0) (aCons (eC (.str [116, 111])) aNil))))))) (sCons (sRet (eC (.bl false)))
 sNil) sNil)
 (sCons (sRet (eAnd (eCall (fun ds h => c ix_is_number (ds ++ []) h) (aCons (eIx (eV 0) (eC (.int 1))) aNil)) (eCall (fun ds h => c ix_is_edition (ds ++ []) h) (aCons (eIx (eV 0) (eC (.int 2))) aNil))))
 sNil))
def b_is_kind (c : Nat → List D → Hh → R D) (F : Nat) : SM := (sCons (sRet (eAnd (eU (isT (isOf .str)) (eIx (eV 0) (eC (.int 0)))) (eCmp .eq (eIx (eV 0) (eC (.int 0))) (eV 1))))
 sNil)
def b_Book_init (c : Nat → List D → Hh → R D) (F : Nat) : SM := (sCons (sSetF 0 (eV 0) 0 (eU dictD (eV 1)))
 (sCons (sSetF 0 (eV 0) 1 (eU dictD (eV 3)))
 (sCons (sSetF 0 (eV 0) 2 (eV 2))
 sNil)))
def b_Book_root (c : Nat → List D → Hh → R D) (F : Nat) : SM := (sCons (sRet (eFld 0 2 (eV 0)))
 sNil)
def b_Book_edition (c : Nat → List D → Hh → R D) (F : Nat) : SM := (sCons (sIf (bOr (bNot (bT (eCall (fun ds h => c ix_is_number (ds ++ []) h) (aCons (eV 1) aNil)))) (bCmp .notin (eV 1) (eFld 0 0 (eV 0)))) (sCons (sRet (eC .non))
 sNil) sNil)
 (sCons (sRet (eIx (eIx (eFld 0 0 (eV 0)) (eV 1)) (eC (.int 0))))
 sNil))
def b_Book_leads (c : Nat → List D → Hh → R D) (F : Nat) : SM := (sCons (sRet (eAnd (eCall (fun ds h => c ix_is_reference (ds ++ []) h) (aCons (eV 1) aNil)) (eCmp .eq (eMeth (fun ds h => c ix_Book_edition (ds ++ []) h) 0 (eV 0) (aCons (eIx (eV 1) (eC (.int 1))) aNil)) (eIx (eV 1) (eC (.int 2))))))
 sNil)
def b_Book_at (c : Nat → List D → Hh → R D) (F : Nat) : SM := (sCons (sIf (bNot (bT (eMeth (fun ds h => c ix_Book_leads (ds ++ []) h) 0 (eV 0) (aCons (eV 1) aNil)))) (sCons (sRet (eC .non))
 sNil) sNil)
 (sCons (sRet (eIx (eIx (eFld 0 0 (eV 0)) (eIx (eV 1) (eC (.int 1)))) (eC (.int 1))))
 sNil))
def b_Beside_init (c : Nat → List D → Hh → R D) (F : Nat) : SM := (sCons (sSetF 1 (eV 0) 3 (eTup (aCons (eV 1) (aCons (eV 2) aNil))))
 (sCons (sSetF 1 (eV 0) 4 eNewD)
 (sCons (sSetF 1 (eV 0) 5 eNewD)
 (sCons (sSetF 1 (eV 0) 6 (eNewL aNil))
 sNil))))
def b_Beside_is_met (c : Nat → List D → Hh → R D) (F : Nat) : SM := (sCons (sAsg (.tp [(.nm 3), (.nm 4)]) (eFld 1 3 (eV 0)))
 (sCons (sIf (bOr (bNot (bT (eCall (fun ds h => c ix_is_reference (ds ++ []) h) (aCons (eV 1) aNil)))) (bNot (bT (eMeth (fun ds h => c ix_Book_leads (ds ++ []) h) 0 (eV 3) (aCons (eV 1) aNil))))) (sCons (sRet (eOr (eCmp .is_ (eV 2) (eC .non)) (eAnd (eCall (fun ds h => c ix_is_reference (ds ++ []) h) (aCons (eV 2) aNil)) (eNot (eMeth (fun ds h => c ix_Book_leads (ds ++ []) h) 0 (eV 4) (aCons (eV 2) aNil))))))
 sNil) sNil)
 (sCons (sIf (bOr (bNot (bT (eCall (fun ds h => c ix_is_reference (ds ++ []) h) (aCons (eV 2) aNil)))) (bNot (bT (eMeth (fun ds h => c ix_Book_leads (ds ++ []) h) 0 (eV 4) (aCons (eV 2) aNil))))) (sCons (sRet (eC (.bl false)))
 sNil) sNil)
 (sCons (sIf (bAnd (bCmp .notin (eIx (eV 1) (eC (.int 1))) (eFld 1 4 (eV 0))) (bCmp .notin (eIx (eV 2) (eC (.int 1))) (eFld 1 5 (eV 0)))) (sCons (sSetI (eFld 1 4 (eV 0)) (eIx (eV 1) (eC (.int 1))) (eIx (eV 2) (eC (.int 1))))
 (sCons (sSetI (eFld 1 5 (eV 0)) (eIx (eV 2) (eC (.int 1))) (eIx (eV 1) (eC (.int 1))))
 (sCons (sEx (eM isLst appD (eFld 1 6 (eV 0)) (eTup (aCons (eMeth (fun ds h => c ix_Book_at (ds ++ []) h) 0 (eV 3) (aCons (eV 1) aNil)) (aCons (eMeth (fun ds h => c ix_Book_at (ds ++ []) h) 0 (eV 4) (aCons (eV 2) aNil)) aNil)))))
 sNil))) sNil)
 (sCons (sRet (eCmp .eq (eM isDct dgetD (eFld 1 4 (eV 0)) (eIx (eV 1) (eC (.int 1)))) (eIx (eV 2) (eC (.int 1)))))
 sNil)))))
def b_Beside_are_alike (c : Nat → List D → Hh → R D) (F : Nat) : SM := (sCons (sIf (bOr (bCmp .is_ (eV 1) (eC .non)) (bT (eCall (fun ds h => c ix_is_reference (ds ++ []) h) (aCons (eV 1) aNil)))) (sCons (sRet (eMeth (fun ds h => c ix_Beside_is_met (ds ++ []) h) 1 (eV 0) (aCons (eV 1) (aCons (eV 2) aNil))))
 sNil) sNil)
 (sCons (sIf (bOr (bNot (bT (eU (isT (isOf .tup)) (eV 1)))) (bNot (bT (eU (isT (isOf .tup)) (eV 2))))) (sCons (sRet (eCmp .eq (eV 1) (eV 2)))
 sNil) sNil)
 (sCons (sIf (bOr (bCmp .ne (eIx (eV 1) (eC (.int 0))) (eIx (eV 2) (eC (.int 0)))) (bOr (bCmp .ne (eU lenD (eV 1)) (eU lenD (eV 2))) (bCmp .eq (eIx (eV 1) (eC (.int 0))) (eC (.str [110, 97, 109, 101]))))) (sCons (sRet (eCmp .eq (eV 1) (eV 2)))
 sNil) sNil)
 (sCons (sIf (bCmp .eq (eIx (eV 1) (eC (.int 0))) (eC (.str [114, 111, 119]))) (sCons (sRet (eMeth (fun ds h => c ix_Beside_are_rows_alike (ds ++ []) h) 1 (eV 0) (aCons (eIx (eV 1) (eC (.int 1))) (aCons (eIx (eV 2) (eC (.int 1))) aNil))))
 sNil) sNil)
 (sCons (sIf (bOr (bCmp .ne (eLc (eV 3) (.tp [(.nm 3), (.nm 4)]) .e (aCons (eIx (eV 1) (eC (.int 1))) aNil) bYes [3, 4]) (eLc (eV 3) (.tp [(.nm 3), (.nm 4)]) .e (aCons (eIx (eV 2) (eC (.int 1))) aNil) bYes [3, 4])) (bCmp .ne (eSl (eV 1) (oS (eC (.int 2))) oN) (eSl (eV 2) (oS (eC (.int 2))) oN))) (sCons (sRet (eC (.bl false)))
 sNil) sNil)
 (sCons (sRet (eU allD (eLc (eMeth (fun ds h => c ix_Beside_are_alike (ds ++ []) h) 1 (eV 0) (aCons (eV 4) (aCons (eV 6) aNil))) (.tp [(.tp [(.nm 3), (.nm 4)]), (.tp [(.nm 5), (.nm 6)])]) .zip (aCons (eIx (eV 1) (eC (.int 1))) (aCons (eIx (eV 2) (eC (.int 1))) aNil)) bYes [3, 4, 5, 6])))
 sNil))))))
def b_Beside_are_rows_alike (c : Nat → List D → Hh → R D) (F : Nat) : SM := (sCons (sIf (bCmp .ne (eU lenD (eV 1)) (eU lenD (eV 2))) (sCons (sRet (eC (.bl false)))
 sNil) sNil)
 (sCons (sRet (eU allD (eLc (eMeth (fun ds h => c ix_Beside_are_alike (ds ++ []) h) 1 (eV 0) (aCons (eV 3) (aCons (eV 4) aNil))) (.tp [(.nm 3), (.nm 4)]) .zip (aCons (eV 1) (aCons (eV 2) aNil)) bYes [3, 4])))
 sNil))
def b_read_alike (c : Nat → List D → Hh → R D) (F : Nat) : SM := (sCons (sSet 2 (eCall (fun ds h => c ix_Beside_init (ds ++ df_Beside_init) h) (aCons (eV 0) (aCons (eV 1) aNil))))
 (sCons (sIf (bNot (bT (eMeth (fun ds h => c ix_Beside_is_met (ds ++ []) h) 1 (eV 2) (aCons (eMeth (fun ds h => c ix_Book_root (ds ++ []) h) 0 (eV 0) aNil) (aCons (eMeth (fun ds h => c ix_Book_root (ds ++ []) h) 0 (eV 1) aNil) aNil))))) (sCons (sRet (eC (.bl false)))
 sNil) sNil)
 (sCons (sSet 3 (eC (.int 0)))
 (sCons (sWh F (bCmp .lt (eV 3) (eU lenD (eFld 1 6 (eV 2)))) (sCons (sAsg (.tp [(.nm 4), (.nm 5)]) (eIx (eFld 1 6 (eV 2)) (eV 3)))
 (sCons (sIf (bNot (bT (eMeth (fun ds h => c ix_Beside_are_alike (ds ++ []) h) 1 (eV 2) (aCons (eV 4) (aCons (eV 5) aNil))))) (sCons (sRet (eC (.bl false)))
 sNil) sNil)
 (sCons (sAug 3 .add (eC (.int 1)))
 sNil))))
 (sCons (sRet (eC (.bl true)))
 sNil)))))
def b__law_leads (c : Nat → List D → Hh → R D) (F : Nat) : SM := (sCons (sRet (eAnd (eCmp .isnt (eV 1) (eC .non)) (eAnd (eCmp .in_ (eIx (eV 1) (eC (.int 1))) (eV 0)) (eCmp .eq (eIx (eIx (eV 0) (eIx (eV 1) (eC (.int 1)))) (eC (.int 0))) (eIx (eV 1) (eC (.int 2)))))))
 sNil)
def b__law_same (c : Nat → List D → Hh → R D) (F : Nat) : SM := (sCons (sAsg (.tp [(.nm 4), (.nm 5)]) (eV 2))
 (sCons (sIf (bOr (bCmp .is_ (eV 0) (eC .non)) (bAnd (bT (eU (isT (isOf .tup)) (eV 0))) (bCmp .eq (eIx (eV 0) (eC (.int 0))) (eC (.str [116, 111]))))) (sCons (sIf (bNot (bT (eCall (fun ds h => c ix__law_leads (ds ++ []) h) (aCons (eV 4) (aCons (eV 0) aNil))))) (sCons (sIf (bCmp .is_ (eV 1) (eC .non)) (sCons (sRet (eC (.bl true)))
 sNil) sNil)
 (sCons (sRet (eAnd (eU (isT (isOf .tup)) (eV 1)) (eAnd (eCmp .eq (eIx (eV 1) (eC (.int 0))) (eC (.str [116, 111]))) (eNot (eCall (fun ds h => c ix__law_leads (ds ++ []) h) (aCons (eV 5) (aCons (eV 1) aNil)))))))
 sNil)) sNil)
 (sCons (sIf (bOr (bNot (bT (eU (isT (isOf .tup)) (eV 1)))) (bOr (bCmp .ne (eIx (eV 1) (eC (.int 0))) (eC (.str [116, 111]))) (bNot (bT (eCall (fun ds h => c ix__law_leads (ds ++ []) h) (aCons (eV 5) (aCons (eV 1) aNil))))))) (sCons (sRet (eC (.bl false)))
 sNil) sNil)
 (sCons (sEx (eM isLst appD (eV 3) (eTup (aCons (eIx (eV 0) (eC (.int 1))) (aCons (eIx (eV 1) (eC (.int 1))) aNil)))))
 (sCons (sRet (eC (.bl true)))
 sNil)))) sNil)
 (sCons (sIf (bOr (bNot (bT (eU (isT (isOf .tup)) (eV 0)))) (bOr (bNot (bT (eU (isT (isOf .tup)) (eV 1)))) (bOr (bCmp .eq (eIx (eV 0) (eC (.int 0))) (eC (.str [110, 97, 109, 101]))) (bCmp .ne (eIx (eV 0) (eC (.int 0))) (eIx (eV 1) (eC (.int 0))))))) (sCons (sRet (eCmp .eq (eU reprV (eV 0)) (eU reprV (eV 1))))
 sNil) sNil)
 (sCons (sIf (bOr (bCmp .ne (eU lenD (eIx (eV 0) (eC (.int 1)))) (eU lenD (eIx (eV 1) (eC (.int 1))))) (bCmp .ne (eU reprV (eSl (eV 0) (oS (eC (.int 2))) oN)) (eU reprV (eSl (eV 1) (oS (eC (.int 2))) oN)))) (sCons (sRet (eC (.bl false)))
 sNil) sNil)
 (sCons (sFor (.tp [(.nm 6), (.nm 7)]) .zip (aCons (eIx (eV 0) (eC (.int 1))) (aCons (eIx (eV 1) (eC (.int 1))) aNil)) (sCons (sIf (bCmp .ne (eIx (eV 0) (eC (.int 0))) (eC (.str [114, 111, 119]))) (sCons (sIf (bCmp .ne (eIx (eV 6) (eC (.int 0))) (eIx (eV 7) (eC (.int 0)))) (sCons (sRet (eC (.bl false)))
 sNil) sNil)
 (sCons (sPar2 6 7 (aCons (eIx (eV 6) (eC (.int 1))) (aCons (eIx (eV 7) (eC (.int 1))) aNil)))
 sNil)) sNil)
 (sCons (sIf (bNot (bT (eCall (fun ds h => c ix__law_same (ds ++ []) h) (aCons (eV 6) (aCons (eV 7) (aCons (eV 2) (aCons (eV 3) aNil))))))) (sCons (sRet (eC (.bl false)))
 sNil) sNil)
 sNil)))
 (sCons (sRet (eC (.bl true)))
 sNil))))))
def b__law_alike (c : Nat → List D → Hh → R D) (F : Nat) : SM := (sCons (sSet 4 (eNewL aNil))
 (sCons (sIf (bNot (bT (eCall (fun ds h => c ix__law_same (ds ++ []) h) (aCons (eV 1) (aCons (eV 3) (aCons (eTup (aCons (eV 0) (aCons (eV 2) aNil))) (aCons (eV 4) aNil))))))) (sCons (sRet (eC (.bl false)))
 sNil) sNil)
 (sCons (sSet 5 (eC (.int 0)))
 (sCons (sWh F (bCmp .lt (eV 5) (eU lenD (eV 4))) (sCons (sAsg (.tp [(.nm 6), (.nm 7)]) (eIx (eV 4) (eV 5)))
 (sCons (sFor (.tp [(.nm 8), (.nm 9)]) .e (aCons (eSl (eV 4) oN (oS (eV 5))) aNil) (sCons (sIf (bCmp .ne (eCmp .eq (eV 8) (eV 6)) (eCmp .eq (eV 9) (eV 7))) (sCons (sRet (eC (.bl false)))
 sNil) sNil)
 sNil))
 (sCons (sIf (bNInD (eTup (aCons (eV 6) (aCons (eV 7) aNil))) (eSl (eV 4) oN (oS (eV 5)))) (sCons (sIf (bNot (bT (eCall (fun ds h => c ix__law_same (ds ++ []) h) (aCons (eIx (eIx (eV 0) (eV 6)) (eC (.int 1))) (aCons (eIx (eIx (eV 2) (eV 7)) (eC (.int 1))) (aCons (eTup (aCons (eV 0) (aCons (eV 2) aNil))) (aCons (eV 4) aNil))))))) (sCons (sRet (eC (.bl false)))
 sNil) sNil)
 sNil) sNil)
 (sCons (sSet 5 (eBin .add (eV 5) (eC (.int 1))))
 sNil)))))
 (sCons (sRet (eC (.bl true)))
 sNil)))))
def b__law_called (c : Nat → List D → Hh → R D) (F : Nat) : SM := (sCons (sIf (bOr (bNot (bT (eU (isT (isOf .tup)) (eV 0)))) (bCmp .eq (eIx (eV 0) (eC (.int 0))) (eC (.str [110, 97, 109, 101])))) (sCons (sRet (eV 0))
 sNil) sNil)
 (sCons (sIf (bCmp .eq (eIx (eV 0) (eC (.int 0))) (eC (.str [116, 111]))) (sCons (sIf (bT (eCall (fun ds h => c ix__law_leads (ds ++ []) h) (aCons (eV 1) (aCons (eV 0) aNil)))) (sCons (sRet (eBin .add (eTup (aCons (eC (.str [116, 111])) aNil)) (eIx (eV 2) (eIx (eV 0) (eC (.int 1))))))
 sNil) sNil)
 (sCons (sRet (eIx (eLst (aCons (eC .non) (aCons (eTup (aCons (eC (.str [116, 111])) (aCons (eC (.int 150)) (aCons (eC (.int 3)) aNil)))) aNil))) (eBin .mod (eIx (eV 0) (eC (.int 1))) (eC (.int 2)))))
 sNil)) sNil)
 (sCons (sIf (bCmp .eq (eIx (eV 0) (eC (.int 0))) (eC (.str [114, 111, 119]))) (sCons (sRet (eTup (aCons (eC (.str [114, 111, 119])) (aCons (eU tupleD (eLc (eCall (fun ds h => c ix__law_called (ds ++ []) h) (aCons (eV 3) (aCons (eV 1) (aCons (eV 2) aNil)))) (.nm 3) .e (aCons (eIx (eV 0) (eC (.int 1))) aNil) bYes [3])) aNil))))
 sNil) sNil)
 (sCons (sRet (eBin .add (eTup (aCons (eIx (eV 0) (eC (.int 0))) (aCons (eU tupleD (eLc (eTup (aCons (eV 4) (aCons (eCall (fun ds h => c ix__law_called (ds ++ []) h) (aCons (eV 3) (aCons (eV 1) (aCons (eV 2) aNil)))) aNil))) (.tp [(.nm 4), (.nm 3)]) .e (aCons (eIx (eV 0) (eC (.int 1))) aNil) bYes [4, 3])) aNil))) (eSl (eV 0) (oS (eC (.int 2))) oN)))
 sNil))))
def b__law_take (c : Nat → List D → Hh → R D) (F : Nat) : SM := (sCons (sIf (bCmp .gt (eIx (eV 0) (eC (.int 0))) (eC (.int 0))) (sCons (sSet 2 (eBin .mod (eIx (eV 0) (eC (.int 0))) (eV 1)))
 (sCons (sSetI (eV 0) (eC (.int 0)) (eBin .fdiv (eIx (eV 0) (eC (.int 0))) (eV 1)))
 (sCons (sRet (eV 2))
 sNil))) sNil)
 (sCons (sSetI (eV 0) (eC (.int 1)) (eBin .mod (eBin .add (eBin .mul (eIx (eV 0) (eC (.int 1))) (eC (.int 48271))) (eC (.int 11))) (eC (.int 2147483647))))
 (sCons (sRet (eBin .mod (eBin .fdiv (eBin .mod (eBin .mul (eIx (eV 0) (eC (.int 1))) (eIx (eV 0) (eC (.int 1)))) (eC (.int 2147483629))) (eC (.int 64))) (eV 1)))
 sNil)))
def b__law_otherwise (c : Nat → List D → Hh → R D) (F : Nat) : SM := (sCons (sSet 3 (eNewRg (eC (.int 1)) (eC (.int 30))))
 (sCons (sSet 4 eNewD)
 (sCons (sForK 1 (.nm 5) (sCons (sSetI (eV 4) (eV 5) (eTup (aCons (eM isLst popD (eV 3) (eCall (fun ds h => c ix__law_take (ds ++ []) h) (aCons (eV 0) (aCons (eU lenD (eV 3)) aNil)))) (aCons (eCall (fun ds h => c ix__law_take (ds ++ []) h) (aCons (eV 0) (aCons (eC (.int 3)) aNil))) aNil))))
 sNil))
 (sCons (sSet 6 eNewD)
 (sCons (sForK 1 (.nm 5) (sCons (sSetI (eV 6) (eIx (eIx (eV 4) (eV 5)) (eC (.int 0))) (eTup (aCons (eIx (eIx (eV 4) (eV 5)) (eC (.int 1))) (aCons (eCall (fun ds h => c ix__law_called (ds ++ []) h) (aCons (eIx (eIx (eV 1) (eV 5)) (eC (.int 1))) (aCons (eV 1) (aCons (eV 4) aNil)))) aNil))))
 sNil))
 (sCons (sSetI (eV 6) (eC (.int 199)) (eTup (aCons (eC (.int 0)) (aCons (eTup (aCons (eC (.str [116, 111])) (aCons (eC (.int 199)) (aCons (eC (.int 0)) aNil)))) aNil))))
 (sCons (sRet (eTup (aCons (eV 6) (aCons (eIte (bCmp .isnt (eV 2) (eC .non)) (eCall (fun ds h => c ix__law_called (ds ++ []) h) (aCons (eV 2) (aCons (eV 1) (aCons (eV 4) aNil)))) (eTup (aCons (eC (.str [116, 111])) (aCons (eC (.int 150)) (aCons (eC (.int 3)) aNil))))) aNil))))
 sNil)))))))
def b__law_ref_in (c : Nat → List D → Hh → R D) (F : Nat) : SM := (sCons (sRet (eTup (aCons (eC (.str [116, 111])) (aCons (eBin .add (eC (.int 1)) (eCall (fun ds h => c ix__law_take (ds ++ []) h) (aCons (eV 0) (aCons (eBin .add (eV 1) (eC (.int 2))) aNil)))) (aCons (eIx (eLst (aCons (eC (.int 0)) (aCons (eC (.int 0)) (aCons (eC (.int 0)) (aCons (eC (.int 1)) aNil))))) (eCall (fun ds h => c ix__law_take (ds ++ []) h) (aCons (eV 0) (aCons (eC (.int 4)) aNil)))) aNil)))))
 sNil)
def b__law_line (c : Nat → List D → Hh → R D) (F : Nat) : SM := (sCons (sSet 1 (eC (.str [97, 98, 40, 41, 92, 47, 60, 62, 91, 93, 58, 126, 45, 48, 32, 49, 110])))
 (sCons (sRet (eM isStr joinD (eC (.str [])) (eLc (eIx (eV 1) (eCall (fun ds h => c ix__law_take (ds ++ []) h) (aCons (eV 0) (aCons (eC (.int 17)) aNil)))) (.nm 2) .range (aCons (eCall (fun ds h => c ix__law_take (ds ++ []) h) (aCons (eV 0) (aCons (eC (.int 7)) aNil))) aNil) bYes [2])))
 sNil))
def b__law_linked (c : Nat → List D → Hh → R D) (F : Nat) : SM := (sCons (sSet 3 (eCall (fun ds h => c ix__law_take (ds ++ []) h) (aCons (eV 0) (aCons (eIx (eLst (aCons (eC (.int 5)) (aCons (eC (.int 8)) aNil))) (eU intV (eCmp .gt (eV 2) (eC (.int 0))))) aNil))))
 (sCons (sIf (bCmp .lt (eV 3) (eC (.int 3))) (sCons (sRet (eCall (fun ds h => c ix__law_ref_in (ds ++ []) h) (aCons (eV 0) (aCons (eV 1) aNil))))
 sNil) sNil)
 (sCons (sIf (bCmp .eq (eV 3) (eC (.int 3))) (sCons (sRet (eIx (eLst (aCons (eC .non) (aCons (eC (.int 5)) (aCons (eC (.str [97, 41])) (aCons (eTup (aCons (eC (.str [110, 97, 109, 101])) (aCons (eC (.str [107, 105, 100, 115])) aNil))) aNil))))) (eCall (fun ds h => c ix__law_take (ds ++ []) h) (aCons (eV 0) (aCons (eC (.int 4)) aNil)))))
 sNil) sNil)
 (sCons (sIf (bCmp .eq (eV 3) (eC (.int 4))) (sCons (sRet (eCall (fun ds h => c ix__law_line (ds ++ []) h) (aCons (eV 0) aNil)))
 sNil) sNil)
 (sCons (sSet 4 (eLc (eCall (fun ds h => c ix__law_linked (ds ++ []) h) (aCons (eV 0) (aCons (eV 1) (aCons (eBin .sub (eV 2) (eC (.int 1))) aNil)))) (.nm 5) .range (aCons (eCall (fun ds h => c ix__law_take (ds ++ []) h) (aCons (eV 0) (aCons (eC (.int 4)) aNil))) aNil) bYes [5]))
 (sCons (sIf (bCmp .lt (eV 3) (eC (.int 7))) (sCons (sRet (eTup (aCons (eC (.str [114, 111, 119])) (aCons (eU tupleD (eV 4)) aNil))))
 sNil) sNil)
 (sCons (sRet (eTup (aCons (eC (.str [116, 97, 98, 108, 101])) (aCons (eU tupleD (eLc (eTup (aCons (eV 6) (aCons (eV 7) aNil))) (.tp [(.nm 6), (.nm 7)]) .zip (aCons (eLst (aCons (eC (.str [97])) (aCons (eC (.str [107, 105, 100, 115])) (aCons (eC (.str [116, 101, 120, 116])) (aCons (eC (.str [122, 122])) aNil))))) (aCons (eV 4) aNil)) bYes [6, 7])) aNil))))
 sNil)))))))
def b__law_held_in (c : Nat → List D → Hh → R D) (F : Nat) : SM := (sCons (sSet 2 (eCall (fun ds h => c ix__law_linked (ds ++ []) h) (aCons (eV 0) (aCons (eV 1) (aCons (eC (.int 2)) aNil)))))
 (sCons (sIf (bCmp .eq (eCall (fun ds h => c ix__law_take (ds ++ []) h) (aCons (eV 0) (aCons (eC (.int 6)) aNil))) (eC (.int 0))) (sCons (sSet 2 (eTup (aCons (eC (.str [115, 116, 114, 101, 97, 109])) (aCons (eTup (aCons (eTup (aCons (eC (.str [97])) (aCons (eCall (fun ds h => c ix__law_linked (ds ++ []) h) (aCons (eV 0) (aCons (eV 1) (aCons (eC (.int 1)) aNil)))) aNil))) aNil)) (aCons (eIx (eLst (aCons (eC (.str [])) (aCons (eC (.str [101, 110, 100, 10])) (aCons (eC (.str [116, 104, 105, 110, 103, 32, 49, 32, 48, 10])) aNil)))) (eCall (fun ds h => c ix__law_take (ds ++ []) h) (aCons (eV 0) (aCons (eC (.int 3)) aNil)))) aNil)))))
 sNil) sNil)
 (sCons (sRet (eV 2))
 sNil)))
def b__law_bent (c : Nat → List D → Hh → R D) (F : Nat) : SM := (sCons (sSet 3 (eU sortedKI (eV 1)))
 (sCons (sSet 4 (eNewDct (eV 1)))
 (sCons (sIf (bOr (bCmp .eq (eV 3) (eLst aNil)) (bCmp .eq (eCall (fun ds h => c ix__law_take (ds ++ []) h) (aCons (eV 0) (aCons (eC (.int 4)) aNil))) (eC (.int 0)))) (sCons (sRet (eTup (aCons (eV 4) (aCons (eCall (fun ds h => c ix__law_ref_in (ds ++ []) h) (aCons (eV 0) (aCons (eC (.int 7)) aNil))) aNil))))
 sNil) sNil)
 (sCons (sSet 5 (eIx (eV 3) (eCall (fun ds h => c ix__law_take (ds ++ []) h) (aCons (eV 0) (aCons (eU lenD (eV 3)) aNil)))))
 (sCons (sSetI (eV 4) (eV 5) (eTup (aCons (eIx (eIx (eV 4) (eV 5)) (eC (.int 0))) (aCons (eIx (eLst (aCons (eCall (fun ds h => c ix__law_held_in (ds ++ []) h) (aCons (eV 0) (aCons (eC (.int 7)) aNil))) (aCons (eC .non) (aCons (eTup (aCons (eC (.str [116, 111])) (aCons (eV 5) (aCons (eC (.int 0)) aNil)))) (aCons (eC (.str [])) aNil))))) (eCall (fun ds h => c ix__law_take (ds ++ []) h) (aCons (eV 0) (aCons (eC (.int 4)) aNil)))) aNil))))
 (sCons (sRet (eTup (aCons (eV 4) (aCons (eV 2) aNil))))
 sNil))))))
def b__law_pool (c : Nat → List D → Hh → R D) (F : Nat) : SM := (sCons (sSet 2 (eC (.int 0)))
 (sCons (sIf (bCmp .lt (eV 1) (eU lenD (eV 0))) (sCons (sSet 2 (eIx (eV 0) (eV 1)))
 sNil) sNil)
 (sCons (sSet 3 (eBin .mod (eBin .mul (eBin .add (eBin .add (eBin .mod (eV 2) (eC (.int 2147483629))) (eBin .mul (eBin .mul (eC (.int 7919)) (eV 1)) (eV 1))) (eC (.int 13))) (eC (.int 48271))) (eC (.int 2147483647))))
 (sCons (sIf (bCmp .lt (eV 2) (eBin .pow (eC (.int 10)) (eC (.int 18)))) (sCons (sSet 2 (eC (.int 0)))
 sNil) sNil)
 (sCons (sRet (eNewL (aCons (eV 2) (aCons (eBin .add (eBin .mod (eBin .mul (eV 3) (eV 3)) (eC (.int 2147483587))) (eC (.int 1))) aNil))))
 sNil)))))
def b__law_things (c : Nat → List D → Hh → R D) (F : Nat) : SM := (sCons (sSet 1 (eBin .add (eC (.int 1)) (eCall (fun ds h => c ix__law_take (ds ++ []) h) (aCons (eV 0) (aCons (eC (.int 7)) aNil)))))
 (sCons (sSet 2 eNewD)
 (sCons (sFor (.nm 3) .range (aCons (eC (.int 1)) (aCons (eBin .add (eV 1) (eC (.int 1))) aNil)) (sCons (sIf (bCmp .gt (eCall (fun ds h => c ix__law_take (ds ++ []) h) (aCons (eV 0) (aCons (eC (.int 5)) aNil))) (eC (.int 0))) (sCons (sSetI (eV 2) (eV 3) (eTup (aCons (eIx (eLst (aCons (eC (.int 0)) (aCons (eC (.int 0)) (aCons (eC (.int 0)) (aCons (eC (.int 1)) aNil))))) (eCall (fun ds h => c ix__law_take (ds ++ []) h) (aCons (eV 0) (aCons (eC (.int 4)) aNil)))) (aCons (eCall (fun ds h => c ix__law_held_in (ds ++ []) h) (aCons (eV 0) (aCons (eV 1) aNil))) aNil))))
 sNil) sNil)
 sNil))
 (sCons (sSet 4 (eIx (eLst (aCons (eC .non) (aCons (eCall (fun ds h => c ix__law_ref_in (ds ++ []) h) (aCons (eV 0) (aCons (eV 1) aNil))) (aCons (eCall (fun ds h => c ix__law_ref_in (ds ++ []) h) (aCons (eV 0) (aCons (eV 1) aNil))) (aCons (eTup (aCons (eC (.str [116, 111])) (aCons (eC (.int 1)) (aCons (eC (.int 0)) aNil)))) aNil))))) (eCall (fun ds h => c ix__law_take (ds ++ []) h) (aCons (eV 0) (aCons (eC (.int 4)) aNil)))))
 (sCons (sRet (eTup (aCons (eV 2) (aCons (eV 4) aNil))))
 sNil)))))
def b_law (c : Nat → List D → Hh → R D) (F : Nat) : SM := (sCons (sFor (.nm 1) .range (aCons (eU2 maxD (eC (.int 1)) (eU2 minD (eU lenD (eV 0)) (eC (.int 8)))) aNil) (sCons (sSet 2 (eCall (fun ds h => c ix__law_pool (ds ++ []) h) (aCons (eV 0) (aCons (eV 1) aNil))))
 (sCons (sFor (.nm 3) .range (aCons (eC (.int 3)) aNil) (sCons (sAsg (.tp [(.nm 6), (.nm 7)]) (eCall (fun ds h => c ix__law_things (ds ++ []) h) (aCons (eV 2) aNil)))
 (sCons (sSet 4 (eCallK (c ix_Book_init) kd_Book_init_root (aCons (eV 6) aNil) (aCons (eV 7) aNil)))
 (sCons (sSet 5 (eNewL (aCons (eTup (aCons (eV 6) (aCons (eV 7) aNil))) (aCons (eCall (fun ds h => c ix__law_otherwise (ds ++ []) h) (aCons (eV 2) (aCons (eV 6) (aCons (eV 7) aNil)))) (aCons (eCall (fun ds h => c ix__law_bent (ds ++ []) h) (aCons (eV 2) (aCons (eV 6) (aCons (eV 7) aNil)))) aNil)))))
 (sCons (sEx (eM isLst appD (eV 5) (eCall (fun ds h => c ix__law_things (ds ++ []) h) (aCons (eV 2) aNil))))
 (sCons (sEx (eM isLst appD (eV 5) (eCall (fun ds h => c ix__law_bent (ds ++ []) h) (aCons (eV 2) (aCons (eIx (eIx (eV 5) (eC (.int 1))) (eC (.int 0))) (aCons (eIx (eIx (eV 5) (eC (.int 1))) (eC (.int 1))) aNil))))))
 (sCons (sForI (.tp [(.nm 8), (.nm 9)]) .e (eV 5) (sCons (sSet 10 (eCallK (c ix_Book_init) kd_Book_init_root_free (aCons (eV 8) aNil) (aCons (eV 9) (aCons (eDisp [((eC (.int 200)), (eC (.int 3)))]) aNil))))
 (sCons (sSet 11 (eCall (fun ds h => c ix__law_alike (ds ++ []) h) (aCons (eV 6) (aCons (eV 7) (aCons (eV 8) (aCons (eV 9) aNil))))))
 (sCons (sIf (bCmp .ne (eU reprV (eLst (aCons (eCall (fun ds h => c ix_read_alike (ds ++ []) h) (aCons (eV 4) (aCons (eV 10) aNil))) (aCons (eCall (fun ds h => c ix_read_alike (ds ++ []) h) (aCons (eV 10) (aCons (eV 4) aNil))) aNil)))) (eU reprV (eLst (aCons (eV 11) (aCons (eV 11) aNil))))) (sCons (sRet (eC (.bl false)))
 sNil) sNil)
 sNil))) F)
 (sCons (sIf (bOr (bNot (bT (eCall (fun ds h => c ix_read_alike (ds ++ []) h) (aCons (eV 4) (aCons (eV 4) aNil))))) (bNot (bT (eCall (fun ds h => c ix_read_alike (ds ++ []) h) (aCons (eV 4) (aCons (eCallK (c ix_Book_init) kd_Book_init_root (aCons (eIx (eIx (eV 5) (eC (.int 1))) (eC (.int 0))) aNil) (aCons (eIx (eIx (eV 5) (eC (.int 1))) (eC (.int 1))) aNil)) aNil)))))) (sCons (sRet (eC (.bl false)))
 sNil) sNil)
 sNil))))))))
 sNil)))
 (sCons (sRet (eC (.bl true)))
 sNil))
def run (F : Nat) : Nat → Nat → List D → Hh → R D
  | 0 => fun _ _ _ => .bad
  | n + 1 => fun i => match i with
    | 0 => own 1 1 (b_is_whole (run F n) F)
    | 1 => own 3 3 (b_is_from (run F n) F)
    | 2 => own 1 1 (b_is_number (run F n) F)
    | 3 => own 1 1 (b_is_edition (run F n) F)
    | 4 => own 1 1 (b_is_reference (run F n) F)
    | 5 => own 2 2 (b_is_kind (run F n) F)
    | 6 => make 0 4 4 (b_Book_init (run F n) F)
    | 7 => own 1 1 (b_Book_root (run F n) F)
    | 8 => own 2 2 (b_Book_edition (run F n) F)
    | 9 => own 2 2 (b_Book_leads (run F n) F)
    | 10 => own 2 2 (b_Book_at (run F n) F)
    | 11 => makeF 1 3 3 (b_Beside_init (run F n) F)
    | 12 => full 3 5 (b_Beside_is_met (run F n) F)
    | 13 => full 3 7 (b_Beside_are_alike (run F n) F)
    | 14 => full 3 5 (b_Beside_are_rows_alike (run F n) F)
    | 15 => own 2 6 (b_read_alike (run F n) F)
    | 16 => own 2 2 (b__law_leads (run F n) F)
    | 17 => own 4 8 (b__law_same (run F n) F)
    | 18 => own 4 10 (b__law_alike (run F n) F)
    | 19 => own 3 5 (b__law_called (run F n) F)
    | 20 => own 2 3 (b__law_take (run F n) F)
    | 21 => own 3 7 (b__law_otherwise (run F n) F)
    | 22 => own 2 2 (b__law_ref_in (run F n) F)
    | 23 => own 1 3 (b__law_line (run F n) F)
    | 24 => own 3 8 (b__law_linked (run F n) F)
    | 25 => own 2 3 (b__law_held_in (run F n) F)
    | 26 => own 3 6 (b__law_bent (run F n) F)
    | 27 => full 2 4 (b__law_pool (run F n) F)
    | 28 => own 1 5 (b__law_things (run F n) F)
    | 29 => full 1 12 (b_law (run F n) F)
    | _ => fun _ _ => .bad
theorem run_is_whole (F n : Nat) : run F (n + 1) ix_is_whole = own 1 1 (b_is_whole (run F n) F) := rfl
theorem run_is_from (F n : Nat) : run F (n + 1) ix_is_from = own 3 3 (b_is_from (run F n) F) := rfl
theorem run_is_number (F n : Nat) : run F (n + 1) ix_is_number = own 1 1 (b_is_number (run F n) F) := rfl
theorem run_is_edition (F n : Nat) : run F (n + 1) ix_is_edition = own 1 1 (b_is_edition (run F n) F) := rfl
theorem run_is_reference (F n : Nat) : run F (n + 1) ix_is_reference = own 1 1 (b_is_reference (run F n) F) := rfl
theorem run_is_kind (F n : Nat) : run F (n + 1) ix_is_kind = own 2 2 (b_is_kind (run F n) F) := rfl
theorem run_Book_init (F n : Nat) : run F (n + 1) ix_Book_init = make 0 4 4 (b_Book_init (run F n) F) := rfl
theorem run_Book_root (F n : Nat) : run F (n + 1) ix_Book_root = own 1 1 (b_Book_root (run F n) F) := rfl
theorem run_Book_edition (F n : Nat) : run F (n + 1) ix_Book_edition = own 2 2 (b_Book_edition (run F n) F) := rfl
theorem run_Book_leads (F n : Nat) : run F (n + 1) ix_Book_leads = own 2 2 (b_Book_leads (run F n) F) := rfl
theorem run_Book_at (F n : Nat) : run F (n + 1) ix_Book_at = own 2 2 (b_Book_at (run F n) F) := rfl
theorem run_Beside_init (F n : Nat) : run F (n + 1) ix_Beside_init = makeF 1 3 3 (b_Beside_init (run F n) F) := rfl
theorem run_Beside_is_met (F n : Nat) : run F (n + 1) ix_Beside_is_met = full 3 5 (b_Beside_is_met (run F n) F) := rfl
theorem run_Beside_are_alike (F n : Nat) : run F (n + 1) ix_Beside_are_alike = full 3 7 (b_Beside_are_alike (run F n) F) := rfl
theorem run_Beside_are_rows_alike (F n : Nat) : run F (n + 1) ix_Beside_are_rows_alike = full 3 5 (b_Beside_are_rows_alike (run F n) F) := rfl
theorem run_read_alike (F n : Nat) : run F (n + 1) ix_read_alike = own 2 6 (b_read_alike (run F n) F) := rfl
theorem run__law_leads (F n : Nat) : run F (n + 1) ix__law_leads = own 2 2 (b__law_leads (run F n) F) := rfl
theorem run__law_same (F n : Nat) : run F (n + 1) ix__law_same = own 4 8 (b__law_same (run F n) F) := rfl
theorem run__law_alike (F n : Nat) : run F (n + 1) ix__law_alike = own 4 10 (b__law_alike (run F n) F) := rfl
theorem run__law_called (F n : Nat) : run F (n + 1) ix__law_called = own 3 5 (b__law_called (run F n) F) := rfl
theorem run__law_take (F n : Nat) : run F (n + 1) ix__law_take = own 2 3 (b__law_take (run F n) F) := rfl
theorem run__law_otherwise (F n : Nat) : run F (n + 1) ix__law_otherwise = own 3 7 (b__law_otherwise (run F n) F) := rfl
theorem run__law_ref_in (F n : Nat) : run F (n + 1) ix__law_ref_in = own 2 2 (b__law_ref_in (run F n) F) := rfl
theorem run__law_line (F n : Nat) : run F (n + 1) ix__law_line = own 1 3 (b__law_line (run F n) F) := rfl
theorem run__law_linked (F n : Nat) : run F (n + 1) ix__law_linked = own 3 8 (b__law_linked (run F n) F) := rfl
theorem run__law_held_in (F n : Nat) : run F (n + 1) ix__law_held_in = own 2 3 (b__law_held_in (run F n) F) := rfl
theorem run__law_bent (F n : Nat) : run F (n + 1) ix__law_bent = own 3 6 (b__law_bent (run F n) F) := rfl
theorem run__law_pool (F n : Nat) : run F (n + 1) ix__law_pool = full 2 4 (b__law_pool (run F n) F) := rfl
theorem run__law_things (F n : Nat) : run F (n + 1) ix__law_things = own 1 5 (b__law_things (run F n) F) := rfl
theorem run_law (F n : Nat) : run F (n + 1) ix_law = full 1 12 (b_law (run F n) F) := rfl
end Lw
end
section
set_option Elab.async false
set_option linter.all false
set_option maxRecDepth 100000
set_option autoImplicit false
set_option maxHeartbeats 0
namespace Lw
open PySem PySem.Spec PyProof.Rows L2 Fw
structure Mg (w : World) (K : PySem.W.Frag) (mg : Str → Option Value) : Prop where
  g_Beside : mg "Beside" = some (.ref (He.ga K "Beside"))
  g_Book : mg "Book" = some (.ref (He.ga K "Book"))
  g__law_alike : mg "_law_alike" = some (.ref (He.ga K "_law_alike"))
  g__law_bent : mg "_law_bent" = some (.ref (He.ga K "_law_bent"))
  g__law_called : mg "_law_called" = some (.ref (He.ga K "_law_called"))
  g__law_held_in : mg "_law_held_in" = some (.ref (He.ga K "_law_held_in"))
  g__law_leads : mg "_law_leads" = some (.ref (He.ga K "_law_leads"))
  g__law_line : mg "_law_line" = some (.ref (He.ga K "_law_line"))
  g__law_linked : mg "_law_linked" = some (.ref (He.ga K "_law_linked"))
  g__law_otherwise : mg "_law_otherwise" = some (.ref (He.ga K "_law_otherwise"))
  g__law_pool : mg "_law_pool" = some (.ref (He.ga K "_law_pool"))
  g__law_ref_in : mg "_law_ref_in" = some (.ref (He.ga K "_law_ref_in"))
  g__law_same : mg "_law_same" = some (.ref (He.ga K "_law_same"))
  g__law_take : mg "_law_take" = some (.ref (He.ga K "_law_take"))
  g__law_things : mg "_law_things" = some (.ref (He.ga K "_law_things"))
  g_is_edition : mg "is_edition" = some (.ref (He.ga K "is_edition"))
  g_is_from : mg "is_from" = some (.ref (He.ga K "is_from"))
  g_is_kind : mg "is_kind" = some (.ref (He.ga K "is_kind"))
  g_is_number : mg "is_number" = some (.ref (He.ga K "is_number"))
  g_is_reference : mg "is_reference" = some (.ref (He.ga K "is_reference"))
  g_is_whole : mg "is_whole" = some (.ref (He.ga K "is_whole"))
  g_read_alike : mg "read_alike" = some (.ref (He.ga K "read_alike"))
  f_all : mg "all" = none
  f_bool : mg "bool" = none
  f_dict : mg "dict" = none
  f_int : mg "int" = none
  f_isinstance : mg "isinstance" = none
  f_len : mg "len" = none
  f_list : mg "list" = none
  f_max : mg "max" = none
  f_min : mg "min" = none
  f_range : mg "range" = none
  f_repr : mg "repr" = none
  f_sorted : mg "sorted" = none
  f_str : mg "str" = none
  f_tuple : mg "tuple" = none
  f_zip : mg "zip" = none
  MOST_EDITION : ∃ t, mg "MOST_EDITION" = some (.int 99 t)
  MOST_NUMBER : ∃ t, mg "MOST_NUMBER" = some (.int 200 t)
  cls0 : Cls K (He.ga K "Book")
  mk0 : Mk K (He.ga K "Book") (He.ma K (He.ga K "Book") "__init__")
  cls1 : Cls K (He.ga K "Beside")
  mk1 : Mk K (He.ga K "Beside") (He.ma K (He.ga K "Beside") "__init__")
  no0_own_free : NoAttr K (He.ga K "Book") "own_free"
  no0_own_root : NoAttr K (He.ga K "Book") "own_root"
  no0_own_things : NoAttr K (He.ga K "Book") "own_things"
  no1_led_back : NoAttr K (He.ga K "Beside") "led_back"
  no1_led_there : NoAttr K (He.ga K "Beside") "led_there"
  no1_own_books : NoAttr K (He.ga K "Beside") "own_books"
  no1_waiting : NoAttr K (He.ga K "Beside") "waiting"
  m0_at : Meth K (He.ga K "Book") "at" (He.ma K (He.ga K "Book") "at")
  m0_edition : Meth K (He.ga K "Book") "edition" (He.ma K (He.ga K "Book") "edition")
  m0_leads : Meth K (He.ga K "Book") "leads" (He.ma K (He.ga K "Book") "leads")
  m0_root : Meth K (He.ga K "Book") "root" (He.ma K (He.ga K "Book") "root")
  m1_are_alike : Meth K (He.ga K "Beside") "are_alike" (He.ma K (He.ga K "Beside") "are_alike")
  m1_are_rows_alike : Meth K (He.ga K "Beside") "are_rows_alike" (He.ma K (He.ga K "Beside") "are_rows_alike")
  m1_is_met : Meth K (He.ga K "Beside") "is_met" (He.ma K (He.ga K "Beside") "is_met")
  emp : KEmp K (empA K)
theorem nm_at (k : Nat) : anOf flds k ≠ "at" := anOf_ne (by decide +kernel) (by decide +kernel) k
theorem nm_edition (k : Nat) : anOf flds k ≠ "edition" := anOf_ne (by decide +kernel) (by decide +kernel) k
theorem nm_leads (k : Nat) : anOf flds k ≠ "leads" := anOf_ne (by decide +kernel) (by decide +kernel) k
theorem nm_root (k : Nat) : anOf flds k ≠ "root" := anOf_ne (by decide +kernel) (by decide +kernel) k
theorem nm_are_alike (k : Nat) : anOf flds k ≠ "are_alike" := anOf_ne (by decide +kernel) (by decide +kernel) k
theorem nm_are_rows_alike (k : Nat) : anOf flds k ≠ "are_rows_alike" := anOf_ne (by decide +kernel) (by decide +kernel) k
theorem nm_is_met (k : Nat) : anOf flds k ≠ "is_met" := anOf_ne (by decide +kernel) (by decide +kernel) k
structure Ok (P : Program) (w : World) (K : PySem.W.Frag) (mg : Str → Option Value) (base : Heap) (F n : Nat) : Prop where
  c0 : CalleeB P w K mg base (Wk K) (2 * n) (He.fAd K d0.at_) ps0 [] (run F n ix_is_whole)
  c1 : CalleeB P w K mg base (Wk K) (2 * n) (He.fAd K d1.at_) ps1 [] (run F n ix_is_from)
  c2 : CalleeB P w K mg base (Wk K) (2 * n) (He.fAd K d2.at_) ps2 [] (run F n ix_is_number)
  c3 : CalleeB P w K mg base (Wk K) (2 * n) (He.fAd K d3.at_) ps3 [] (run F n ix_is_edition)
  c4 : CalleeB P w K mg base (Wk K) (2 * n) (He.fAd K d4.at_) ps4 [] (run F n ix_is_reference)
  c5 : CalleeB P w K mg base (Wk K) (2 * n) (He.fAd K d5.at_) ps5 [] (run F n ix_is_kind)
  c6 : MakerB P w K mg base (Wk K) (2 * n) 0 ps6 (dv6 K) (run F n ix_Book_init)
  c7 : CalleeB P w K mg base (Wk K) (2 * n) (He.fAd K d7.at_) ps7 [] (run F n ix_Book_root)
  c8 : CalleeB P w K mg base (Wk K) (2 * n) (He.fAd K d8.at_) ps8 [] (run F n ix_Book_edition)
  c9 : CalleeB P w K mg base (Wk K) (2 * n) (He.fAd K d9.at_) ps9 [] (run F n ix_Book_leads)
  c10 : CalleeB P w K mg base (Wk K) (2 * n) (He.fAd K d10.at_) ps10 [] (run F n ix_Book_at)
  c11 : MakerB P w K mg base (Wk K) (2 * n) 1 ps11 (dv11 K) (run F n ix_Beside_init)
  c12 : CalleeB P w K mg base (Wk K) (2 * n) (He.fAd K d12.at_) ps12 [] (run F n ix_Beside_is_met)
  c13 : CalleeB P w K mg base (Wk K) (2 * n) (He.fAd K d13.at_) ps13 [] (run F n ix_Beside_are_alike)
  c14 : CalleeB P w K mg base (Wk K) (2 * n) (He.fAd K d14.at_) ps14 [] (run F n ix_Beside_are_rows_alike)
  c15 : CalleeB P w K mg base (Wk K) (2 * n) (He.fAd K d15.at_) ps15 [] (run F n ix_read_alike)
  c16 : CalleeB P w K mg base (Wk K) (2 * n) (He.fAd K d16.at_) ps16 [] (run F n ix__law_leads)
  c17 : CalleeB P w K mg base (Wk K) (2 * n) (He.fAd K d17.at_) ps17 [] (run F n ix__law_same)
  c18 : CalleeB P w K mg base (Wk K) (2 * n) (He.fAd K d18.at_) ps18 [] (run F n ix__law_alike)
  c19 : CalleeB P w K mg base (Wk K) (2 * n) (He.fAd K d19.at_) ps19 [] (run F n ix__law_called)
  c20 : CalleeB P w K mg base (Wk K) (2 * n) (He.fAd K d20.at_) ps20 [] (run F n ix__law_take)
  c21 : CalleeB P w K mg base (Wk K) (2 * n) (He.fAd K d21.at_) ps21 [] (run F n ix__law_otherwise)
  c22 : CalleeB P w K mg base (Wk K) (2 * n) (He.fAd K d22.at_) ps22 [] (run F n ix__law_ref_in)
  c23 : CalleeB P w K mg base (Wk K) (2 * n) (He.fAd K d23.at_) ps23 [] (run F n ix__law_line)
  c24 : CalleeB P w K mg base (Wk K) (2 * n) (He.fAd K d24.at_) ps24 [] (run F n ix__law_linked)
  c25 : CalleeB P w K mg base (Wk K) (2 * n) (He.fAd K d25.at_) ps25 [] (run F n ix__law_held_in)
  c26 : CalleeB P w K mg base (Wk K) (2 * n) (He.fAd K d26.at_) ps26 [] (run F n ix__law_bent)
  c27 : CalleeB P w K mg base (Wk K) (2 * n) (He.fAd K d27.at_) ps27 [] (run F n ix__law_pool)
  c28 : CalleeB P w K mg base (Wk K) (2 * n) (He.fAd K d28.at_) ps28 [] (run F n ix__law_things)
  c29 : CalleeB P w K mg base (Wk K) (2 * n) (He.fAd K d29.at_) ps29 [] (run F n ix_law)
  k6_root : MakerKB P w K mg base (Wk K) (2 * n) 0 1 ps6 ["root"] (kv6_root K) (run F n ix_Book_init)
  k6_root_free : MakerKB P w K mg base (Wk K) (2 * n) 0 1 ps6 ["root", "free"] (kv6_root_free K) (run F n ix_Book_init)
end Lw
end
section
set_option Elab.async false
set_option linter.all false
set_option maxRecDepth 100000
set_option autoImplicit false
set_option maxHeartbeats 0
namespace Lw
open PySem PySem.Spec PyProof.Rows L2 Fw
section
variable {P : Program} {w : World} {K : PySem.W.Frag} {mg : Str → Option Value} {base : Heap} {F n : Nat} {cdv : Value} {A : Around} {outer : List Env} {s : Shared} {H : Hp} {E : XK}
theorem s0 (O : Ok P w K mg base F n) (M : Mg w K mg) (hr : RoomG (2 * n + 1) (A.deeper (envOfC d0.qual (defScope st0) s.heap.objs.size (He.fAd K d0.at_) cdv))) :
    SsJ (cxOf (L2.CX P w) P w K mg base N0 d0.qual (defScope st0) (He.fAd K d0.at_) cdv A outer s H E) (Wk K) (fun cls d _ H => E cls d H) (defBody st0) (b_is_whole (run F n) F) := by
  have J : Js (cxOf (L2.CX P w) P w K mg base N0 d0.qual (defScope st0) (He.fAd K d0.at_) cdv A outer s H E) (Wk K) (fun cls d _ H => E cls d H) := js_of rfl sc0.nd hr
  have hr0 := hr.mono' (Nat.le_succ (2 * n))
  exact (ss_cons (sj_ret (ej_and J.toJc (ej_isin J.toJc (ej_v rfl (.inl rfl)) (pe_bltn rfl M.f_int (by rfl) (v := .ty "int") rfl) (.ty _) kit_int rfl M.f_isinstance) (ej_one (ej_not J.toJc (ej_isin J.toJc (ej_v rfl (.inl rfl)) (pe_bltn rfl M.f_bool (by rfl) (v := .ty "bool") rfl) (.ty _) kit_bool rfl M.f_isinstance)))))
 ss_nil)
theorem s1 (O : Ok P w K mg base F n) (M : Mg w K mg) (hr : RoomG (2 * n + 1) (A.deeper (envOfC d1.qual (defScope st1) s.heap.objs.size (He.fAd K d1.at_) cdv))) :
    SsJ (cxOf (L2.CX P w) P w K mg base N1 d1.qual (defScope st1) (He.fAd K d1.at_) cdv A outer s H E) (Wk K) (fun cls d _ H => E cls d H) (defBody st1) (b_is_from (run F n) F) := by
  have J : Js (cxOf (L2.CX P w) P w K mg base N1 d1.qual (defScope st1) (He.fAd K d1.at_) cdv A outer s H E) (Wk K) (fun cls d _ H => E cls d H) := js_of rfl sc1.nd hr
  have hr0 := hr.mono' (Nat.le_succ (2 * n))
  exact (ss_cons (sj_ret (ej_and J.toJc (ec_call J.toJc O.c0 hr0 dfl_nil M.g_is_whole (aj_cons (ej_v rfl (.inl rfl)) aj_nil)) (ej_one (ej_ch J.toJc (op := .le) (op' := .le) rfl rfl (ej_v rfl (.inl rfl)) (ej_v rfl (.inl rfl)) (ej_v rfl (.inl rfl))))))
 ss_nil)
theorem s2 (O : Ok P w K mg base F n) (M : Mg w K mg) (hr : RoomG (2 * n + 1) (A.deeper (envOfC d2.qual (defScope st2) s.heap.objs.size (He.fAd K d2.at_) cdv))) :
    SsJ (cxOf (L2.CX P w) P w K mg base N2 d2.qual (defScope st2) (He.fAd K d2.at_) cdv A outer s H E) (Wk K) (fun cls d _ H => E cls d H) (defBody st2) (b_is_number (run F n) F) := by
  have J : Js (cxOf (L2.CX P w) P w K mg base N2 d2.qual (defScope st2) (He.fAd K d2.at_) cdv A outer s H E) (Wk K) (fun cls d _ H => E cls d H) := js_of rfl sc2.nd hr
  have hr0 := hr.mono' (Nat.le_succ (2 * n))
  exact (ss_cons (sj_ret (ec_call J.toJc O.c1 hr0 dfl_nil M.g_is_from (aj_cons (ej_v rfl (.inl rfl)) (aj_cons ej_int (aj_cons (ej_gi M.MOST_NUMBER) aj_nil)))))
 ss_nil)
theorem s3 (O : Ok P w K mg base F n) (M : Mg w K mg) (hr : RoomG (2 * n + 1) (A.deeper (envOfC d3.qual (defScope st3) s.heap.objs.size (He.fAd K d3.at_) cdv))) :
    SsJ (cxOf (L2.CX P w) P w K mg base N3 d3.qual (defScope st3) (He.fAd K d3.at_) cdv A outer s H E) (Wk K) (fun cls d _ H => E cls d H) (defBody st3) (b_is_edition (run F n) F) := by
  have J : Js (cxOf (L2.CX P w) P w K mg base N3 d3.qual (defScope st3) (He.fAd K d3.at_) cdv A outer s H E) (Wk K) (fun cls d _ H => E cls d H) := js_of rfl sc3.nd hr
  have hr0 := hr.mono' (Nat.le_succ (2 * n))
  exact (ss_cons (sj_ret (ec_call J.toJc O.c1 hr0 dfl_nil M.g_is_from (aj_cons (ej_v rfl (.inl rfl)) (aj_cons ej_int (aj_cons (ej_gi M.MOST_EDITION) aj_nil)))))
 ss_nil)
theorem s4 (O : Ok P w K mg base F n) (M : Mg w K mg) (hr : RoomG (2 * n + 1) (A.deeper (envOfC d4.qual (defScope st4) s.heap.objs.size (He.fAd K d4.at_) cdv))) :
    SsJ (cxOf (L2.CX P w) P w K mg base N4 d4.qual (defScope st4) (He.fAd K d4.at_) cdv A outer s H E) (Wk K) (fun cls d _ H => E cls d H) (defBody st4) (b_is_reference (run F n) F) := by
  have J : Js (cxOf (L2.CX P w) P w K mg base N4 d4.qual (defScope st4) (He.fAd K d4.at_) cdv A outer s H E) (Wk K) (fun cls d _ H => E cls d H) := js_of rfl sc4.nd hr
  have hr0 := hr.mono' (Nat.le_succ (2 * n))
  exact (ss_cons (sj_if (bj_w (wj_or (bj_not (bj_t J.toJc (ej_isin J.toJc (ej_v rfl (.inl rfl)) (pe_bltn rfl M.f_tuple (by rfl) (v := .ty "tuple") rfl) (.ty _) kit_tuple rfl M.f_isinstance))) (wj_or (bj_cmp J.toJc (op := .ne) rfl (ej_b1 (cl_len J.toJc.hK) (ej_v rfl (.inl rfl)) (by decide +kernel) rfl M.f_len) ej_int) (wj_or1 (bj_not (bj_t J.toJc (ec_call J.toJc O.c5 hr0 dfl_nil M.g_is_kind (aj_cons (ej_v rfl (.inl rfl)) (aj_cons (ej_str (t := [116, 111])) aj_nil))))))))) (ss_cons (sj_ret ej_bl)
 ss_nil) ss_nil)
 (ss_cons (sj_ret (ej_and J.toJc (ec_call J.toJc O.c2 hr0 dfl_nil M.g_is_number (aj_cons (ej_ix J.toJc (ej_v rfl (.inl rfl)) ej_int) aj_nil)) (ej_one (ec_call J.toJc O.c3 hr0 dfl_nil M.g_is_edition (aj_cons (ej_ix J.toJc (ej_v rfl (.inl rfl)) ej_int) aj_nil)))))
 ss_nil))
theorem s5 (O : Ok P w K mg base F n) (M : Mg w K mg) (hr : RoomG (2 * n + 1) (A.deeper (envOfC d5.qual (defScope st5) s.heap.objs.size (He.fAd K d5.at_) cdv))) :
    SsJ (cxOf (L2.CX P w) P w K mg base N5 d5.qual (defScope st5) (He.fAd K d5.at_) cdv A outer s H E) (Wk K) (fun cls d _ H => E cls d H) (defBody st5) (b_is_kind (run F n) F) := by
  have J : Js (cxOf (L2.CX P w) P w K mg base N5 d5.qual (defScope st5) (He.fAd K d5.at_) cdv A outer s H E) (Wk K) (fun cls d _ H => E cls d H) := js_of rfl sc5.nd hr
  have hr0 := hr.mono' (Nat.le_succ (2 * n))
  exact (ss_cons (sj_ret (ej_and J.toJc (ej_isin J.toJc (ej_ix J.toJc (ej_v rfl (.inl rfl)) ej_int) (pe_bltn rfl M.f_str (by rfl) (v := .ty "str") rfl) (.ty _) kit_str rfl M.f_isinstance) (ej_one (ej_cmp J.toJc (op := .eq) rfl (ej_ix J.toJc (ej_v rfl (.inl rfl)) ej_int) (ej_v rfl (.inl rfl))))))
 ss_nil)
theorem s6 (O : Ok P w K mg base F n) (M : Mg w K mg) (hr : RoomG (2 * n + 1) (A.deeper (envOfC d6.qual (defScope st6) s.heap.objs.size (He.fAd K d6.at_) cdv))) :
    SsJ (cxOf (L2.CX P w) P w K mg base N6 d6.qual (defScope st6) (He.fAd K d6.at_) cdv A outer s H E) (Wk K) (fun cls d _ H => E cls d H) (defBody st6) (b_Book_init (run F n) F) := by
  have J : Js (cxOf (L2.CX P w) P w K mg base N6 d6.qual (defScope st6) (He.fAd K d6.at_) cdv A outer s H E) (Wk K) (fun cls d _ H => E cls d H) := js_of rfl sc6.nd hr
  have hr0 := hr.mono' (Nat.le_succ (2 * n))
  exact (ss_cons (sj_setF (cls := 0) (k := 0) J (ej_v rfl (.inl rfl)) (ej_t1 (cl_dict J.toJc.hK J.hc M.emp) (ej_v rfl (.inl rfl)) (by decide +kernel) rfl M.f_dict) M.cls0 M.no0_own_things)
 (ss_cons (sj_setF (cls := 0) (k := 1) J (ej_v rfl (.inl rfl)) (ej_t1 (cl_dict J.toJc.hK J.hc M.emp) (ej_v rfl (.inl rfl)) (by decide +kernel) rfl M.f_dict) M.cls0 M.no0_own_free)
 (ss_cons (sj_setF (cls := 0) (k := 2) J (ej_v rfl (.inl rfl)) (ej_v rfl (.inl rfl)) M.cls0 M.no0_own_root)
 ss_nil)))
theorem s7 (O : Ok P w K mg base F n) (M : Mg w K mg) (hr : RoomG (2 * n + 1) (A.deeper (envOfC d7.qual (defScope st7) s.heap.objs.size (He.fAd K d7.at_) cdv))) :
    SsJ (cxOf (L2.CX P w) P w K mg base N7 d7.qual (defScope st7) (He.fAd K d7.at_) cdv A outer s H E) (Wk K) (fun cls d _ H => E cls d H) (defBody st7) (b_Book_root (run F n) F) := by
  have J : Js (cxOf (L2.CX P w) P w K mg base N7 d7.qual (defScope st7) (He.fAd K d7.at_) cdv A outer s H E) (Wk K) (fun cls d _ H => E cls d H) := js_of rfl sc7.nd hr
  have hr0 := hr.mono' (Nat.le_succ (2 * n))
  exact (ss_cons (sj_ret (ej_fld (cls := 0) (k := 2) (ej_v rfl (.inl rfl)) M.cls0 M.no0_own_root))
 ss_nil)
theorem s8 (O : Ok P w K mg base F n) (M : Mg w K mg) (hr : RoomG (2 * n + 1) (A.deeper (envOfC d8.qual (defScope st8) s.heap.objs.size (He.fAd K d8.at_) cdv))) :
    SsJ (cxOf (L2.CX P w) P w K mg base N8 d8.qual (defScope st8) (He.fAd K d8.at_) cdv A outer s H E) (Wk K) (fun cls d _ H => E cls d H) (defBody st8) (b_Book_edition (run F n) F) := by
  have J : Js (cxOf (L2.CX P w) P w K mg base N8 d8.qual (defScope st8) (He.fAd K d8.at_) cdv A outer s H E) (Wk K) (fun cls d _ H => E cls d H) := js_of rfl sc8.nd hr
  have hr0 := hr.mono' (Nat.le_succ (2 * n))
  exact (ss_cons (sj_if (bj_w (wj_or (bj_not (bj_t J.toJc (ec_call J.toJc O.c2 hr0 dfl_nil M.g_is_number (aj_cons (ej_v rfl (.inl rfl)) aj_nil)))) (wj_or1 (bj_cmp J.toJc (op := .notin) rfl (ej_v rfl (.inl rfl)) (ej_fld (cls := 0) (k := 0) (ej_v rfl (.inl rfl)) M.cls0 M.no0_own_things))))) (ss_cons (sj_ret ej_non)
 ss_nil) ss_nil)
 (ss_cons (sj_ret (ej_ix J.toJc (ej_ix J.toJc (ej_fld (cls := 0) (k := 0) (ej_v rfl (.inl rfl)) M.cls0 M.no0_own_things) (ej_v rfl (.inl rfl))) ej_int))
 ss_nil))
end
end Lw
end
section
set_option Elab.async false
set_option linter.all false
set_option maxRecDepth 100000
set_option autoImplicit false
set_option maxHeartbeats 0
namespace Lw
open PySem PySem.Spec PyProof.Rows L2 Fw
section
variable {P : Program} {w : World} {K : PySem.W.Frag} {mg : Str → Option Value} {base : Heap} {F n : Nat} {cdv : Value} {A : Around} {outer : List Env} {s : Shared} {H : Hp} {E : XK}
theorem s9 (O : Ok P w K mg base F n) (M : Mg w K mg) (hr : RoomG (2 * n + 1) (A.deeper (envOfC d9.qual (defScope st9) s.heap.objs.size (He.fAd K d9.at_) cdv))) :
    SsJ (cxOf (L2.CX P w) P w K mg base N9 d9.qual (defScope st9) (He.fAd K d9.at_) cdv A outer s H E) (Wk K) (fun cls d _ H => E cls d H) (defBody st9) (b_Book_leads (run F n) F) := by
  have J : Js (cxOf (L2.CX P w) P w K mg base N9 d9.qual (defScope st9) (He.fAd K d9.at_) cdv A outer s H E) (Wk K) (fun cls d _ H => E cls d H) := js_of rfl sc9.nd hr
  have hr0 := hr.mono' (Nat.le_succ (2 * n))
  exact (ss_cons (sj_ret (ej_and J.toJc (ec_call J.toJc O.c4 hr0 dfl_nil M.g_is_reference (aj_cons (ej_v rfl (.inl rfl)) aj_nil)) (ej_one (ej_cmp J.toJc (op := .eq) rfl (ec_meth (cls := 0) J.toJc O.c8 hr0 dfl_nil M.cls0 M.m0_edition nm_edition (ej_v rfl (.inl rfl)) (aj_cons (ej_ix J.toJc (ej_v rfl (.inl rfl)) ej_int) aj_nil)) (ej_ix J.toJc (ej_v rfl (.inl rfl)) ej_int)))))
 ss_nil)
theorem s10 (O : Ok P w K mg base F n) (M : Mg w K mg) (hr : RoomG (2 * n + 1) (A.deeper (envOfC d10.qual (defScope st10) s.heap.objs.size (He.fAd K d10.at_) cdv))) :
    SsJ (cxOf (L2.CX P w) P w K mg base N10 d10.qual (defScope st10) (He.fAd K d10.at_) cdv A outer s H E) (Wk K) (fun cls d _ H => E cls d H) (defBody st10) (b_Book_at (run F n) F) := by
  have J : Js (cxOf (L2.CX P w) P w K mg base N10 d10.qual (defScope st10) (He.fAd K d10.at_) cdv A outer s H E) (Wk K) (fun cls d _ H => E cls d H) := js_of rfl sc10.nd hr
  have hr0 := hr.mono' (Nat.le_succ (2 * n))
  exact (ss_cons (sj_if (bj_not (bj_t J.toJc (ec_meth (cls := 0) J.toJc O.c9 hr0 dfl_nil M.cls0 M.m0_leads nm_leads (ej_v rfl (.inl rfl)) (aj_cons (ej_v rfl (.inl rfl)) aj_nil)))) (ss_cons (sj_ret ej_non)
 ss_nil) ss_nil)
 (ss_cons (sj_ret (ej_ix J.toJc (ej_ix J.toJc (ej_fld (cls := 0) (k := 0) (ej_v rfl (.inl rfl)) M.cls0 M.no0_own_things) (ej_ix J.toJc (ej_v rfl (.inl rfl)) ej_int)) ej_int))
 ss_nil))
theorem s11 (O : Ok P w K mg base F n) (M : Mg w K mg) (hr : RoomG (2 * n + 1) (A.deeper (envOfC d11.qual (defScope st11) s.heap.objs.size (He.fAd K d11.at_) cdv))) :
    SsJ (cxOf (L2.CX P w) P w K mg base N11 d11.qual (defScope st11) (He.fAd K d11.at_) cdv A outer s H E) (Wk K) (fun cls d _ H => E cls d H) (defBody st11) (b_Beside_init (run F n) F) := by
  have J : Js (cxOf (L2.CX P w) P w K mg base N11 d11.qual (defScope st11) (He.fAd K d11.at_) cdv A outer s H E) (Wk K) (fun cls d _ H => E cls d H) := js_of rfl sc11.nd hr
  have hr0 := hr.mono' (Nat.le_succ (2 * n))
  exact (ss_cons (sj_setF (cls := 1) (k := 3) J (ej_v rfl (.inl rfl)) (ej_tup (aj_cons (ej_v rfl (.inl rfl)) (aj_cons (ej_v rfl (.inl rfl)) aj_nil))) M.cls1 M.no1_own_books)
 (ss_cons (sj_setF (cls := 1) (k := 4) J (ej_v rfl (.inl rfl)) ej_newD M.cls1 M.no1_led_there)
 (ss_cons (sj_setF (cls := 1) (k := 5) J (ej_v rfl (.inl rfl)) ej_newD M.cls1 M.no1_led_back)
 (ss_cons (sj_setF (cls := 1) (k := 6) J (ej_v rfl (.inl rfl)) (ej_newL aj_nil) M.cls1 M.no1_waiting)
 ss_nil))))
theorem s12 (O : Ok P w K mg base F n) (M : Mg w K mg) (hr : RoomG (2 * n + 1) (A.deeper (envOfC d12.qual (defScope st12) s.heap.objs.size (He.fAd K d12.at_) cdv))) :
    SsJ (cxOf (L2.CX P w) P w K mg base N12 d12.qual (defScope st12) (He.fAd K d12.at_) cdv A outer s H E) (Wk K) (fun cls d _ H => E cls d H) (defBody st12) (b_Beside_is_met (run F n) F) := by
  have J : Js (cxOf (L2.CX P w) P w K mg base N12 d12.qual (defScope st12) (He.fAd K d12.at_) cdv A outer s H E) (Wk K) (fun cls d _ H => E cls d H) := js_of rfl sc12.nd hr
  have hr0 := hr.mono' (Nat.le_succ (2 * n))
  exact (ss_cons (sj_asg J (ej_fld (cls := 1) (k := 3) (ej_v rfl (.inl rfl)) M.cls1 M.no1_own_books) (gj_tp J.hc (gsj_cons (gj_nm J.hN rfl (.inl rfl) (.inl rfl)) (gsj_cons (gj_nm J.hN rfl (.inl rfl) (.inl rfl)) gsj_nil))))
 (ss_cons (sj_if (bj_w (wj_or (bj_not (bj_t J.toJc (ec_call J.toJc O.c4 hr0 dfl_nil M.g_is_reference (aj_cons (ej_v rfl (.inl rfl)) aj_nil)))) (wj_or1 (bj_not (bj_t J.toJc (ec_meth (cls := 0) J.toJc O.c9 hr0 dfl_nil M.cls0 M.m0_leads nm_leads (ej_v rfl (.inl rfl)) (aj_cons (ej_v rfl (.inl rfl)) aj_nil))))))) (ss_cons (sj_ret (ej_or J.toJc (ej_cmp J.toJc (op := .is_) rfl (ej_v rfl (.inl rfl)) ej_non) (ej_one (ej_and J.toJc (ec_call J.toJc O.c4 hr0 dfl_nil M.g_is_reference (aj_cons (ej_v rfl (.inl rfl)) aj_nil)) (ej_one (ej_not J.toJc (ec_meth (cls := 0) J.toJc O.c9 hr0 dfl_nil M.cls0 M.m0_leads nm_leads (ej_v rfl (.inl rfl)) (aj_cons (ej_v rfl (.inl rfl)) aj_nil))))))))
 ss_nil) ss_nil)
 (ss_cons (sj_if (bj_w (wj_or (bj_not (bj_t J.toJc (ec_call J.toJc O.c4 hr0 dfl_nil M.g_is_reference (aj_cons (ej_v rfl (.inl rfl)) aj_nil)))) (wj_or1 (bj_not (bj_t J.toJc (ec_meth (cls := 0) J.toJc O.c9 hr0 dfl_nil M.cls0 M.m0_leads nm_leads (ej_v rfl (.inl rfl)) (aj_cons (ej_v rfl (.inl rfl)) aj_nil))))))) (ss_cons (sj_ret ej_bl)
 ss_nil) ss_nil)
 (ss_cons (sj_if (bj_w (wj_and (bj_cmp J.toJc (op := .notin) rfl (ej_ix J.toJc (ej_v rfl (.inl rfl)) ej_int) (ej_fld (cls := 1) (k := 4) (ej_v rfl (.inl rfl)) M.cls1 M.no1_led_there)) (wj_and1 (bj_cmp J.toJc (op := .notin) rfl (ej_ix J.toJc (ej_v rfl (.inl rfl)) ej_int) (ej_fld (cls := 1) (k := 5) (ej_v rfl (.inl rfl)) M.cls1 M.no1_led_back))))) (ss_cons (sj_setI J (ej_fld (cls := 1) (k := 4) (ej_v rfl (.inl rfl)) M.cls1 M.no1_led_there) (ej_ix J.toJc (ej_v rfl (.inl rfl)) ej_int) (ej_ix J.toJc (ej_v rfl (.inl rfl)) ej_int))
 (ss_cons (sj_setI J (ej_fld (cls := 1) (k := 5) (ej_v rfl (.inl rfl)) M.cls1 M.no1_led_back) (ej_ix J.toJc (ej_v rfl (.inl rfl)) ej_int) (ej_ix J.toJc (ej_v rfl (.inl rfl)) ej_int))
 (ss_cons (sj_ex (ej_app (ej_fld (cls := 1) (k := 6) (ej_v rfl (.inl rfl)) M.cls1 M.no1_waiting) (ej_tup (aj_cons (ec_meth (cls := 0) J.toJc O.c10 hr0 dfl_nil M.cls0 M.m0_at nm_at (ej_v rfl (.inl rfl)) (aj_cons (ej_v rfl (.inl rfl)) aj_nil)) (aj_cons (ec_meth (cls := 0) J.toJc O.c10 hr0 dfl_nil M.cls0 M.m0_at nm_at (ej_v rfl (.inl rfl)) (aj_cons (ej_v rfl (.inl rfl)) aj_nil)) aj_nil)))))
 ss_nil))) ss_nil)
 (ss_cons (sj_ret (ej_cmp J.toJc (op := .eq) rfl (ej_dget1 J.toJc (ej_fld (cls := 1) (k := 4) (ej_v rfl (.inl rfl)) M.cls1 M.no1_led_there) (ej_ix J.toJc (ej_v rfl (.inl rfl)) ej_int)) (ej_ix J.toJc (ej_v rfl (.inl rfl)) ej_int)))
 ss_nil)))))
theorem s13 (O : Ok P w K mg base F n) (M : Mg w K mg) (hr : RoomG (2 * n + 1) (A.deeper (envOfC d13.qual (defScope st13) s.heap.objs.size (He.fAd K d13.at_) cdv))) :
    SsJ (cxOf (L2.CX P w) P w K mg base N13 d13.qual (defScope st13) (He.fAd K d13.at_) cdv A outer s H E) (Wk K) (fun cls d _ H => E cls d H) (defBody st13) (b_Beside_are_alike (run F n) F) := by
  have J : Js (cxOf (L2.CX P w) P w K mg base N13 d13.qual (defScope st13) (He.fAd K d13.at_) cdv A outer s H E) (Wk K) (fun cls d _ H => E cls d H) := js_of rfl sc13.nd hr
  have hr0 := hr.mono' (Nat.le_succ (2 * n))
  exact (ss_cons (sj_if (bj_w (wj_or (bj_cmp J.toJc (op := .is_) rfl (ej_v rfl (.inl rfl)) ej_non) (wj_or1 (bj_t J.toJc (ec_call J.toJc O.c4 hr0 dfl_nil M.g_is_reference (aj_cons (ej_v rfl (.inl rfl)) aj_nil)))))) (ss_cons (sj_ret (ec_meth (cls := 1) J.toJc O.c12 hr0 dfl_nil M.cls1 M.m1_is_met nm_is_met (ej_v rfl (.inr (.inl rfl))) (aj_cons (ej_v rfl (.inl rfl)) (aj_cons (ej_v rfl (.inl rfl)) aj_nil))))
 ss_nil) ss_nil)
 (ss_cons (sj_if (bj_w (wj_or (bj_not (bj_t J.toJc (ej_isin J.toJc (ej_v rfl (.inl rfl)) (pe_bltn rfl M.f_tuple (by rfl) (v := .ty "tuple") rfl) (.ty _) kit_tuple rfl M.f_isinstance))) (wj_or1 (bj_not (bj_t J.toJc (ej_isin J.toJc (ej_v rfl (.inl rfl)) (pe_bltn rfl M.f_tuple (by rfl) (v := .ty "tuple") rfl) (.ty _) kit_tuple rfl M.f_isinstance)))))) (ss_cons (sj_ret (ej_cmp J.toJc (op := .eq) rfl (ej_v rfl (.inl rfl)) (ej_v rfl (.inl rfl))))
 ss_nil) ss_nil)
 (ss_cons (sj_if (bj_w (wj_or (bj_cmp J.toJc (op := .ne) rfl (ej_ix J.toJc (ej_v rfl (.inl rfl)) ej_int) (ej_ix J.toJc (ej_v rfl (.inl rfl)) ej_int)) (wj_or (bj_cmp J.toJc (op := .ne) rfl (ej_b1 (cl_len J.toJc.hK) (ej_v rfl (.inl rfl)) (by decide +kernel) rfl M.f_len) (ej_b1 (cl_len J.toJc.hK) (ej_v rfl (.inl rfl)) (by decide +kernel) rfl M.f_len)) (wj_or1 (bj_cmp J.toJc (op := .eq) rfl (ej_ix J.toJc (ej_v rfl (.inl rfl)) ej_int) (ej_str (t := [110, 97, 109, 101]))))))) (ss_cons (sj_ret (ej_cmp J.toJc (op := .eq) rfl (ej_v rfl (.inl rfl)) (ej_v rfl (.inl rfl))))
 ss_nil) ss_nil)
 (ss_cons (sj_if (bj_cmp J.toJc (op := .eq) rfl (ej_ix J.toJc (ej_v rfl (.inl rfl)) ej_int) (ej_str (t := [114, 111, 119]))) (ss_cons (sj_ret (ec_meth (cls := 1) J.toJc O.c14 hr0 dfl_nil M.cls1 M.m1_are_rows_alike nm_are_rows_alike (ej_v rfl (.inr (.inl rfl))) (aj_cons (ej_ix J.toJc (ej_v rfl (.inl rfl)) ej_int) (aj_cons (ej_ix J.toJc (ej_v rfl (.inl rfl)) ej_int) aj_nil))))
 ss_nil) ss_nil)
 (ss_cons (sj_if (bj_w (wj_or (bj_cmp J.toJc (op := .ne) rfl (ej_lc J (ij_e J.toJc (ej_ix J.toJc (ej_v rfl (.inl rfl)) ej_int)) (own := [("word", 3), ("part", 4)]) (blkOk_by (N := N13) (sc := defScope st13) (by decide +kernel)) (by decide) (fun s1 H1 C1 cl1 fp1 => (gj_tp (jc_blk J s1 H1 _ _ fp1).hc (gsj_cons (gj_nm (jc_blk J s1 H1 _ _ fp1).hN rfl (.inl rfl) (.inr rfl)) (gsj_cons (gj_nm (jc_blk J s1 H1 _ _ fp1).hN rfl (.inl rfl) (.inr rfl)) gsj_nil)))) (fun s1 H1 C1 cl1 fp1 => cj_nil) (fun s1 H1 C1 cl1 fp1 => (ej_v rfl (.inl rfl)))) (ej_lc J (ij_e J.toJc (ej_ix J.toJc (ej_v rfl (.inl rfl)) ej_int)) (own := [("word", 3), ("part", 4)]) (blkOk_by (N := N13) (sc := defScope st13) (by decide +kernel)) (by decide) (fun s1 H1 C1 cl1 fp1 => (gj_tp (jc_blk J s1 H1 _ _ fp1).hc (gsj_cons (gj_nm (jc_blk J s1 H1 _ _ fp1).hN rfl (.inl rfl) (.inr rfl)) (gsj_cons (gj_nm (jc_blk J s1 H1 _ _ fp1).hN rfl (.inl rfl) (.inr rfl)) gsj_nil)))) (fun s1 H1 C1 cl1 fp1 => cj_nil) (fun s1 H1 C1 cl1 fp1 => (ej_v rfl (.inl rfl))))) (wj_or1 (bj_cmp J.toJc (op := .ne) rfl (ej_sl J.toJc (ej_v rfl (.inl rfl)) (oj_s ej_int) oj_n) (ej_sl J.toJc (ej_v rfl (.inl rfl)) (oj_s ej_int) oj_n))))) (ss_cons (sj_ret ej_bl)
 ss_nil) ss_nil)
 (ss_cons (sj_ret (ej_b1 (cl_all J.toJc.hK J.hc) (ej_lc J (ij_zip J.toJc (ej_ix J.toJc (ej_v rfl (.inl rfl)) ej_int) (ej_ix J.toJc (ej_v rfl (.inl rfl)) ej_int) rfl M.f_zip) (own := [("word", 3), ("part", 4), ("key", 5), ("more", 6)]) (blkOk_by (N := N13) (sc := defScope st13) (by decide +kernel)) (by decide) (fun s1 H1 C1 cl1 fp1 => (gj_tp (jc_blk J s1 H1 _ _ fp1).hc (gsj_cons (gj_tp (jc_blk J s1 H1 _ _ fp1).hc (gsj_cons (gj_nm (jc_blk J s1 H1 _ _ fp1).hN rfl (.inl rfl) (.inr rfl)) (gsj_cons (gj_nm (jc_blk J s1 H1 _ _ fp1).hN rfl (.inl rfl) (.inr rfl)) gsj_nil))) (gsj_cons (gj_tp (jc_blk J s1 H1 _ _ fp1).hc (gsj_cons (gj_nm (jc_blk J s1 H1 _ _ fp1).hN rfl (.inl rfl) (.inr rfl)) (gsj_cons (gj_nm (jc_blk J s1 H1 _ _ fp1).hN rfl (.inl rfl) (.inr rfl)) gsj_nil))) gsj_nil)))) (fun s1 H1 C1 cl1 fp1 => cj_nil) (fun s1 H1 C1 cl1 fp1 => (ec_meth (cls := 1) (jc_blk J s1 H1 _ _ fp1).toJc O.c13 hr0 dfl_nil M.cls1 M.m1_are_alike nm_are_alike (ej_v rfl (.inr (.inl rfl))) (aj_cons (ej_v rfl (.inl rfl)) (aj_cons (ej_v rfl (.inl rfl)) aj_nil))))) (by decide +kernel) rfl M.f_all))
 ss_nil))))))
end
end Lw
end
section
set_option Elab.async false
set_option linter.all false
set_option maxRecDepth 100000
set_option autoImplicit false
set_option maxHeartbeats 0
namespace Lw
open PySem PySem.Spec PyProof.Rows L2 Fw
section
variable {P : Program} {w : World} {K : PySem.W.Frag} {mg : Str → Option Value} {base : Heap} {F n : Nat} {cdv : Value} {A : Around} {outer : List Env} {s : Shared} {H : Hp} {E : XK}
theorem s14 (O : Ok P w K mg base F n) (M : Mg w K mg) (hr : RoomG (2 * n + 1) (A.deeper (envOfC d14.qual (defScope st14) s.heap.objs.size (He.fAd K d14.at_) cdv))) :
    SsJ (cxOf (L2.CX P w) P w K mg base N14 d14.qual (defScope st14) (He.fAd K d14.at_) cdv A outer s H E) (Wk K) (fun cls d _ H => E cls d H) (defBody st14) (b_Beside_are_rows_alike (run F n) F) := by
  have J : Js (cxOf (L2.CX P w) P w K mg base N14 d14.qual (defScope st14) (He.fAd K d14.at_) cdv A outer s H E) (Wk K) (fun cls d _ H => E cls d H) := js_of rfl sc14.nd hr
  have hr0 := hr.mono' (Nat.le_succ (2 * n))
  exact (ss_cons (sj_if (bj_cmp J.toJc (op := .ne) rfl (ej_b1 (cl_len J.toJc.hK) (ej_v rfl (.inl rfl)) (by decide +kernel) rfl M.f_len) (ej_b1 (cl_len J.toJc.hK) (ej_v rfl (.inl rfl)) (by decide +kernel) rfl M.f_len)) (ss_cons (sj_ret ej_bl)
 ss_nil) ss_nil)
 (ss_cons (sj_ret (ej_b1 (cl_all J.toJc.hK J.hc) (ej_lc J (ij_zip J.toJc (ej_v rfl (.inl rfl)) (ej_v rfl (.inl rfl)) rfl M.f_zip) (own := [("part", 3), ("more", 4)]) (blkOk_by (N := N14) (sc := defScope st14) (by decide +kernel)) (by decide) (fun s1 H1 C1 cl1 fp1 => (gj_tp (jc_blk J s1 H1 _ _ fp1).hc (gsj_cons (gj_nm (jc_blk J s1 H1 _ _ fp1).hN rfl (.inl rfl) (.inr rfl)) (gsj_cons (gj_nm (jc_blk J s1 H1 _ _ fp1).hN rfl (.inl rfl) (.inr rfl)) gsj_nil)))) (fun s1 H1 C1 cl1 fp1 => cj_nil) (fun s1 H1 C1 cl1 fp1 => (ec_meth (cls := 1) (jc_blk J s1 H1 _ _ fp1).toJc O.c13 hr0 dfl_nil M.cls1 M.m1_are_alike nm_are_alike (ej_v rfl (.inr (.inl rfl))) (aj_cons (ej_v rfl (.inl rfl)) (aj_cons (ej_v rfl (.inl rfl)) aj_nil))))) (by decide +kernel) rfl M.f_all))
 ss_nil))
theorem s15 (O : Ok P w K mg base F n) (M : Mg w K mg) (hr : RoomG (2 * n + 1) (A.deeper (envOfC d15.qual (defScope st15) s.heap.objs.size (He.fAd K d15.at_) cdv))) :
    SsJ (cxOf (L2.CX P w) P w K mg base N15 d15.qual (defScope st15) (He.fAd K d15.at_) cdv A outer s H E) (Wk K) (fun cls d _ H => E cls d H) (defBody st15) (b_read_alike (run F n) F) := by
  have J : Js (cxOf (L2.CX P w) P w K mg base N15 d15.qual (defScope st15) (He.fAd K d15.at_) cdv A outer s H E) (Wk K) (fun cls d _ H => E cls d H) := js_of rfl sc15.nd hr
  have hr0 := hr.mono' (Nat.le_succ (2 * n))
  exact (ss_cons (sj_set J rfl (.inl rfl) (ec_make J.toJc O.c11 hr dfl11 M.g_Beside (aj_cons (ej_v rfl (.inl rfl)) (aj_cons (ej_v rfl (.inl rfl)) aj_nil))))
 (ss_cons (sj_if (bj_not (bj_t J.toJc (ec_meth (cls := 1) J.toJc O.c12 hr0 dfl_nil M.cls1 M.m1_is_met nm_is_met (ej_v rfl (.inl rfl)) (aj_cons (ec_meth0 (cls := 0) J.toJc O.c7 hr0 dfl_nil M.cls0 M.m0_root nm_root (ej_v rfl (.inl rfl))) (aj_cons (ec_meth0 (cls := 0) J.toJc O.c7 hr0 dfl_nil M.cls0 M.m0_root nm_root (ej_v rfl (.inl rfl))) aj_nil))))) (ss_cons (sj_ret ej_bl)
 ss_nil) ss_nil)
 (ss_cons (sj_set J rfl (.inl rfl) ej_int)
 (ss_cons (sj_wh J (bj_cmp J.toJc (op := .lt) rfl (ej_v rfl (.inl rfl)) (ej_b1 (cl_len J.toJc.hK) (ej_fld (cls := 1) (k := 6) (ej_v rfl (.inl rfl)) M.cls1 M.no1_waiting) (by decide +kernel) rfl M.f_len)) (ss_cons (sj_asg J (ej_ix J.toJc (ej_fld (cls := 1) (k := 6) (ej_v rfl (.inl rfl)) M.cls1 M.no1_waiting) (ej_v rfl (.inl rfl))) (gj_tp J.hc (gsj_cons (gj_nm J.hN rfl (.inl rfl) (.inl rfl)) (gsj_cons (gj_nm J.hN rfl (.inl rfl) (.inl rfl)) gsj_nil))))
 (ss_cons (sj_if (bj_not (bj_t J.toJc (ec_meth (cls := 1) J.toJc O.c13 hr0 dfl_nil M.cls1 M.m1_are_alike nm_are_alike (ej_v rfl (.inl rfl)) (aj_cons (ej_v rfl (.inl rfl)) (aj_cons (ej_v rfl (.inl rfl)) aj_nil))))) (ss_cons (sj_ret ej_bl)
 ss_nil) ss_nil)
 (ss_cons (sj_aug J (op := .add) rfl rfl (.inl rfl) ej_int)
 ss_nil))))
 (ss_cons (sj_ret ej_bl)
 ss_nil)))))
theorem s16 (O : Ok P w K mg base F n) (M : Mg w K mg) (hr : RoomG (2 * n + 1) (A.deeper (envOfC d16.qual (defScope st16) s.heap.objs.size (He.fAd K d16.at_) cdv))) :
    SsJ (cxOf (L2.CX P w) P w K mg base N16 d16.qual (defScope st16) (He.fAd K d16.at_) cdv A outer s H E) (Wk K) (fun cls d _ H => E cls d H) (defBody st16) (b__law_leads (run F n) F) := by
  have J : Js (cxOf (L2.CX P w) P w K mg base N16 d16.qual (defScope st16) (He.fAd K d16.at_) cdv A outer s H E) (Wk K) (fun cls d _ H => E cls d H) := js_of rfl sc16.nd hr
  have hr0 := hr.mono' (Nat.le_succ (2 * n))
  exact (ss_cons (sj_ret (ej_and J.toJc (ej_cmp J.toJc (op := .isnt) rfl (ej_v rfl (.inl rfl)) ej_non) (ej_and J.toJc (ej_cmp J.toJc (op := .in_) rfl (ej_ix J.toJc (ej_v rfl (.inl rfl)) ej_int) (ej_v rfl (.inl rfl))) (ej_one (ej_cmp J.toJc (op := .eq) rfl (ej_ix J.toJc (ej_ix J.toJc (ej_v rfl (.inl rfl)) (ej_ix J.toJc (ej_v rfl (.inl rfl)) ej_int)) ej_int) (ej_ix J.toJc (ej_v rfl (.inl rfl)) ej_int))))))
 ss_nil)
theorem s17 (O : Ok P w K mg base F n) (M : Mg w K mg) (hr : RoomG (2 * n + 1) (A.deeper (envOfC d17.qual (defScope st17) s.heap.objs.size (He.fAd K d17.at_) cdv))) :
    SsJ (cxOf (L2.CX P w) P w K mg base N17 d17.qual (defScope st17) (He.fAd K d17.at_) cdv A outer s H E) (Wk K) (fun cls d _ H => E cls d H) (defBody st17) (b__law_same (run F n) F) := by
  have J : Js (cxOf (L2.CX P w) P w K mg base N17 d17.qual (defScope st17) (He.fAd K d17.at_) cdv A outer s H E) (Wk K) (fun cls d _ H => E cls d H) := js_of rfl sc17.nd hr
  have hr0 := hr.mono' (Nat.le_succ (2 * n))
  exact (ss_cons (sj_asg J (ej_v rfl (.inl rfl)) (gj_tp J.hc (gsj_cons (gj_nm J.hN rfl (.inl rfl) (.inl rfl)) (gsj_cons (gj_nm J.hN rfl (.inl rfl) (.inl rfl)) gsj_nil))))
 (ss_cons (sj_if (bj_w (wj_or (bj_cmp J.toJc (op := .is_) rfl (ej_v rfl (.inl rfl)) ej_non) (wj_or1 (bj_w (wj_and (bj_t J.toJc (ej_isin J.toJc (ej_v rfl (.inl rfl)) (pe_bltn rfl M.f_tuple (by rfl) (v := .ty "tuple") rfl) (.ty _) kit_tuple rfl M.f_isinstance)) (wj_and1 (bj_cmp J.toJc (op := .eq) rfl (ej_ix J.toJc (ej_v rfl (.inl rfl)) ej_int) (ej_str (t := [116, 111]))))))))) (ss_cons (sj_if (bj_not (bj_t J.toJc (ec_call J.toJc O.c16 hr0 dfl_nil M.g__law_leads (aj_cons (ej_v rfl (.inl rfl)) (aj_cons (ej_v rfl (.inl rfl)) aj_nil))))) (ss_cons (sj_if (bj_cmp J.toJc (op := .is_) rfl (ej_v rfl (.inl rfl)) ej_non) (ss_cons (sj_ret ej_bl)
 ss_nil) ss_nil)
 (ss_cons (sj_ret (ej_and J.toJc (ej_isin J.toJc (ej_v rfl (.inl rfl)) (pe_bltn rfl M.f_tuple (by rfl) (v := .ty "tuple") rfl) (.ty _) kit_tuple rfl M.f_isinstance) (ej_and J.toJc (ej_cmp J.toJc (op := .eq) rfl (ej_ix J.toJc (ej_v rfl (.inl rfl)) ej_int) (ej_str (t := [116, 111]))) (ej_one (ej_not J.toJc (ec_call J.toJc O.c16 hr0 dfl_nil M.g__law_leads (aj_cons (ej_v rfl (.inl rfl)) (aj_cons (ej_v rfl (.inl rfl)) aj_nil))))))))
 ss_nil)) ss_nil)
 (ss_cons (sj_if (bj_w (wj_or (bj_not (bj_t J.toJc (ej_isin J.toJc (ej_v rfl (.inl rfl)) (pe_bltn rfl M.f_tuple (by rfl) (v := .ty "tuple") rfl) (.ty _) kit_tuple rfl M.f_isinstance))) (wj_or (bj_cmp J.toJc (op := .ne) rfl (ej_ix J.toJc (ej_v rfl (.inl rfl)) ej_int) (ej_str (t := [116, 111]))) (wj_or1 (bj_not (bj_t J.toJc (ec_call J.toJc O.c16 hr0 dfl_nil M.g__law_leads (aj_cons (ej_v rfl (.inl rfl)) (aj_cons (ej_v rfl (.inl rfl)) aj_nil))))))))) (ss_cons (sj_ret ej_bl)
 ss_nil) ss_nil)
 (ss_cons (sj_ex (ej_app (ej_v rfl (.inl rfl)) (ej_tup (aj_cons (ej_ix J.toJc (ej_v rfl (.inl rfl)) ej_int) (aj_cons (ej_ix J.toJc (ej_v rfl (.inl rfl)) ej_int) aj_nil)))))
 (ss_cons (sj_ret ej_bl)
 ss_nil)))) ss_nil)
 (ss_cons (sj_if (bj_w (wj_or (bj_not (bj_t J.toJc (ej_isin J.toJc (ej_v rfl (.inl rfl)) (pe_bltn rfl M.f_tuple (by rfl) (v := .ty "tuple") rfl) (.ty _) kit_tuple rfl M.f_isinstance))) (wj_or (bj_not (bj_t J.toJc (ej_isin J.toJc (ej_v rfl (.inl rfl)) (pe_bltn rfl M.f_tuple (by rfl) (v := .ty "tuple") rfl) (.ty _) kit_tuple rfl M.f_isinstance))) (wj_or (bj_cmp J.toJc (op := .eq) rfl (ej_ix J.toJc (ej_v rfl (.inl rfl)) ej_int) (ej_str (t := [110, 97, 109, 101]))) (wj_or1 (bj_cmp J.toJc (op := .ne) rfl (ej_ix J.toJc (ej_v rfl (.inl rfl)) ej_int) (ej_ix J.toJc (ej_v rfl (.inl rfl)) ej_int))))))) (ss_cons (sj_ret (ej_cmp J.toJc (op := .eq) rfl (ej_b1 (cl_repr J.toJc.hK J.toJc.hu2 J.toJc.gd) (ej_v rfl (.inl rfl)) (by decide +kernel) rfl M.f_repr) (ej_b1 (cl_repr J.toJc.hK J.toJc.hu2 J.toJc.gd) (ej_v rfl (.inl rfl)) (by decide +kernel) rfl M.f_repr)))
 ss_nil) ss_nil)
 (ss_cons (sj_if (bj_w (wj_or (bj_cmp J.toJc (op := .ne) rfl (ej_b1 (cl_len J.toJc.hK) (ej_ix J.toJc (ej_v rfl (.inl rfl)) ej_int) (by decide +kernel) rfl M.f_len) (ej_b1 (cl_len J.toJc.hK) (ej_ix J.toJc (ej_v rfl (.inl rfl)) ej_int) (by decide +kernel) rfl M.f_len)) (wj_or1 (bj_cmp J.toJc (op := .ne) rfl (ej_b1 (cl_repr J.toJc.hK J.toJc.hu2 J.toJc.gd) (ej_sl J.toJc (ej_v rfl (.inl rfl)) (oj_s ej_int) oj_n) (by decide +kernel) rfl M.f_repr) (ej_b1 (cl_repr J.toJc.hK J.toJc.hu2 J.toJc.gd) (ej_sl J.toJc (ej_v rfl (.inl rfl)) (oj_s ej_int) oj_n) (by decide +kernel) rfl M.f_repr))))) (ss_cons (sj_ret ej_bl)
 ss_nil) ss_nil)
 (ss_cons (sj_for J (ij_zip J.toJc (ej_ix J.toJc (ej_v rfl (.inl rfl)) ej_int) (ej_ix J.toJc (ej_v rfl (.inl rfl)) ej_int) rfl M.f_zip) (gj_tp J.hc (gsj_cons (gj_nm J.hN rfl (.inl rfl) (.inl rfl)) (gsj_cons (gj_nm J.hN rfl (.inl rfl) (.inl rfl)) gsj_nil))) (ss_cons (sj_if (bj_cmp J.toJc (op := .ne) rfl (ej_ix J.toJc (ej_v rfl (.inl rfl)) ej_int) (ej_str (t := [114, 111, 119]))) (ss_cons (sj_if (bj_cmp J.toJc (op := .ne) rfl (ej_ix J.toJc (ej_v rfl (.inl rfl)) ej_int) (ej_ix J.toJc (ej_v rfl (.inl rfl)) ej_int)) (ss_cons (sj_ret ej_bl)
 ss_nil) ss_nil)
 (ss_cons (sj_par2 J rfl rfl (aj_cons (ej_ix J.toJc (ej_v rfl (.inl rfl)) ej_int) (aj_cons (ej_ix J.toJc (ej_v rfl (.inl rfl)) ej_int) aj_nil)))
 ss_nil)) ss_nil)
 (ss_cons (sj_if (bj_not (bj_t J.toJc (ec_call J.toJc O.c17 hr0 dfl_nil M.g__law_same (aj_cons (ej_v rfl (.inl rfl)) (aj_cons (ej_v rfl (.inl rfl)) (aj_cons (ej_v rfl (.inl rfl)) (aj_cons (ej_v rfl (.inl rfl)) aj_nil))))))) (ss_cons (sj_ret ej_bl)
 ss_nil) ss_nil)
 ss_nil)))
 (ss_cons (sj_ret ej_bl)
 ss_nil))))))
end
end Lw
end
section
set_option Elab.async false
set_option linter.all false
set_option maxRecDepth 100000
set_option autoImplicit false
set_option maxHeartbeats 0
namespace Lw
open PySem PySem.Spec PyProof.Rows L2 Fw
section
variable {P : Program} {w : World} {K : PySem.W.Frag} {mg : Str → Option Value} {base : Heap} {F n : Nat} {cdv : Value} {A : Around} {outer : List Env} {s : Shared} {H : Hp} {E : XK}
theorem s18 (O : Ok P w K mg base F n) (M : Mg w K mg) (hr : RoomG (2 * n + 1) (A.deeper (envOfC d18.qual (defScope st18) s.heap.objs.size (He.fAd K d18.at_) cdv))) :
    SsJ (cxOf (L2.CX P w) P w K mg base N18 d18.qual (defScope st18) (He.fAd K d18.at_) cdv A outer s H E) (Wk K) (fun cls d _ H => E cls d H) (defBody st18) (b__law_alike (run F n) F) := by
  have J : Js (cxOf (L2.CX P w) P w K mg base N18 d18.qual (defScope st18) (He.fAd K d18.at_) cdv A outer s H E) (Wk K) (fun cls d _ H => E cls d H) := js_of rfl sc18.nd hr
  have hr0 := hr.mono' (Nat.le_succ (2 * n))
  exact (ss_cons (sj_set J rfl (.inl rfl) (ej_newL aj_nil))
 (ss_cons (sj_if (bj_not (bj_t J.toJc (ec_call J.toJc O.c17 hr0 dfl_nil M.g__law_same (aj_cons (ej_v rfl (.inl rfl)) (aj_cons (ej_v rfl (.inl rfl)) (aj_cons (ej_tup (aj_cons (ej_v rfl (.inl rfl)) (aj_cons (ej_v rfl (.inl rfl)) aj_nil))) (aj_cons (ej_v rfl (.inl rfl)) aj_nil))))))) (ss_cons (sj_ret ej_bl)
 ss_nil) ss_nil)
 (ss_cons (sj_set J rfl (.inl rfl) ej_int)
 (ss_cons (sj_wh J (bj_cmp J.toJc (op := .lt) rfl (ej_v rfl (.inl rfl)) (ej_b1 (cl_len J.toJc.hK) (ej_v rfl (.inl rfl)) (by decide +kernel) rfl M.f_len)) (ss_cons (sj_asg J (ej_ix J.toJc (ej_v rfl (.inl rfl)) (ej_v rfl (.inl rfl))) (gj_tp J.hc (gsj_cons (gj_nm J.hN rfl (.inl rfl) (.inl rfl)) (gsj_cons (gj_nm J.hN rfl (.inl rfl) (.inl rfl)) gsj_nil))))
 (ss_cons (sj_for J (ij_e J.toJc (ej_sl J.toJc (ej_v rfl (.inl rfl)) oj_n (oj_s (ej_v rfl (.inl rfl))))) (gj_tp J.hc (gsj_cons (gj_nm J.hN rfl (.inl rfl) (.inl rfl)) (gsj_cons (gj_nm J.hN rfl (.inl rfl) (.inl rfl)) gsj_nil))) (ss_cons (sj_if (bj_cmp J.toJc (op := .ne) rfl (ej_cmp J.toJc (op := .eq) rfl (ej_v rfl (.inl rfl)) (ej_v rfl (.inl rfl))) (ej_cmp J.toJc (op := .eq) rfl (ej_v rfl (.inl rfl)) (ej_v rfl (.inl rfl)))) (ss_cons (sj_ret ej_bl)
 ss_nil) ss_nil)
 ss_nil))
 (ss_cons (sj_if (bj_notInD J.toJc (ej_tup (aj_cons (ej_v rfl (.inl rfl)) (aj_cons (ej_v rfl (.inl rfl)) aj_nil))) (ej_sl J.toJc (ej_v rfl (.inl rfl)) oj_n (oj_s (ej_v rfl (.inl rfl))))) (ss_cons (sj_if (bj_not (bj_t J.toJc (ec_call J.toJc O.c17 hr0 dfl_nil M.g__law_same (aj_cons (ej_ix J.toJc (ej_ix J.toJc (ej_v rfl (.inl rfl)) (ej_v rfl (.inl rfl))) ej_int) (aj_cons (ej_ix J.toJc (ej_ix J.toJc (ej_v rfl (.inl rfl)) (ej_v rfl (.inl rfl))) ej_int) (aj_cons (ej_tup (aj_cons (ej_v rfl (.inl rfl)) (aj_cons (ej_v rfl (.inl rfl)) aj_nil))) (aj_cons (ej_v rfl (.inl rfl)) aj_nil))))))) (ss_cons (sj_ret ej_bl)
 ss_nil) ss_nil)
 ss_nil) ss_nil)
 (ss_cons (sj_set J rfl (.inl rfl) (ej_bin J.toJc (op := .add) rfl (ej_v rfl (.inl rfl)) ej_int))
 ss_nil)))))
 (ss_cons (sj_ret ej_bl)
 ss_nil)))))
theorem s19 (O : Ok P w K mg base F n) (M : Mg w K mg) (hr : RoomG (2 * n + 1) (A.deeper (envOfC d19.qual (defScope st19) s.heap.objs.size (He.fAd K d19.at_) cdv))) :
    SsJ (cxOf (L2.CX P w) P w K mg base N19 d19.qual (defScope st19) (He.fAd K d19.at_) cdv A outer s H E) (Wk K) (fun cls d _ H => E cls d H) (defBody st19) (b__law_called (run F n) F) := by
  have J : Js (cxOf (L2.CX P w) P w K mg base N19 d19.qual (defScope st19) (He.fAd K d19.at_) cdv A outer s H E) (Wk K) (fun cls d _ H => E cls d H) := js_of rfl sc19.nd hr
  have hr0 := hr.mono' (Nat.le_succ (2 * n))
  exact (ss_cons (sj_if (bj_w (wj_or (bj_not (bj_t J.toJc (ej_isin J.toJc (ej_v rfl (.inl rfl)) (pe_bltn rfl M.f_tuple (by rfl) (v := .ty "tuple") rfl) (.ty _) kit_tuple rfl M.f_isinstance))) (wj_or1 (bj_cmp J.toJc (op := .eq) rfl (ej_ix J.toJc (ej_v rfl (.inl rfl)) ej_int) (ej_str (t := [110, 97, 109, 101])))))) (ss_cons (sj_ret (ej_v rfl (.inl rfl)))
 ss_nil) ss_nil)
 (ss_cons (sj_if (bj_cmp J.toJc (op := .eq) rfl (ej_ix J.toJc (ej_v rfl (.inl rfl)) ej_int) (ej_str (t := [116, 111]))) (ss_cons (sj_if (bj_t J.toJc (ec_call J.toJc O.c16 hr0 dfl_nil M.g__law_leads (aj_cons (ej_v rfl (.inr (.inl rfl))) (aj_cons (ej_v rfl (.inl rfl)) aj_nil)))) (ss_cons (sj_ret (ej_bin J.toJc (op := .add) rfl (ej_tup (aj_cons (ej_str (t := [116, 111])) aj_nil)) (ej_ix J.toJc (ej_v rfl (.inr (.inl rfl))) (ej_ix J.toJc (ej_v rfl (.inl rfl)) ej_int))))
 ss_nil) ss_nil)
 (ss_cons (sj_ret (ej_ix J.toJc (ej_lst (aj_cons ej_non (aj_cons (ej_tup (aj_cons (ej_str (t := [116, 111])) (aj_cons ej_int (aj_cons ej_int aj_nil)))) aj_nil))) (ej_bin J.toJc (op := .mod) rfl (ej_ix J.toJc (ej_v rfl (.inl rfl)) ej_int) ej_int)))
 ss_nil)) ss_nil)
 (ss_cons (sj_if (bj_cmp J.toJc (op := .eq) rfl (ej_ix J.toJc (ej_v rfl (.inl rfl)) ej_int) (ej_str (t := [114, 111, 119]))) (ss_cons (sj_ret (ej_tup (aj_cons (ej_str (t := [114, 111, 119])) (aj_cons (ej_t1 (cl_tuple J.toJc.hK) (ej_lc J (ij_e J.toJc (ej_ix J.toJc (ej_v rfl (.inl rfl)) ej_int)) (own := [("_law_one", 3)]) (blkOk_by (N := N19) (sc := defScope st19) (by decide +kernel)) (by decide) (fun s1 H1 C1 cl1 fp1 => (gj_nm (jc_blk J s1 H1 _ _ fp1).hN rfl (.inl rfl) (.inr rfl))) (fun s1 H1 C1 cl1 fp1 => cj_nil) (fun s1 H1 C1 cl1 fp1 => (ec_call (jc_blk J s1 H1 _ _ fp1).toJc O.c19 hr0 dfl_nil M.g__law_called (aj_cons (ej_v rfl (.inl rfl)) (aj_cons (ej_v rfl (.inr (.inl rfl))) (aj_cons (ej_v rfl (.inr (.inl rfl))) aj_nil)))))) (by decide +kernel) rfl M.f_tuple) aj_nil))))
 ss_nil) ss_nil)
 (ss_cons (sj_ret (ej_bin J.toJc (op := .add) rfl (ej_tup (aj_cons (ej_ix J.toJc (ej_v rfl (.inl rfl)) ej_int) (aj_cons (ej_t1 (cl_tuple J.toJc.hK) (ej_lc J (ij_e J.toJc (ej_ix J.toJc (ej_v rfl (.inl rfl)) ej_int)) (own := [("_law_word", 4), ("_law_one", 3)]) (blkOk_by (N := N19) (sc := defScope st19) (by decide +kernel)) (by decide) (fun s1 H1 C1 cl1 fp1 => (gj_tp (jc_blk J s1 H1 _ _ fp1).hc (gsj_cons (gj_nm (jc_blk J s1 H1 _ _ fp1).hN rfl (.inl rfl) (.inr rfl)) (gsj_cons (gj_nm (jc_blk J s1 H1 _ _ fp1).hN rfl (.inl rfl) (.inr rfl)) gsj_nil)))) (fun s1 H1 C1 cl1 fp1 => cj_nil) (fun s1 H1 C1 cl1 fp1 => (ej_tup (aj_cons (ej_v rfl (.inl rfl)) (aj_cons (ec_call (jc_blk J s1 H1 _ _ fp1).toJc O.c19 hr0 dfl_nil M.g__law_called (aj_cons (ej_v rfl (.inl rfl)) (aj_cons (ej_v rfl (.inr (.inl rfl))) (aj_cons (ej_v rfl (.inr (.inl rfl))) aj_nil)))) aj_nil))))) (by decide +kernel) rfl M.f_tuple) aj_nil))) (ej_sl J.toJc (ej_v rfl (.inl rfl)) (oj_s ej_int) oj_n)))
 ss_nil))))
end
end Lw
end
section
set_option Elab.async false
set_option linter.all false
set_option maxRecDepth 100000
set_option autoImplicit false
set_option maxHeartbeats 0
namespace Lw
open PySem PySem.Spec PyProof.Rows L2 Fw
section
variable {P : Program} {w : World} {K : PySem.W.Frag} {mg : Str → Option Value} {base : Heap} {F n : Nat} {cdv : Value} {A : Around} {outer : List Env} {s : Shared} {H : Hp} {E : XK}
theorem s20 (O : Ok P w K mg base F n) (M : Mg w K mg) (hr : RoomG (2 * n + 1) (A.deeper (envOfC d20.qual (defScope st20) s.heap.objs.size (He.fAd K d20.at_) cdv))) :
    SsJ (cxOf (L2.CX P w) P w K mg base N20 d20.qual (defScope st20) (He.fAd K d20.at_) cdv A outer s H E) (Wk K) (fun cls d _ H => E cls d H) (defBody st20) (b__law_take (run F n) F) := by
  have J : Js (cxOf (L2.CX P w) P w K mg base N20 d20.qual (defScope st20) (He.fAd K d20.at_) cdv A outer s H E) (Wk K) (fun cls d _ H => E cls d H) := js_of rfl sc20.nd hr
  have hr0 := hr.mono' (Nat.le_succ (2 * n))
  exact (ss_cons (sj_if (bj_cmp J.toJc (op := .gt) rfl (ej_ix J.toJc (ej_v rfl (.inl rfl)) ej_int) ej_int) (ss_cons (sj_set J rfl (.inl rfl) (ej_bin J.toJc (op := .mod) rfl (ej_ix J.toJc (ej_v rfl (.inl rfl)) ej_int) (ej_v rfl (.inl rfl))))
 (ss_cons (sj_setI J (ej_v rfl (.inl rfl)) ej_int (ej_bin J.toJc (op := .fdiv) rfl (ej_ix J.toJc (ej_v rfl (.inl rfl)) ej_int) (ej_v rfl (.inl rfl))))
 (ss_cons (sj_ret (ej_v rfl (.inl rfl)))
 ss_nil))) ss_nil)
 (ss_cons (sj_setI J (ej_v rfl (.inl rfl)) ej_int (ej_bin J.toJc (op := .mod) rfl (ej_bin J.toJc (op := .add) rfl (ej_bin J.toJc (op := .mul) rfl (ej_ix J.toJc (ej_v rfl (.inl rfl)) ej_int) ej_int) ej_int) ej_int))
 (ss_cons (sj_ret (ej_bin J.toJc (op := .mod) rfl (ej_bin J.toJc (op := .fdiv) rfl (ej_bin J.toJc (op := .mod) rfl (ej_bin J.toJc (op := .mul) rfl (ej_ix J.toJc (ej_v rfl (.inl rfl)) ej_int) (ej_ix J.toJc (ej_v rfl (.inl rfl)) ej_int)) ej_int) ej_int) (ej_v rfl (.inl rfl))))
 ss_nil)))
theorem s21 (O : Ok P w K mg base F n) (M : Mg w K mg) (hr : RoomG (2 * n + 1) (A.deeper (envOfC d21.qual (defScope st21) s.heap.objs.size (He.fAd K d21.at_) cdv))) :
    SsJ (cxOf (L2.CX P w) P w K mg base N21 d21.qual (defScope st21) (He.fAd K d21.at_) cdv A outer s H E) (Wk K) (fun cls d _ H => E cls d H) (defBody st21) (b__law_otherwise (run F n) F) := by
  have J : Js (cxOf (L2.CX P w) P w K mg base N21 d21.qual (defScope st21) (He.fAd K d21.at_) cdv A outer s H E) (Wk K) (fun cls d _ H => E cls d H) := js_of rfl sc21.nd hr
  have hr0 := hr.mono' (Nat.le_succ (2 * n))
  exact (ss_cons (sj_set J rfl (.inl rfl) (ej_newRg J.hc ej_int ej_int rfl M.f_list rfl M.f_range))
 (ss_cons (sj_set J rfl (.inl rfl) ej_newD)
 (ss_cons (sj_forK (i := 1) J rfl (.inl rfl) (gj_nm J.hN rfl (.inl rfl) (.inl rfl)) (ss_cons (sj_setI J (ej_v rfl (.inl rfl)) (ej_v rfl (.inl rfl)) (ej_tup (aj_cons (ej_pop (ej_v rfl (.inl rfl)) (ec_call J.toJc O.c20 hr0 dfl_nil M.g__law_take (aj_cons (ej_v rfl (.inl rfl)) (aj_cons (ej_b1 (cl_len J.toJc.hK) (ej_v rfl (.inl rfl)) (by decide +kernel) rfl M.f_len) aj_nil)))) (aj_cons (ec_call J.toJc O.c20 hr0 dfl_nil M.g__law_take (aj_cons (ej_v rfl (.inl rfl)) (aj_cons ej_int aj_nil))) aj_nil))))
 ss_nil))
 (ss_cons (sj_set J rfl (.inl rfl) ej_newD)
 (ss_cons (sj_forK (i := 1) J rfl (.inl rfl) (gj_nm J.hN rfl (.inl rfl) (.inl rfl)) (ss_cons (sj_setI J (ej_v rfl (.inl rfl)) (ej_ix J.toJc (ej_ix J.toJc (ej_v rfl (.inl rfl)) (ej_v rfl (.inl rfl))) ej_int) (ej_tup (aj_cons (ej_ix J.toJc (ej_ix J.toJc (ej_v rfl (.inl rfl)) (ej_v rfl (.inl rfl))) ej_int) (aj_cons (ec_call J.toJc O.c19 hr0 dfl_nil M.g__law_called (aj_cons (ej_ix J.toJc (ej_ix J.toJc (ej_v rfl (.inl rfl)) (ej_v rfl (.inl rfl))) ej_int) (aj_cons (ej_v rfl (.inl rfl)) (aj_cons (ej_v rfl (.inl rfl)) aj_nil)))) aj_nil))))
 ss_nil))
 (ss_cons (sj_setI J (ej_v rfl (.inl rfl)) ej_int (ej_tup (aj_cons ej_int (aj_cons (ej_tup (aj_cons (ej_str (t := [116, 111])) (aj_cons ej_int (aj_cons ej_int aj_nil)))) aj_nil))))
 (ss_cons (sj_ret (ej_tup (aj_cons (ej_v rfl (.inl rfl)) (aj_cons (ej_ite (bj_cmp J.toJc (op := .isnt) rfl (ej_v rfl (.inl rfl)) ej_non) (ec_call J.toJc O.c19 hr0 dfl_nil M.g__law_called (aj_cons (ej_v rfl (.inl rfl)) (aj_cons (ej_v rfl (.inl rfl)) (aj_cons (ej_v rfl (.inl rfl)) aj_nil)))) (ej_tup (aj_cons (ej_str (t := [116, 111])) (aj_cons ej_int (aj_cons ej_int aj_nil))))) aj_nil))))
 ss_nil)))))))
theorem s22 (O : Ok P w K mg base F n) (M : Mg w K mg) (hr : RoomG (2 * n + 1) (A.deeper (envOfC d22.qual (defScope st22) s.heap.objs.size (He.fAd K d22.at_) cdv))) :
    SsJ (cxOf (L2.CX P w) P w K mg base N22 d22.qual (defScope st22) (He.fAd K d22.at_) cdv A outer s H E) (Wk K) (fun cls d _ H => E cls d H) (defBody st22) (b__law_ref_in (run F n) F) := by
  have J : Js (cxOf (L2.CX P w) P w K mg base N22 d22.qual (defScope st22) (He.fAd K d22.at_) cdv A outer s H E) (Wk K) (fun cls d _ H => E cls d H) := js_of rfl sc22.nd hr
  have hr0 := hr.mono' (Nat.le_succ (2 * n))
  exact (ss_cons (sj_ret (ej_tup (aj_cons (ej_str (t := [116, 111])) (aj_cons (ej_bin J.toJc (op := .add) rfl ej_int (ec_call J.toJc O.c20 hr0 dfl_nil M.g__law_take (aj_cons (ej_v rfl (.inl rfl)) (aj_cons (ej_bin J.toJc (op := .add) rfl (ej_v rfl (.inl rfl)) ej_int) aj_nil)))) (aj_cons (ej_ix J.toJc (ej_lst (aj_cons ej_int (aj_cons ej_int (aj_cons ej_int (aj_cons ej_int aj_nil))))) (ec_call J.toJc O.c20 hr0 dfl_nil M.g__law_take (aj_cons (ej_v rfl (.inl rfl)) (aj_cons ej_int aj_nil)))) aj_nil)))))
 ss_nil)
theorem s23 (O : Ok P w K mg base F n) (M : Mg w K mg) (hr : RoomG (2 * n + 1) (A.deeper (envOfC d23.qual (defScope st23) s.heap.objs.size (He.fAd K d23.at_) cdv))) :
    SsJ (cxOf (L2.CX P w) P w K mg base N23 d23.qual (defScope st23) (He.fAd K d23.at_) cdv A outer s H E) (Wk K) (fun cls d _ H => E cls d H) (defBody st23) (b__law_line (run F n) F) := by
  have J : Js (cxOf (L2.CX P w) P w K mg base N23 d23.qual (defScope st23) (He.fAd K d23.at_) cdv A outer s H E) (Wk K) (fun cls d _ H => E cls d H) := js_of rfl sc23.nd hr
  have hr0 := hr.mono' (Nat.le_succ (2 * n))
  exact (ss_cons (sj_set J rfl (.inr rfl) (ej_str (t := [97, 98, 40, 41, 92, 47, 60, 62, 91, 93, 58, 126, 45, 48, 32, 49, 110])))
 (ss_cons (sj_ret (ej_join J.toJc (ej_str (t := [])) (ej_lc J (ij_range1 (ec_call J.toJc O.c20 hr0 dfl_nil M.g__law_take (aj_cons (ej_v rfl (.inr (.inl rfl))) (aj_cons ej_int aj_nil))) rfl M.f_range) (own := [("_law_turn", 2)]) (blkOk_by (N := N23) (sc := defScope st23) (by decide +kernel)) (by decide) (fun s1 H1 C1 cl1 fp1 => (gj_nm (jc_blk J s1 H1 _ _ fp1).hN rfl (.inl rfl) (.inr rfl))) (fun s1 H1 C1 cl1 fp1 => cj_nil) (fun s1 H1 C1 cl1 fp1 => (ej_ix (jc_blk J s1 H1 _ _ fp1).toJc (ej_v rfl (.inr (.inl rfl))) (ec_call (jc_blk J s1 H1 _ _ fp1).toJc O.c20 hr0 dfl_nil M.g__law_take (aj_cons (ej_v rfl (.inr (.inl rfl))) (aj_cons ej_int aj_nil))))))))
 ss_nil))
end
end Lw
end
section
set_option Elab.async false
set_option linter.all false
set_option maxRecDepth 100000
set_option autoImplicit false
set_option maxHeartbeats 0
namespace Lw
open PySem PySem.Spec PyProof.Rows L2 Fw
section
variable {P : Program} {w : World} {K : PySem.W.Frag} {mg : Str → Option Value} {base : Heap} {F n : Nat} {cdv : Value} {A : Around} {outer : List Env} {s : Shared} {H : Hp} {E : XK}
theorem s24 (O : Ok P w K mg base F n) (M : Mg w K mg) (hr : RoomG (2 * n + 1) (A.deeper (envOfC d24.qual (defScope st24) s.heap.objs.size (He.fAd K d24.at_) cdv))) :
    SsJ (cxOf (L2.CX P w) P w K mg base N24 d24.qual (defScope st24) (He.fAd K d24.at_) cdv A outer s H E) (Wk K) (fun cls d _ H => E cls d H) (defBody st24) (b__law_linked (run F n) F) := by
  have J : Js (cxOf (L2.CX P w) P w K mg base N24 d24.qual (defScope st24) (He.fAd K d24.at_) cdv A outer s H E) (Wk K) (fun cls d _ H => E cls d H) := js_of rfl sc24.nd hr
  have hr0 := hr.mono' (Nat.le_succ (2 * n))
  exact (ss_cons (sj_set J rfl (.inl rfl) (ec_call J.toJc O.c20 hr0 dfl_nil M.g__law_take (aj_cons (ej_v rfl (.inr (.inl rfl))) (aj_cons (ej_ix J.toJc (ej_lst (aj_cons ej_int (aj_cons ej_int aj_nil))) (ej_t1 (cl_intV) (ej_cmp J.toJc (op := .gt) rfl (ej_v rfl (.inr (.inl rfl))) ej_int) (by decide +kernel) rfl M.f_int)) aj_nil))))
 (ss_cons (sj_if (bj_cmp J.toJc (op := .lt) rfl (ej_v rfl (.inl rfl)) ej_int) (ss_cons (sj_ret (ec_call J.toJc O.c22 hr0 dfl_nil M.g__law_ref_in (aj_cons (ej_v rfl (.inr (.inl rfl))) (aj_cons (ej_v rfl (.inr (.inl rfl))) aj_nil))))
 ss_nil) ss_nil)
 (ss_cons (sj_if (bj_cmp J.toJc (op := .eq) rfl (ej_v rfl (.inl rfl)) ej_int) (ss_cons (sj_ret (ej_ix J.toJc (ej_lst (aj_cons ej_non (aj_cons ej_int (aj_cons (ej_str (t := [97, 41])) (aj_cons (ej_tup (aj_cons (ej_str (t := [110, 97, 109, 101])) (aj_cons (ej_str (t := [107, 105, 100, 115])) aj_nil))) aj_nil))))) (ec_call J.toJc O.c20 hr0 dfl_nil M.g__law_take (aj_cons (ej_v rfl (.inr (.inl rfl))) (aj_cons ej_int aj_nil)))))
 ss_nil) ss_nil)
 (ss_cons (sj_if (bj_cmp J.toJc (op := .eq) rfl (ej_v rfl (.inl rfl)) ej_int) (ss_cons (sj_ret (ec_call J.toJc O.c23 hr0 dfl_nil M.g__law_line (aj_cons (ej_v rfl (.inr (.inl rfl))) aj_nil)))
 ss_nil) ss_nil)
 (ss_cons (sj_setLc J (ij_range1 (ec_call J.toJc O.c20 hr0 dfl_nil M.g__law_take (aj_cons (ej_v rfl (.inr (.inl rfl))) (aj_cons ej_int aj_nil))) rfl M.f_range) (own := [("_law_turn", 5)]) (blkOk_by (N := N24) (sc := defScope st24) (by decide +kernel)) (by decide) rfl rfl (sw_true rfl rfl (by decide) (by decide +kernel)) (fun s1 H1 C1 cl1 fp1 => (gj_nm (jc_blk J s1 H1 _ _ fp1).hN rfl (.inl rfl) (.inr rfl))) (fun s1 H1 C1 cl1 fp1 => cj_nil) (fun s1 H1 C1 cl1 fp1 => (ec_call (jc_blk J s1 H1 _ _ fp1).toJc O.c24 hr0 dfl_nil M.g__law_linked (aj_cons (ej_v rfl (.inr (.inl rfl))) (aj_cons (ej_v rfl (.inr (.inl rfl))) (aj_cons (ej_bin (jc_blk J s1 H1 _ _ fp1).toJc (op := .sub) rfl (ej_v rfl (.inr (.inl rfl))) ej_int) aj_nil))))))
 (ss_cons (sj_if (bj_cmp J.toJc (op := .lt) rfl (ej_v rfl (.inl rfl)) ej_int) (ss_cons (sj_ret (ej_tup (aj_cons (ej_str (t := [114, 111, 119])) (aj_cons (ej_t1 (cl_tuple J.toJc.hK) (ej_v rfl (.inl rfl)) (by decide +kernel) rfl M.f_tuple) aj_nil))))
 ss_nil) ss_nil)
 (ss_cons (sj_ret (ej_tup (aj_cons (ej_str (t := [116, 97, 98, 108, 101])) (aj_cons (ej_t1 (cl_tuple J.toJc.hK) (ej_lc J (ij_zip J.toJc (ej_lst (aj_cons (ej_str (t := [97])) (aj_cons (ej_str (t := [107, 105, 100, 115])) (aj_cons (ej_str (t := [116, 101, 120, 116])) (aj_cons (ej_str (t := [122, 122])) aj_nil))))) (ej_v rfl (.inl rfl)) rfl M.f_zip) (own := [("_law_word", 6), ("_law_one", 7)]) (blkOk_by (N := N24) (sc := defScope st24) (by decide +kernel)) (by decide) (fun s1 H1 C1 cl1 fp1 => (gj_tp (jc_blk J s1 H1 _ _ fp1).hc (gsj_cons (gj_nm (jc_blk J s1 H1 _ _ fp1).hN rfl (.inl rfl) (.inr rfl)) (gsj_cons (gj_nm (jc_blk J s1 H1 _ _ fp1).hN rfl (.inl rfl) (.inr rfl)) gsj_nil)))) (fun s1 H1 C1 cl1 fp1 => cj_nil) (fun s1 H1 C1 cl1 fp1 => (ej_tup (aj_cons (ej_v rfl (.inl rfl)) (aj_cons (ej_v rfl (.inl rfl)) aj_nil))))) (by decide +kernel) rfl M.f_tuple) aj_nil))))
 ss_nil)))))))
theorem s25 (O : Ok P w K mg base F n) (M : Mg w K mg) (hr : RoomG (2 * n + 1) (A.deeper (envOfC d25.qual (defScope st25) s.heap.objs.size (He.fAd K d25.at_) cdv))) :
    SsJ (cxOf (L2.CX P w) P w K mg base N25 d25.qual (defScope st25) (He.fAd K d25.at_) cdv A outer s H E) (Wk K) (fun cls d _ H => E cls d H) (defBody st25) (b__law_held_in (run F n) F) := by
  have J : Js (cxOf (L2.CX P w) P w K mg base N25 d25.qual (defScope st25) (He.fAd K d25.at_) cdv A outer s H E) (Wk K) (fun cls d _ H => E cls d H) := js_of rfl sc25.nd hr
  have hr0 := hr.mono' (Nat.le_succ (2 * n))
  exact (ss_cons (sj_set J rfl (.inl rfl) (ec_call J.toJc O.c24 hr0 dfl_nil M.g__law_linked (aj_cons (ej_v rfl (.inl rfl)) (aj_cons (ej_v rfl (.inl rfl)) (aj_cons ej_int aj_nil)))))
 (ss_cons (sj_if (bj_cmp J.toJc (op := .eq) rfl (ec_call J.toJc O.c20 hr0 dfl_nil M.g__law_take (aj_cons (ej_v rfl (.inl rfl)) (aj_cons ej_int aj_nil))) ej_int) (ss_cons (sj_set J rfl (.inl rfl) (ej_tup (aj_cons (ej_str (t := [115, 116, 114, 101, 97, 109])) (aj_cons (ej_tup (aj_cons (ej_tup (aj_cons (ej_str (t := [97])) (aj_cons (ec_call J.toJc O.c24 hr0 dfl_nil M.g__law_linked (aj_cons (ej_v rfl (.inl rfl)) (aj_cons (ej_v rfl (.inl rfl)) (aj_cons ej_int aj_nil)))) aj_nil))) aj_nil)) (aj_cons (ej_ix J.toJc (ej_lst (aj_cons (ej_str (t := [])) (aj_cons (ej_str (t := [101, 110, 100, 10])) (aj_cons (ej_str (t := [116, 104, 105, 110, 103, 32, 49, 32, 48, 10])) aj_nil)))) (ec_call J.toJc O.c20 hr0 dfl_nil M.g__law_take (aj_cons (ej_v rfl (.inl rfl)) (aj_cons ej_int aj_nil)))) aj_nil)))))
 ss_nil) ss_nil)
 (ss_cons (sj_ret (ej_v rfl (.inl rfl)))
 ss_nil)))
theorem s26 (O : Ok P w K mg base F n) (M : Mg w K mg) (hr : RoomG (2 * n + 1) (A.deeper (envOfC d26.qual (defScope st26) s.heap.objs.size (He.fAd K d26.at_) cdv))) :
    SsJ (cxOf (L2.CX P w) P w K mg base N26 d26.qual (defScope st26) (He.fAd K d26.at_) cdv A outer s H E) (Wk K) (fun cls d _ H => E cls d H) (defBody st26) (b__law_bent (run F n) F) := by
  have J : Js (cxOf (L2.CX P w) P w K mg base N26 d26.qual (defScope st26) (He.fAd K d26.at_) cdv A outer s H E) (Wk K) (fun cls d _ H => E cls d H) := js_of rfl sc26.nd hr
  have hr0 := hr.mono' (Nat.le_succ (2 * n))
  exact (ss_cons (sj_set J rfl (.inl rfl) (ej_b1 (cl_sortedKI J.hc) (ej_v rfl (.inl rfl)) (by decide +kernel) rfl M.f_sorted))
 (ss_cons (sj_set J rfl (.inl rfl) (ej_newDct (ej_v rfl (.inl rfl)) rfl M.f_dict))
 (ss_cons (sj_if (bj_w (wj_or (bj_cmp J.toJc (op := .eq) rfl (ej_v rfl (.inl rfl)) (ej_lst aj_nil)) (wj_or1 (bj_cmp J.toJc (op := .eq) rfl (ec_call J.toJc O.c20 hr0 dfl_nil M.g__law_take (aj_cons (ej_v rfl (.inl rfl)) (aj_cons ej_int aj_nil))) ej_int)))) (ss_cons (sj_ret (ej_tup (aj_cons (ej_v rfl (.inl rfl)) (aj_cons (ec_call J.toJc O.c22 hr0 dfl_nil M.g__law_ref_in (aj_cons (ej_v rfl (.inl rfl)) (aj_cons ej_int aj_nil))) aj_nil))))
 ss_nil) ss_nil)
 (ss_cons (sj_set J rfl (.inl rfl) (ej_ix J.toJc (ej_v rfl (.inl rfl)) (ec_call J.toJc O.c20 hr0 dfl_nil M.g__law_take (aj_cons (ej_v rfl (.inl rfl)) (aj_cons (ej_b1 (cl_len J.toJc.hK) (ej_v rfl (.inl rfl)) (by decide +kernel) rfl M.f_len) aj_nil)))))
 (ss_cons (sj_setI J (ej_v rfl (.inl rfl)) (ej_v rfl (.inl rfl)) (ej_tup (aj_cons (ej_ix J.toJc (ej_ix J.toJc (ej_v rfl (.inl rfl)) (ej_v rfl (.inl rfl))) ej_int) (aj_cons (ej_ix J.toJc (ej_lst (aj_cons (ec_call J.toJc O.c25 hr0 dfl_nil M.g__law_held_in (aj_cons (ej_v rfl (.inl rfl)) (aj_cons ej_int aj_nil))) (aj_cons ej_non (aj_cons (ej_tup (aj_cons (ej_str (t := [116, 111])) (aj_cons (ej_v rfl (.inl rfl)) (aj_cons ej_int aj_nil)))) (aj_cons (ej_str (t := [])) aj_nil))))) (ec_call J.toJc O.c20 hr0 dfl_nil M.g__law_take (aj_cons (ej_v rfl (.inl rfl)) (aj_cons ej_int aj_nil)))) aj_nil))))
 (ss_cons (sj_ret (ej_tup (aj_cons (ej_v rfl (.inl rfl)) (aj_cons (ej_v rfl (.inl rfl)) aj_nil))))
 ss_nil))))))
theorem s27 (O : Ok P w K mg base F n) (M : Mg w K mg) (hr : RoomG (2 * n + 1) (A.deeper (envOfC d27.qual (defScope st27) s.heap.objs.size (He.fAd K d27.at_) cdv))) :
    SsJ (cxOf (L2.CX P w) P w K mg base N27 d27.qual (defScope st27) (He.fAd K d27.at_) cdv A outer s H E) (Wk K) (fun cls d _ H => E cls d H) (defBody st27) (b__law_pool (run F n) F) := by
  have J : Js (cxOf (L2.CX P w) P w K mg base N27 d27.qual (defScope st27) (He.fAd K d27.at_) cdv A outer s H E) (Wk K) (fun cls d _ H => E cls d H) := js_of rfl sc27.nd hr
  have hr0 := hr.mono' (Nat.le_succ (2 * n))
  exact (ss_cons (sj_set J rfl (.inl rfl) ej_int)
 (ss_cons (sj_if (bj_cmp J.toJc (op := .lt) rfl (ej_v rfl (.inl rfl)) (ej_b1 (cl_len J.toJc.hK) (ej_v rfl (.inl rfl)) (by decide +kernel) rfl M.f_len)) (ss_cons (sj_set J rfl (.inl rfl) (ej_ix J.toJc (ej_v rfl (.inl rfl)) (ej_v rfl (.inl rfl))))
 ss_nil) ss_nil)
 (ss_cons (sj_set J rfl (.inl rfl) (ej_bin J.toJc (op := .mod) rfl (ej_bin J.toJc (op := .mul) rfl (ej_bin J.toJc (op := .add) rfl (ej_bin J.toJc (op := .add) rfl (ej_bin J.toJc (op := .mod) rfl (ej_v rfl (.inl rfl)) ej_int) (ej_bin J.toJc (op := .mul) rfl (ej_bin J.toJc (op := .mul) rfl ej_int (ej_v rfl (.inl rfl))) (ej_v rfl (.inl rfl)))) ej_int) ej_int) ej_int))
 (ss_cons (sj_if (bj_cmp J.toJc (op := .lt) rfl (ej_v rfl (.inl rfl)) (ej_bin J.toJc (op := .pow) rfl ej_int ej_int)) (ss_cons (sj_set J rfl (.inl rfl) ej_int)
 ss_nil) ss_nil)
 (ss_cons (sj_ret (ej_newL (aj_cons (ej_v rfl (.inl rfl)) (aj_cons (ej_bin J.toJc (op := .add) rfl (ej_bin J.toJc (op := .mod) rfl (ej_bin J.toJc (op := .mul) rfl (ej_v rfl (.inl rfl)) (ej_v rfl (.inl rfl))) ej_int) ej_int) aj_nil))))
 ss_nil)))))
end
end Lw
end
section
set_option Elab.async false
set_option linter.all false
set_option maxRecDepth 100000
set_option autoImplicit false
set_option maxHeartbeats 0
namespace Lw
open PySem PySem.Spec PyProof.Rows L2 Fw
section
variable {P : Program} {w : World} {K : PySem.W.Frag} {mg : Str → Option Value} {base : Heap} {F n : Nat} {cdv : Value} {A : Around} {outer : List Env} {s : Shared} {H : Hp} {E : XK}
theorem s28 (O : Ok P w K mg base F n) (M : Mg w K mg) (hr : RoomG (2 * n + 1) (A.deeper (envOfC d28.qual (defScope st28) s.heap.objs.size (He.fAd K d28.at_) cdv))) :
    SsJ (cxOf (L2.CX P w) P w K mg base N28 d28.qual (defScope st28) (He.fAd K d28.at_) cdv A outer s H E) (Wk K) (fun cls d _ H => E cls d H) (defBody st28) (b__law_things (run F n) F) := by
  have J : Js (cxOf (L2.CX P w) P w K mg base N28 d28.qual (defScope st28) (He.fAd K d28.at_) cdv A outer s H E) (Wk K) (fun cls d _ H => E cls d H) := js_of rfl sc28.nd hr
  have hr0 := hr.mono' (Nat.le_succ (2 * n))
  exact (ss_cons (sj_set J rfl (.inl rfl) (ej_bin J.toJc (op := .add) rfl ej_int (ec_call J.toJc O.c20 hr0 dfl_nil M.g__law_take (aj_cons (ej_v rfl (.inl rfl)) (aj_cons ej_int aj_nil)))))
 (ss_cons (sj_set J rfl (.inl rfl) ej_newD)
 (ss_cons (sj_for J (ij_range2 ej_int (ej_bin J.toJc (op := .add) rfl (ej_v rfl (.inl rfl)) ej_int) rfl M.f_range) (gj_nm J.hN rfl (.inl rfl) (.inl rfl)) (ss_cons (sj_if (bj_cmp J.toJc (op := .gt) rfl (ec_call J.toJc O.c20 hr0 dfl_nil M.g__law_take (aj_cons (ej_v rfl (.inl rfl)) (aj_cons ej_int aj_nil))) ej_int) (ss_cons (sj_setI J (ej_v rfl (.inl rfl)) (ej_v rfl (.inl rfl)) (ej_tup (aj_cons (ej_ix J.toJc (ej_lst (aj_cons ej_int (aj_cons ej_int (aj_cons ej_int (aj_cons ej_int aj_nil))))) (ec_call J.toJc O.c20 hr0 dfl_nil M.g__law_take (aj_cons (ej_v rfl (.inl rfl)) (aj_cons ej_int aj_nil)))) (aj_cons (ec_call J.toJc O.c25 hr0 dfl_nil M.g__law_held_in (aj_cons (ej_v rfl (.inl rfl)) (aj_cons (ej_v rfl (.inl rfl)) aj_nil))) aj_nil))))
 ss_nil) ss_nil)
 ss_nil))
 (ss_cons (sj_set J rfl (.inl rfl) (ej_ix J.toJc (ej_lst (aj_cons ej_non (aj_cons (ec_call J.toJc O.c22 hr0 dfl_nil M.g__law_ref_in (aj_cons (ej_v rfl (.inl rfl)) (aj_cons (ej_v rfl (.inl rfl)) aj_nil))) (aj_cons (ec_call J.toJc O.c22 hr0 dfl_nil M.g__law_ref_in (aj_cons (ej_v rfl (.inl rfl)) (aj_cons (ej_v rfl (.inl rfl)) aj_nil))) (aj_cons (ej_tup (aj_cons (ej_str (t := [116, 111])) (aj_cons ej_int (aj_cons ej_int aj_nil)))) aj_nil))))) (ec_call J.toJc O.c20 hr0 dfl_nil M.g__law_take (aj_cons (ej_v rfl (.inl rfl)) (aj_cons ej_int aj_nil)))))
 (ss_cons (sj_ret (ej_tup (aj_cons (ej_v rfl (.inl rfl)) (aj_cons (ej_v rfl (.inl rfl)) aj_nil))))
 ss_nil)))))
theorem s29 (O : Ok P w K mg base F n) (M : Mg w K mg) (hr : RoomG (2 * n + 1) (A.deeper (envOfC d29.qual (defScope st29) s.heap.objs.size (He.fAd K d29.at_) cdv))) :
    SsJ (cxOf (L2.CX P w) P w K mg base N29 d29.qual (defScope st29) (He.fAd K d29.at_) cdv A outer s H E) (Wk K) (fun cls d _ H => E cls d H) (defBody st29) (b_law (run F n) F) := by
  have J : Js (cxOf (L2.CX P w) P w K mg base N29 d29.qual (defScope st29) (He.fAd K d29.at_) cdv A outer s H E) (Wk K) (fun cls d _ H => E cls d H) := js_of rfl sc29.nd hr
  have hr0 := hr.mono' (Nat.le_succ (2 * n))
  exact (ss_cons (sj_for J (ij_range1 (ej_b2 (cl_max J.hc) ej_int (ej_b2 (cl_min J.hc) (ej_b1 (cl_len J.toJc.hK) (ej_v rfl (.inl rfl)) (by decide +kernel) rfl M.f_len) ej_int (by decide +kernel) rfl M.f_min) (by decide +kernel) rfl M.f_max) rfl M.f_range) (gj_nm J.hN rfl (.inl rfl) (.inl rfl)) (ss_cons (sj_set J rfl (.inl rfl) (ec_call J.toJc O.c27 hr0 dfl_nil M.g__law_pool (aj_cons (ej_v rfl (.inl rfl)) (aj_cons (ej_v rfl (.inl rfl)) aj_nil))))
 (ss_cons (sj_for J (ij_range1 ej_int rfl M.f_range) (gj_nm J.hN rfl (.inl rfl) (.inl rfl)) (ss_cons (sj_asg J (ec_call J.toJc O.c28 hr0 dfl_nil M.g__law_things (aj_cons (ej_v rfl (.inl rfl)) aj_nil)) (gj_tp J.hc (gsj_cons (gj_nm J.hN rfl (.inl rfl) (.inl rfl)) (gsj_cons (gj_nm J.hN rfl (.inl rfl) (.inl rfl)) gsj_nil))))
 (ss_cons (sj_set J rfl (.inl rfl) (ec_makeK J.toJc (O.k6_root) hr kg6_root M.g_Book (aj_cons (ej_v rfl (.inl rfl)) aj_nil) (kj_cons (ej_v rfl (.inl rfl)) kj_nil) (len_cons len_nil) (len_cons len_nil)))
 (ss_cons (sj_set J rfl (.inl rfl) (ej_newL (aj_cons (ej_tup (aj_cons (ej_v rfl (.inl rfl)) (aj_cons (ej_v rfl (.inl rfl)) aj_nil))) (aj_cons (ec_call J.toJc O.c21 hr0 dfl_nil M.g__law_otherwise (aj_cons (ej_v rfl (.inl rfl)) (aj_cons (ej_v rfl (.inl rfl)) (aj_cons (ej_v rfl (.inl rfl)) aj_nil)))) (aj_cons (ec_call J.toJc O.c26 hr0 dfl_nil M.g__law_bent (aj_cons (ej_v rfl (.inl rfl)) (aj_cons (ej_v rfl (.inl rfl)) (aj_cons (ej_v rfl (.inl rfl)) aj_nil)))) aj_nil)))))
 (ss_cons (sj_ex (ej_app (ej_v rfl (.inl rfl)) (ec_call J.toJc O.c28 hr0 dfl_nil M.g__law_things (aj_cons (ej_v rfl (.inl rfl)) aj_nil))))
 (ss_cons (sj_ex (ej_app (ej_v rfl (.inl rfl)) (ec_call J.toJc O.c26 hr0 dfl_nil M.g__law_bent (aj_cons (ej_v rfl (.inl rfl)) (aj_cons (ej_ix J.toJc (ej_ix J.toJc (ej_v rfl (.inl rfl)) ej_int) ej_int) (aj_cons (ej_ix J.toJc (ej_ix J.toJc (ej_v rfl (.inl rfl)) ej_int) ej_int) aj_nil))))))
 (ss_cons (sj_forI (F := F) J (ir_e (ej_v rfl (.inl rfl))) (gj_tp J.hc (gsj_cons (gj_nm J.hN rfl (.inl rfl) (.inl rfl)) (gsj_cons (gj_nm J.hN rfl (.inl rfl) (.inl rfl)) gsj_nil))) (ss_cons (sj_set J rfl (.inl rfl) (ec_makeK J.toJc (O.k6_root_free) hr kg6_root_free M.g_Book (aj_cons (ej_v rfl (.inl rfl)) aj_nil) (kj_cons (ej_v rfl (.inl rfl)) (kj_cons (ej_disp (.cons ej_int ej_int .nil)) kj_nil)) (len_cons len_nil) (len_cons (len_cons len_nil))))
 (ss_cons (sj_set J rfl (.inl rfl) (ec_call J.toJc O.c18 hr0 dfl_nil M.g__law_alike (aj_cons (ej_v rfl (.inl rfl)) (aj_cons (ej_v rfl (.inl rfl)) (aj_cons (ej_v rfl (.inl rfl)) (aj_cons (ej_v rfl (.inl rfl)) aj_nil))))))
 (ss_cons (sj_if (bj_cmp J.toJc (op := .ne) rfl (ej_b1 (cl_repr J.toJc.hK J.toJc.hu2 J.toJc.gd) (ej_lst (aj_cons (ec_call J.toJc O.c15 hr0 dfl_nil M.g_read_alike (aj_cons (ej_v rfl (.inl rfl)) (aj_cons (ej_v rfl (.inl rfl)) aj_nil))) (aj_cons (ec_call J.toJc O.c15 hr0 dfl_nil M.g_read_alike (aj_cons (ej_v rfl (.inl rfl)) (aj_cons (ej_v rfl (.inl rfl)) aj_nil))) aj_nil))) (by decide +kernel) rfl M.f_repr) (ej_b1 (cl_repr J.toJc.hK J.toJc.hu2 J.toJc.gd) (ej_lst (aj_cons (ej_v rfl (.inl rfl)) (aj_cons (ej_v rfl (.inl rfl)) aj_nil))) (by decide +kernel) rfl M.f_repr)) (ss_cons (sj_ret ej_bl)
 ss_nil) ss_nil)
 ss_nil))))
 (ss_cons (sj_if (bj_w (wj_or (bj_not (bj_t J.toJc (ec_call J.toJc O.c15 hr0 dfl_nil M.g_read_alike (aj_cons (ej_v rfl (.inl rfl)) (aj_cons (ej_v rfl (.inl rfl)) aj_nil))))) (wj_or1 (bj_not (bj_t J.toJc (ec_call J.toJc O.c15 hr0 dfl_nil M.g_read_alike (aj_cons (ej_v rfl (.inl rfl)) (aj_cons (ec_makeK J.toJc (O.k6_root) hr kg6_root M.g_Book (aj_cons (ej_ix J.toJc (ej_ix J.toJc (ej_v rfl (.inl rfl)) ej_int) ej_int) aj_nil) (kj_cons (ej_ix J.toJc (ej_ix J.toJc (ej_v rfl (.inl rfl)) ej_int) ej_int) kj_nil) (len_cons len_nil) (len_cons len_nil)) aj_nil)))))))) (ss_cons (sj_ret ej_bl)
 ss_nil) ss_nil)
 ss_nil))))))))
 ss_nil)))
 (ss_cons (sj_ret ej_bl)
 ss_nil))
end
end Lw
end
section
set_option Elab.async false
set_option linter.all false
set_option maxRecDepth 100000
set_option autoImplicit false
set_option maxHeartbeats 0
namespace Lw
open PySem PySem.Spec PyProof.Rows L2 Fw
structure Fd (K : PySem.W.Frag) : Prop where
  D0 : ∃ fd, FnD K d0 fd
  D1 : ∃ fd, FnD K d1 fd
  D2 : ∃ fd, FnD K d2 fd
  D3 : ∃ fd, FnD K d3 fd
  D4 : ∃ fd, FnD K d4 fd
  D5 : ∃ fd, FnD K d5 fd
  D6 : ∃ fd, FnD K d6 fd
  D7 : ∃ fd, FnD K d7 fd
  D8 : ∃ fd, FnD K d8 fd
  D9 : ∃ fd, FnD K d9 fd
  D10 : ∃ fd, FnD K d10 fd
  D11 : ∃ fd, FnD K d11 fd
  D12 : ∃ fd, FnD K d12 fd
  D13 : ∃ fd, FnD K d13 fd
  D14 : ∃ fd, FnD K d14 fd
  D15 : ∃ fd, FnD K d15 fd
  D16 : ∃ fd, FnD K d16 fd
  D17 : ∃ fd, FnD K d17 fd
  D18 : ∃ fd, FnD K d18 fd
  D19 : ∃ fd, FnD K d19 fd
  D20 : ∃ fd, FnD K d20 fd
  D21 : ∃ fd, FnD K d21 fd
  D22 : ∃ fd, FnD K d22 fd
  D23 : ∃ fd, FnD K d23 fd
  D24 : ∃ fd, FnD K d24 fd
  D25 : ∃ fd, FnD K d25 fd
  D26 : ∃ fd, FnD K d26 fd
  D27 : ∃ fd, FnD K d27 fd
  D28 : ∃ fd, FnD K d28 fd
  D29 : ∃ fd, FnD K d29 fd
section
variable {P : Program} {w : World} {K : PySem.W.Frag} {mg : Str → Option Value} {base : Heap} {F n : Nat}
theorem bd0 {fd : FuncData} (D : FnD K d0 fd) : ∃ ds, Vals [] ds ∧ Binds K fd ps0 ds := ⟨[], .nil, FunD.bindsN D fun _ _ _ _ _ _ us hl => match us, hl with | [_], _ => rfl⟩
theorem bd1 {fd : FuncData} (D : FnD K d1 fd) : ∃ ds, Vals [] ds ∧ Binds K fd ps1 ds := ⟨[], .nil, FunD.bindsN D fun _ _ _ _ _ _ us hl => match us, hl with | [_, _, _], _ => rfl⟩
theorem bd2 {fd : FuncData} (D : FnD K d2 fd) : ∃ ds, Vals [] ds ∧ Binds K fd ps2 ds := ⟨[], .nil, FunD.bindsN D fun _ _ _ _ _ _ us hl => match us, hl with | [_], _ => rfl⟩
theorem bd3 {fd : FuncData} (D : FnD K d3 fd) : ∃ ds, Vals [] ds ∧ Binds K fd ps3 ds := ⟨[], .nil, FunD.bindsN D fun _ _ _ _ _ _ us hl => match us, hl with | [_], _ => rfl⟩
theorem bd4 {fd : FuncData} (D : FnD K d4 fd) : ∃ ds, Vals [] ds ∧ Binds K fd ps4 ds := ⟨[], .nil, FunD.bindsN D fun _ _ _ _ _ _ us hl => match us, hl with | [_], _ => rfl⟩
theorem bd5 {fd : FuncData} (D : FnD K d5 fd) : ∃ ds, Vals [] ds ∧ Binds K fd ps5 ds := ⟨[], .nil, FunD.bindsN D fun _ _ _ _ _ _ us hl => match us, hl with | [_, _], _ => rfl⟩
theorem bd6 {fd : FuncData} (D : FnD K d6 fd) : ∃ ds, Vals (dv6 K) ds ∧ Binds K fd ps6 ds := FunD.binds0 D 2 (fun h => by cases h) rfl fun _ _ _ _ _ _ us ks h1 h2 => match us, ks, h1, h2 with | [_, _], [_, _], _, _ => ⟨_, _, _, _, _, _, rfl, rfl, ⟨_, _, _, _, _, _, rfl, rfl, rfl⟩⟩
theorem bd7 {fd : FuncData} (D : FnD K d7 fd) : ∃ ds, Vals [] ds ∧ Binds K fd ps7 ds := ⟨[], .nil, FunD.bindsN D fun _ _ _ _ _ _ us hl => match us, hl with | [_], _ => rfl⟩
theorem bd8 {fd : FuncData} (D : FnD K d8 fd) : ∃ ds, Vals [] ds ∧ Binds K fd ps8 ds := ⟨[], .nil, FunD.bindsN D fun _ _ _ _ _ _ us hl => match us, hl with | [_, _], _ => rfl⟩
theorem bd9 {fd : FuncData} (D : FnD K d9 fd) : ∃ ds, Vals [] ds ∧ Binds K fd ps9 ds := ⟨[], .nil, FunD.bindsN D fun _ _ _ _ _ _ us hl => match us, hl with | [_, _], _ => rfl⟩
theorem bd10 {fd : FuncData} (D : FnD K d10 fd) : ∃ ds, Vals [] ds ∧ Binds K fd ps10 ds := ⟨[], .nil, FunD.bindsN D fun _ _ _ _ _ _ us hl => match us, hl with | [_, _], _ => rfl⟩
theorem bd11 {fd : FuncData} (D : FnD K d11 fd) : ∃ ds, Vals (dv11 K) ds ∧ Binds K fd ps11 ds := ⟨[], (show Vals (dv11 K) [] from .nil), FunD.bindsN D fun _ _ _ _ _ _ us hl => match us, hl with | [_, _, _], _ => rfl⟩
theorem bd12 {fd : FuncData} (D : FnD K d12 fd) : ∃ ds, Vals [] ds ∧ Binds K fd ps12 ds := ⟨[], .nil, FunD.bindsN D fun _ _ _ _ _ _ us hl => match us, hl with | [_, _, _], _ => rfl⟩
theorem bd13 {fd : FuncData} (D : FnD K d13 fd) : ∃ ds, Vals [] ds ∧ Binds K fd ps13 ds := ⟨[], .nil, FunD.bindsN D fun _ _ _ _ _ _ us hl => match us, hl with | [_, _, _], _ => rfl⟩
theorem bd14 {fd : FuncData} (D : FnD K d14 fd) : ∃ ds, Vals [] ds ∧ Binds K fd ps14 ds := ⟨[], .nil, FunD.bindsN D fun _ _ _ _ _ _ us hl => match us, hl with | [_, _, _], _ => rfl⟩
theorem bd15 {fd : FuncData} (D : FnD K d15 fd) : ∃ ds, Vals [] ds ∧ Binds K fd ps15 ds := ⟨[], .nil, FunD.bindsN D fun _ _ _ _ _ _ us hl => match us, hl with | [_, _], _ => rfl⟩
theorem bd16 {fd : FuncData} (D : FnD K d16 fd) : ∃ ds, Vals [] ds ∧ Binds K fd ps16 ds := ⟨[], .nil, FunD.bindsN D fun _ _ _ _ _ _ us hl => match us, hl with | [_, _], _ => rfl⟩
theorem bd17 {fd : FuncData} (D : FnD K d17 fd) : ∃ ds, Vals [] ds ∧ Binds K fd ps17 ds := ⟨[], .nil, FunD.bindsN D fun _ _ _ _ _ _ us hl => match us, hl with | [_, _, _, _], _ => rfl⟩
theorem bd18 {fd : FuncData} (D : FnD K d18 fd) : ∃ ds, Vals [] ds ∧ Binds K fd ps18 ds := ⟨[], .nil, FunD.bindsN D fun _ _ _ _ _ _ us hl => match us, hl with | [_, _, _, _], _ => rfl⟩
theorem bd19 {fd : FuncData} (D : FnD K d19 fd) : ∃ ds, Vals [] ds ∧ Binds K fd ps19 ds := ⟨[], .nil, FunD.bindsN D fun _ _ _ _ _ _ us hl => match us, hl with | [_, _, _], _ => rfl⟩
theorem bd20 {fd : FuncData} (D : FnD K d20 fd) : ∃ ds, Vals [] ds ∧ Binds K fd ps20 ds := ⟨[], .nil, FunD.bindsN D fun _ _ _ _ _ _ us hl => match us, hl with | [_, _], _ => rfl⟩
theorem bd21 {fd : FuncData} (D : FnD K d21 fd) : ∃ ds, Vals [] ds ∧ Binds K fd ps21 ds := ⟨[], .nil, FunD.bindsN D fun _ _ _ _ _ _ us hl => match us, hl with | [_, _, _], _ => rfl⟩
theorem bd22 {fd : FuncData} (D : FnD K d22 fd) : ∃ ds, Vals [] ds ∧ Binds K fd ps22 ds := ⟨[], .nil, FunD.bindsN D fun _ _ _ _ _ _ us hl => match us, hl with | [_, _], _ => rfl⟩
theorem bd23 {fd : FuncData} (D : FnD K d23 fd) : ∃ ds, Vals [] ds ∧ Binds K fd ps23 ds := ⟨[], .nil, FunD.bindsN D fun _ _ _ _ _ _ us hl => match us, hl with | [_], _ => rfl⟩
theorem bd24 {fd : FuncData} (D : FnD K d24 fd) : ∃ ds, Vals [] ds ∧ Binds K fd ps24 ds := ⟨[], .nil, FunD.bindsN D fun _ _ _ _ _ _ us hl => match us, hl with | [_, _, _], _ => rfl⟩
theorem bd25 {fd : FuncData} (D : FnD K d25 fd) : ∃ ds, Vals [] ds ∧ Binds K fd ps25 ds := ⟨[], .nil, FunD.bindsN D fun _ _ _ _ _ _ us hl => match us, hl with | [_, _], _ => rfl⟩
theorem bd26 {fd : FuncData} (D : FnD K d26 fd) : ∃ ds, Vals [] ds ∧ Binds K fd ps26 ds := ⟨[], .nil, FunD.bindsN D fun _ _ _ _ _ _ us hl => match us, hl with | [_, _, _], _ => rfl⟩
theorem bd27 {fd : FuncData} (D : FnD K d27 fd) : ∃ ds, Vals [] ds ∧ Binds K fd ps27 ds := ⟨[], .nil, FunD.bindsN D fun _ _ _ _ _ _ us hl => match us, hl with | [_, _], _ => rfl⟩
theorem bd28 {fd : FuncData} (D : FnD K d28 fd) : ∃ ds, Vals [] ds ∧ Binds K fd ps28 ds := ⟨[], .nil, FunD.bindsN D fun _ _ _ _ _ _ us hl => match us, hl with | [_], _ => rfl⟩
theorem bd29 {fd : FuncData} (D : FnD K d29 fd) : ∃ ds, Vals [] ds ∧ Binds K fd ps29 ds := ⟨[], .nil, FunD.bindsN D fun _ _ _ _ _ _ us hl => match us, hl with | [_], _ => rfl⟩
theorem gr6_root {vs mz zs : List V} {us mv ws : List Value} (r0 : Vals vs us) (r1 : Vals mz mv) (r2 : Vals zs ws) : Vals (gg6_root vs mz zs) (gg6_root us mv ws) := by
  cases r0 with
  | nil => exact .nil
  | cons a0 q0_0 =>
    cases q0_0 with
    | nil => exact .cons a0 .nil
    | cons a1 q0_1 =>
      cases q0_1 with
      | cons _ _ => exact .cons a0 .nil
      | nil =>
        cases r1 with
        | nil => exact .cons a0 .nil
        | cons m0 q1_0 =>
          cases q1_0 with
          | cons _ _ => exact .cons a0 .nil
          | nil =>
            cases r2 with
            | nil => exact .cons a0 .nil
            | cons z0 q2_0 =>
              cases q2_0 with
              | cons _ _ => exact .cons a0 .nil
              | nil =>
                exact (.cons a0 (.cons a1 (.cons z0 (.cons m0 .nil))))
theorem kb6_root {fd : FuncData} (D : FnD K d6 fd) : ∃ g, KBn K fd ps6 2 ["root"] g (kv6_root K) := by
  obtain ⟨mv, h⟩ := FunD.kbinds0 (ps := ps6) D 2 ["root"] (lk6_root K) gg6_root (fun h => by cases h) (fun q hq => by
     simp [lk6_root] at hq; subst hq; exact List.mem_of_getElem? (i := 1) rfl) gr6_root (fun _ _ _ _ _ _ us mv ws h1 h2 h3 => match us, mv, ws, h1, h2, h3 with | [_, _], [_], [_], _, _, _ => ⟨_, _, _, _, _, _, rfl, rfl, rfl⟩)
  exact ⟨_, h⟩
theorem gr6_root_free {vs mz zs : List V} {us mv ws : List Value} (r0 : Vals vs us) (r1 : Vals mz mv) (r2 : Vals zs ws) : Vals (gg6_root_free vs mz zs) (gg6_root_free us mv ws) := by
  cases r0 with
  | nil => exact .nil
  | cons a0 q0_0 =>
    cases q0_0 with
    | nil => exact .cons a0 .nil
    | cons a1 q0_1 =>
      cases q0_1 with
      | cons _ _ => exact .cons a0 .nil
      | nil =>
        cases r1 with
        | cons _ _ => exact .cons a0 .nil
        | nil =>
          cases r2 with
          | nil => exact .cons a0 .nil
          | cons z0 q2_0 =>
            cases q2_0 with
            | nil => exact .cons a0 .nil
            | cons z1 q2_1 =>
              cases q2_1 with
              | cons _ _ => exact .cons a0 .nil
              | nil =>
                exact (.cons a0 (.cons a1 (.cons z0 (.cons z1 .nil))))
theorem kb6_root_free {fd : FuncData} (D : FnD K d6 fd) : ∃ g, KBn K fd ps6 2 ["root", "free"] g (kv6_root_free K) := by
  obtain ⟨mv, h⟩ := FunD.kbinds0 (ps := ps6) D 2 ["root", "free"] (lk6_root_free K) gg6_root_free (fun h => by cases h) (fun q hq => by
    simp [lk6_root_free] at hq) gr6_root_free (fun _ _ _ _ _ _ us mv ws h1 h2 h3 => match us, mv, ws, h1, h2, h3 with | [_, _], [], [_, _], _, _, _ => rfl)
  exact ⟨_, h⟩
theorem ok_zero (D : Fd K) (M : Mg w K mg) : Ok P w K mg base F 0 where
  c0 := by
    obtain ⟨fd, D⟩ := D.D0
    obtain ⟨ds, v, b⟩ := bd0 D
    exact ⟨fd, ds, fn_bad, D.kp, b, v⟩
  c1 := by
    obtain ⟨fd, D⟩ := D.D1
    obtain ⟨ds, v, b⟩ := bd1 D
    exact ⟨fd, ds, fn_bad, D.kp, b, v⟩
  c2 := by
    obtain ⟨fd, D⟩ := D.D2
    obtain ⟨ds, v, b⟩ := bd2 D
    exact ⟨fd, ds, fn_bad, D.kp, b, v⟩
  c3 := by
    obtain ⟨fd, D⟩ := D.D3
    obtain ⟨ds, v, b⟩ := bd3 D
    exact ⟨fd, ds, fn_bad, D.kp, b, v⟩
  c4 := by
    obtain ⟨fd, D⟩ := D.D4
    obtain ⟨ds, v, b⟩ := bd4 D
    exact ⟨fd, ds, fn_bad, D.kp, b, v⟩
  c5 := by
    obtain ⟨fd, D⟩ := D.D5
    obtain ⟨ds, v, b⟩ := bd5 D
    exact ⟨fd, ds, fn_bad, D.kp, b, v⟩
  c6 := by
    obtain ⟨fd, D⟩ := D.D6
    obtain ⟨ds, v, b⟩ := bd6 D
    exact ⟨_, fd, ds, M.mk0, fn_badM, b, v⟩
  c7 := by
    obtain ⟨fd, D⟩ := D.D7
    obtain ⟨ds, v, b⟩ := bd7 D
    exact ⟨fd, ds, fn_bad, D.kp, b, v⟩
  c8 := by
    obtain ⟨fd, D⟩ := D.D8
    obtain ⟨ds, v, b⟩ := bd8 D
    exact ⟨fd, ds, fn_bad, D.kp, b, v⟩
  c9 := by
    obtain ⟨fd, D⟩ := D.D9
    obtain ⟨ds, v, b⟩ := bd9 D
    exact ⟨fd, ds, fn_bad, D.kp, b, v⟩
  c10 := by
    obtain ⟨fd, D⟩ := D.D10
    obtain ⟨ds, v, b⟩ := bd10 D
    exact ⟨fd, ds, fn_bad, D.kp, b, v⟩
  c11 := by
    obtain ⟨fd, D⟩ := D.D11
    obtain ⟨ds, v, b⟩ := bd11 D
    exact ⟨_, fd, ds, M.mk1, fn_badM, b, v⟩
  c12 := by
    obtain ⟨fd, D⟩ := D.D12
    obtain ⟨ds, v, b⟩ := bd12 D
    exact ⟨fd, ds, fn_bad, D.kp, b, v⟩
  c13 := by
    obtain ⟨fd, D⟩ := D.D13
    obtain ⟨ds, v, b⟩ := bd13 D
    exact ⟨fd, ds, fn_bad, D.kp, b, v⟩
  c14 := by
    obtain ⟨fd, D⟩ := D.D14
    obtain ⟨ds, v, b⟩ := bd14 D
    exact ⟨fd, ds, fn_bad, D.kp, b, v⟩
  c15 := by
    obtain ⟨fd, D⟩ := D.D15
    obtain ⟨ds, v, b⟩ := bd15 D
    exact ⟨fd, ds, fn_bad, D.kp, b, v⟩
  c16 := by
    obtain ⟨fd, D⟩ := D.D16
    obtain ⟨ds, v, b⟩ := bd16 D
    exact ⟨fd, ds, fn_bad, D.kp, b, v⟩
  c17 := by
    obtain ⟨fd, D⟩ := D.D17
    obtain ⟨ds, v, b⟩ := bd17 D
    exact ⟨fd, ds, fn_bad, D.kp, b, v⟩
  c18 := by
    obtain ⟨fd, D⟩ := D.D18
    obtain ⟨ds, v, b⟩ := bd18 D
    exact ⟨fd, ds, fn_bad, D.kp, b, v⟩
  c19 := by
    obtain ⟨fd, D⟩ := D.D19
    obtain ⟨ds, v, b⟩ := bd19 D
    exact ⟨fd, ds, fn_bad, D.kp, b, v⟩
  c20 := by
    obtain ⟨fd, D⟩ := D.D20
    obtain ⟨ds, v, b⟩ := bd20 D
    exact ⟨fd, ds, fn_bad, D.kp, b, v⟩
  c21 := by
    obtain ⟨fd, D⟩ := D.D21
    obtain ⟨ds, v, b⟩ := bd21 D
    exact ⟨fd, ds, fn_bad, D.kp, b, v⟩
  c22 := by
    obtain ⟨fd, D⟩ := D.D22
    obtain ⟨ds, v, b⟩ := bd22 D
    exact ⟨fd, ds, fn_bad, D.kp, b, v⟩
  c23 := by
    obtain ⟨fd, D⟩ := D.D23
    obtain ⟨ds, v, b⟩ := bd23 D
    exact ⟨fd, ds, fn_bad, D.kp, b, v⟩
  c24 := by
    obtain ⟨fd, D⟩ := D.D24
    obtain ⟨ds, v, b⟩ := bd24 D
    exact ⟨fd, ds, fn_bad, D.kp, b, v⟩
  c25 := by
    obtain ⟨fd, D⟩ := D.D25
    obtain ⟨ds, v, b⟩ := bd25 D
    exact ⟨fd, ds, fn_bad, D.kp, b, v⟩
  c26 := by
    obtain ⟨fd, D⟩ := D.D26
    obtain ⟨ds, v, b⟩ := bd26 D
    exact ⟨fd, ds, fn_bad, D.kp, b, v⟩
  c27 := by
    obtain ⟨fd, D⟩ := D.D27
    obtain ⟨ds, v, b⟩ := bd27 D
    exact ⟨fd, ds, fn_bad, D.kp, b, v⟩
  c28 := by
    obtain ⟨fd, D⟩ := D.D28
    obtain ⟨ds, v, b⟩ := bd28 D
    exact ⟨fd, ds, fn_bad, D.kp, b, v⟩
  c29 := by
    obtain ⟨fd, D⟩ := D.D29
    obtain ⟨ds, v, b⟩ := bd29 D
    exact ⟨fd, ds, fn_bad, D.kp, b, v⟩
  k6_root := by
    obtain ⟨fd, D⟩ := D.D6
    obtain ⟨g, b⟩ := kb6_root D
    exact ⟨_, fd, g, M.mk0, fn_badM, b⟩
  k6_root_free := by
    obtain ⟨fd, D⟩ := D.D6
    obtain ⟨g, b⟩ := kb6_root_free D
    exact ⟨_, fd, g, M.mk0, fn_badM, b⟩
theorem ok_succ (O : Ok P w K mg base F n) (M : Mg w K mg) (D : Fd K) : Ok P w K mg base F (n + 1) where
  c0 := by
    obtain ⟨fd, D⟩ := D.D0
    obtain ⟨ds, v, b⟩ := bd0 D
    exact ⟨fd, ds, fn_own D sc0 rfl (fun cdv A outer s H E hr => s0 O M hr), D.kp, b, v⟩
  c1 := by
    obtain ⟨fd, D⟩ := D.D1
    obtain ⟨ds, v, b⟩ := bd1 D
    exact ⟨fd, ds, fn_own D sc1 rfl (fun cdv A outer s H E hr => s1 O M hr), D.kp, b, v⟩
  c2 := by
    obtain ⟨fd, D⟩ := D.D2
    obtain ⟨ds, v, b⟩ := bd2 D
    exact ⟨fd, ds, fn_own D sc2 rfl (fun cdv A outer s H E hr => s2 O M hr), D.kp, b, v⟩
  c3 := by
    obtain ⟨fd, D⟩ := D.D3
    obtain ⟨ds, v, b⟩ := bd3 D
    exact ⟨fd, ds, fn_own D sc3 rfl (fun cdv A outer s H E hr => s3 O M hr), D.kp, b, v⟩
  c4 := by
    obtain ⟨fd, D⟩ := D.D4
    obtain ⟨ds, v, b⟩ := bd4 D
    exact ⟨fd, ds, fn_own D sc4 rfl (fun cdv A outer s H E hr => s4 O M hr), D.kp, b, v⟩
  c5 := by
    obtain ⟨fd, D⟩ := D.D5
    obtain ⟨ds, v, b⟩ := bd5 D
    exact ⟨fd, ds, fn_own D sc5 rfl (fun cdv A outer s H E hr => s5 O M hr), D.kp, b, v⟩
  c6 := by
    obtain ⟨fd, D⟩ := D.D6
    obtain ⟨ds, v, b⟩ := bd6 D
    exact ⟨_, fd, ds, M.mk0, fn_make D sc6 rfl (fun cdv A outer s H E hr => s6 O M hr), b, v⟩
  c7 := by
    obtain ⟨fd, D⟩ := D.D7
    obtain ⟨ds, v, b⟩ := bd7 D
    exact ⟨fd, ds, fn_own D sc7 rfl (fun cdv A outer s H E hr => s7 O M hr), D.kp, b, v⟩
  c8 := by
    obtain ⟨fd, D⟩ := D.D8
    obtain ⟨ds, v, b⟩ := bd8 D
    exact ⟨fd, ds, fn_own D sc8 rfl (fun cdv A outer s H E hr => s8 O M hr), D.kp, b, v⟩
  c9 := by
    obtain ⟨fd, D⟩ := D.D9
    obtain ⟨ds, v, b⟩ := bd9 D
    exact ⟨fd, ds, fn_own D sc9 rfl (fun cdv A outer s H E hr => s9 O M hr), D.kp, b, v⟩
  c10 := by
    obtain ⟨fd, D⟩ := D.D10
    obtain ⟨ds, v, b⟩ := bd10 D
    exact ⟨fd, ds, fn_own D sc10 rfl (fun cdv A outer s H E hr => s10 O M hr), D.kp, b, v⟩
  c11 := by
    obtain ⟨fd, D⟩ := D.D11
    obtain ⟨ds, v, b⟩ := bd11 D
    exact ⟨_, fd, ds, M.mk1, fn_makeF D sc11 rfl (fun cdv A outer s H E hr => s11 O M hr), b, v⟩
  c12 := by
    obtain ⟨fd, D⟩ := D.D12
    obtain ⟨ds, v, b⟩ := bd12 D
    exact ⟨fd, ds, fn_full D sc12 rfl (fun cdv A outer s H E hr => s12 O M hr), D.kp, b, v⟩
  c13 := by
    obtain ⟨fd, D⟩ := D.D13
    obtain ⟨ds, v, b⟩ := bd13 D
    exact ⟨fd, ds, fn_full D sc13 rfl (fun cdv A outer s H E hr => s13 O M hr), D.kp, b, v⟩
  c14 := by
    obtain ⟨fd, D⟩ := D.D14
    obtain ⟨ds, v, b⟩ := bd14 D
    exact ⟨fd, ds, fn_full D sc14 rfl (fun cdv A outer s H E hr => s14 O M hr), D.kp, b, v⟩
  c15 := by
    obtain ⟨fd, D⟩ := D.D15
    obtain ⟨ds, v, b⟩ := bd15 D
    exact ⟨fd, ds, fn_own D sc15 rfl (fun cdv A outer s H E hr => s15 O M hr), D.kp, b, v⟩
  c16 := by
    obtain ⟨fd, D⟩ := D.D16
    obtain ⟨ds, v, b⟩ := bd16 D
    exact ⟨fd, ds, fn_own D sc16 rfl (fun cdv A outer s H E hr => s16 O M hr), D.kp, b, v⟩
  c17 := by
    obtain ⟨fd, D⟩ := D.D17
    obtain ⟨ds, v, b⟩ := bd17 D
    exact ⟨fd, ds, fn_own D sc17 rfl (fun cdv A outer s H E hr => s17 O M hr), D.kp, b, v⟩
  c18 := by
    obtain ⟨fd, D⟩ := D.D18
    obtain ⟨ds, v, b⟩ := bd18 D
    exact ⟨fd, ds, fn_own D sc18 rfl (fun cdv A outer s H E hr => s18 O M hr), D.kp, b, v⟩
  c19 := by
    obtain ⟨fd, D⟩ := D.D19
    obtain ⟨ds, v, b⟩ := bd19 D
    exact ⟨fd, ds, fn_own D sc19 rfl (fun cdv A outer s H E hr => s19 O M hr), D.kp, b, v⟩
  c20 := by
    obtain ⟨fd, D⟩ := D.D20
    obtain ⟨ds, v, b⟩ := bd20 D
    exact ⟨fd, ds, fn_own D sc20 rfl (fun cdv A outer s H E hr => s20 O M hr), D.kp, b, v⟩
  c21 := by
    obtain ⟨fd, D⟩ := D.D21
    obtain ⟨ds, v, b⟩ := bd21 D
    exact ⟨fd, ds, fn_own D sc21 rfl (fun cdv A outer s H E hr => s21 O M hr), D.kp, b, v⟩
  c22 := by
    obtain ⟨fd, D⟩ := D.D22
    obtain ⟨ds, v, b⟩ := bd22 D
    exact ⟨fd, ds, fn_own D sc22 rfl (fun cdv A outer s H E hr => s22 O M hr), D.kp, b, v⟩
  c23 := by
    obtain ⟨fd, D⟩ := D.D23
    obtain ⟨ds, v, b⟩ := bd23 D
    exact ⟨fd, ds, fn_own D sc23 rfl (fun cdv A outer s H E hr => s23 O M hr), D.kp, b, v⟩
  c24 := by
    obtain ⟨fd, D⟩ := D.D24
    obtain ⟨ds, v, b⟩ := bd24 D
    exact ⟨fd, ds, fn_own D sc24 rfl (fun cdv A outer s H E hr => s24 O M hr), D.kp, b, v⟩
  c25 := by
    obtain ⟨fd, D⟩ := D.D25
    obtain ⟨ds, v, b⟩ := bd25 D
    exact ⟨fd, ds, fn_own D sc25 rfl (fun cdv A outer s H E hr => s25 O M hr), D.kp, b, v⟩
  c26 := by
    obtain ⟨fd, D⟩ := D.D26
    obtain ⟨ds, v, b⟩ := bd26 D
    exact ⟨fd, ds, fn_own D sc26 rfl (fun cdv A outer s H E hr => s26 O M hr), D.kp, b, v⟩
  c27 := by
    obtain ⟨fd, D⟩ := D.D27
    obtain ⟨ds, v, b⟩ := bd27 D
    exact ⟨fd, ds, fn_full D sc27 rfl (fun cdv A outer s H E hr => s27 O M hr), D.kp, b, v⟩
  c28 := by
    obtain ⟨fd, D⟩ := D.D28
    obtain ⟨ds, v, b⟩ := bd28 D
    exact ⟨fd, ds, fn_own D sc28 rfl (fun cdv A outer s H E hr => s28 O M hr), D.kp, b, v⟩
  c29 := by
    obtain ⟨fd, D⟩ := D.D29
    obtain ⟨ds, v, b⟩ := bd29 D
    exact ⟨fd, ds, fn_full D sc29 rfl (fun cdv A outer s H E hr => s29 O M hr), D.kp, b, v⟩
  k6_root := by
    obtain ⟨fd, D⟩ := D.D6
    obtain ⟨g, b⟩ := kb6_root D
    exact ⟨_, fd, g, M.mk0, fn_make D sc6 rfl (fun cdv A outer s H E hr => s6 O M hr), b⟩
  k6_root_free := by
    obtain ⟨fd, D⟩ := D.D6
    obtain ⟨g, b⟩ := kb6_root_free D
    exact ⟨_, fd, g, M.mk0, fn_make D sc6 rfl (fun cdv A outer s H E hr => s6 O M hr), b⟩
theorem ok_all (M : Mg w K mg) (D : Fd K) : ∀ n, Ok P w K mg base F n
  | 0 => ok_zero D M
  | n + 1 => ok_succ (ok_all M D n) M D
end
end Lw
end
section
set_option Elab.async false
set_option linter.all false
set_option maxRecDepth 100000
set_option autoImplicit false
set_option maxHeartbeats 1000000
noncomputable section
namespace Fw
open PySem PySem.Spec PyProof.Rows L2 He
def asR (lo k : Nat) : List Addr := mainGlobals :: List.range' lo k
def obsR (as : List Addr) (fa : List Fa) (fn : List DefD) (ts : List Tab) (ex : PySem.W.Frag → Bool) (g : Addr → Option Obj) : AlX := (obsT fa fn ts (frT g as), ex (frT g as) && tabsB g [] (frT g as))
theorem saysR_of {as : List Addr} {fa : List Fa} {fn : List DefD} {ts : List Tab} {ex : PySem.W.Frag → Bool} {w : World} {h : Heap} (e : obsR as fa fn ts ex h.get? = valX fn ts w) : SaysX fa fn ts [] ex w h (frT h.get? as) := by
  have e1 : obsT fa fn ts (frT h.get? as) = valT fn ts w := congrArg (fun z : AlX => z.1) e
  have e2 : (ex (frT h.get? as) && tabsB h.get? [] (frT h.get? as)) = true := congrArg (fun z : AlX => z.2) e
  obtain ⟨h1, h2⟩ := ba e2
  exact ⟨e1, h1, fun p hp => (nomatch hp), fun p hp => (nomatch hp), fun p hp => (nomatch hp)⟩
def hookR (as : List Addr) (fa : List Fa) (fn : List DefD) (ts : List Tab) (ex : PySem.W.Frag → Bool) : PySem.W.Hook where
  α := AlX
  obs := fun s => obsR as fa fn ts ex s.heap.get?
  val := fun w => valX fn ts w
  says := fun w h => ∃ K : PySem.W.Frag, K.In h ∧ SaysX fa fn ts [] ex w h K
  of := fun _ _ e => ⟨_, frT_in, saysR_of e⟩
  keeps := fun _ _ _ ⟨K, hK, c⟩ k => ⟨K, PySem.W.Frag.In.keeps hK k, ⟨c.t, c.more, c.hd, c.out, fun p hp => k _ _ (c.empty p hp)⟩⟩
theorem obsR_eq {as : List Addr} {fa : List Fa} {fn : List DefD} {ts : List Tab} {ex : PySem.W.Frag → Bool} {g : Addr → Option Obj} {s : Shared} (h : ∀ a, g a = s.heap.get? a) : obsR as fa fn ts ex g = (hookR as fa fn ts ex).obs s := by
  have e : g = s.heap.get? := funext h
  rw [e] <;> rfl
abbrev KR (as : List Addr) (s : PySem.W.SharedT) : PySem.W.Frag := frT (HandSHeadRun.getT s) as
section
open PySem.W HandSHeadRun
variable {r : OpenRow} {q : Program} {M : Nat} {loose : List PySem.Str} {w : World} {as : List Addr} {fa : List Fa} {fn : List DefD} {ts : List Tab} {ex : PySem.W.Frag → Bool}
def Seen (r : OpenRow) (M : Nat) (w : World) {β : Type} (f : SharedT → β) (b : β) : Prop := ∀ os : OsState, (endF (stepQ (denQ tabQ) r.prog w) M r.prog w os).map f = some b
abbrev lookA (r : OpenRow) (q : Program) (loose : List PySem.Str) (w : World) := fun (s : SharedT) => (looksF r.prog (boot_heap w.params) s.abs, seenQ q loose (importedModules r.prog.main.body) (fun s => xlAt q [] s && recOk r.toRowW.records s) s.abs)
end
end Fw
end
section
set_option Elab.async false
set_option linter.all false
set_option maxRecDepth 100000
set_option maxHeartbeats 0
namespace Lw
open PySem PySem.Spec PyProof.Rows L2 Fw
abbrev RwL : PySem.W.OpenRow := PySem.W.OpenLaw.row PySem.Challenge.rw_appendedbook_k76_books_that_read_alike
def lawIx : List Stmt → Nat → Nat
  | [], _ => 0
  | .FunctionDef n _ _ _ _ _ _ _ _ _ :: r, i => if n = ("law" : Str) then i else lawIx r (i + 1)
  | _ :: r, i => lawIx r (i + 1)
def ix : Nat := lawIx RwL.prog.main.body 0
def namesOf (ss : List Stmt) : List Str := (ss.filterMap fun s => match s with
  | .FunctionDef n _ _ _ _ _ _ _ _ _ => if n = ("law" : Str) then none else some n
  | .Assign [.Name n _] _ _ => if n = ("__name__" : Str) then none else some n
  | .ClassDef n _ _ _ _ _ _ _ _ _ _ => some n
  | _ => none)
def names : List Str := namesOf RwL.prog.main.body
def fas : List He.Fa := [.glo "Beside", .glo "Book", .glo "_law_alike", .glo "_law_bent", .glo "_law_called", .glo "_law_held_in", .glo "_law_leads", .glo "_law_line", .glo "_law_linked", .glo "_law_otherwise", .glo "_law_pool", .glo "_law_ref_in", .glo "_law_same", .glo "_law_take", .glo "_law_things", .glo "is_edition", .glo "is_from", .glo "is_kind", .glo "is_number", .glo "is_reference", .glo "is_whole", .glo "law", .glo "read_alike", .free "all", .free "bool", .free "dict", .free "int", .free "isinstance", .free "len", .free "list", .free "max", .free "min", .free "range", .free "repr", .free "sorted", .free "str", .free "tuple", .free "zip", .int "MOST_EDITION" 99, .int "MOST_NUMBER" 200, .cls "Book", .mkr "Book", .cls "Beside", .mkr "Beside", .noat "Book" "own_free", .noat "Book" "own_root", .noat "Book" "own_things", .noat "Beside" "led_back", .noat "Beside" "led_there", .noat "Beside" "own_books", .noat "Beside" "waiting", .meth "Book" "at", .meth "Book" "edition", .meth "Book" "leads", .meth "Book" "root", .meth "Beside" "are_alike", .meth "Beside" "are_rows_alike", .meth "Beside" "is_met"]
def fns : List He.DefD := [d0, d1, d2, d3, d4, d5, d6, d7, d8, d9, d10, d11, d12, d13, d14, d15, d16, d17, d18, d19, d20, d21, d22, d23, d24, d25, d26, d27, d28, d29]
def tbs : List He.Tab := []
def emB (K : PySem.W.Frag) : Bool := match K.lookup (empA K) with
  | some ⟨.type c, none, .seq its _, _⟩ => decide (c = "tuple") && its.isEmpty
  | _ => false
def exB (K : PySem.W.Frag) : Bool := emB K && true
abbrev hAs : List Addr := asR 0 6000
abbrev hk : PySem.W.Hook := hookR hAs fas fns tbs exB
abbrev ob (s : PySem.W.SharedT) : He.AlX := obsR hAs fas fns tbs exB (HandSHeadRun.getT s)
theorem ob_eq (s : PySem.W.SharedT) : ob s = hk.obs s.abs := obsR_eq (HandSHeadRun.getT_eq s)
theorem runEq (w : World) : HandSHeadRun.RunEq RwL (PySem.W.view RwL.prog [ix]) hk ob 6000 names w := by
  intro os
  kernel_rfl
theorem emB_ok {K : PySem.W.Frag} (h : emB K = true) : KEmp K (empA K) := by
  unfold emB at h
  split at h
  · rename_i c its n sl e
    simp only [Bool.and_eq_true, decide_eq_true_eq] at h
    obtain ⟨rfl, h2⟩ := h
    have : its = #[] := Array.isEmpty_iff.mp h2
    subst this
    exact ⟨n, sl, e⟩
  · cases h
theorem and1 {a b : Bool} (h : (a && b) = true) : a = true := (Bool.and_eq_true a b ▸ h : a = true ∧ b = true).1
section
variable {K : PySem.W.Frag} {h : Heap} {mg : Str → Option Value} {w : World}
theorem mg_ok (X : K.In h) (G : h.Ns mainGlobals mg) (t : He.SaysT fas fns tbs w K) (e : exB K = true) : Mg w K mg where
  g_Beside := He.glo_ok X G (t.d.fact 0 rfl)
  g_Book := He.glo_ok X G (t.d.fact 1 rfl)
  g__law_alike := He.glo_ok X G (t.d.fact 2 rfl)
  g__law_bent := He.glo_ok X G (t.d.fact 3 rfl)
  g__law_called := He.glo_ok X G (t.d.fact 4 rfl)
  g__law_held_in := He.glo_ok X G (t.d.fact 5 rfl)
  g__law_leads := He.glo_ok X G (t.d.fact 6 rfl)
  g__law_line := He.glo_ok X G (t.d.fact 7 rfl)
  g__law_linked := He.glo_ok X G (t.d.fact 8 rfl)
  g__law_otherwise := He.glo_ok X G (t.d.fact 9 rfl)
  g__law_pool := He.glo_ok X G (t.d.fact 10 rfl)
  g__law_ref_in := He.glo_ok X G (t.d.fact 11 rfl)
  g__law_same := He.glo_ok X G (t.d.fact 12 rfl)
  g__law_take := He.glo_ok X G (t.d.fact 13 rfl)
  g__law_things := He.glo_ok X G (t.d.fact 14 rfl)
  g_is_edition := He.glo_ok X G (t.d.fact 15 rfl)
  g_is_from := He.glo_ok X G (t.d.fact 16 rfl)
  g_is_kind := He.glo_ok X G (t.d.fact 17 rfl)
  g_is_number := He.glo_ok X G (t.d.fact 18 rfl)
  g_is_reference := He.glo_ok X G (t.d.fact 19 rfl)
  g_is_whole := He.glo_ok X G (t.d.fact 20 rfl)
  g_read_alike := He.glo_ok X G (t.d.fact 22 rfl)
  f_all := He.free_ok X G (t.d.fact 23 rfl)
  f_bool := He.free_ok X G (t.d.fact 24 rfl)
  f_dict := He.free_ok X G (t.d.fact 25 rfl)
  f_int := He.free_ok X G (t.d.fact 26 rfl)
  f_isinstance := He.free_ok X G (t.d.fact 27 rfl)
  f_len := He.free_ok X G (t.d.fact 28 rfl)
  f_list := He.free_ok X G (t.d.fact 29 rfl)
  f_max := He.free_ok X G (t.d.fact 30 rfl)
  f_min := He.free_ok X G (t.d.fact 31 rfl)
  f_range := He.free_ok X G (t.d.fact 32 rfl)
  f_repr := He.free_ok X G (t.d.fact 33 rfl)
  f_sorted := He.free_ok X G (t.d.fact 34 rfl)
  f_str := He.free_ok X G (t.d.fact 35 rfl)
  f_tuple := He.free_ok X G (t.d.fact 36 rfl)
  f_zip := He.free_ok X G (t.d.fact 37 rfl)
  MOST_EDITION := He.int_ok X G (t.d.fact 38 rfl)
  MOST_NUMBER := He.int_ok X G (t.d.fact 39 rfl)
  cls0 := He.cls_ok (t.d.fact 40 rfl)
  mk0 := He.mkr_ok (t.d.fact 41 rfl)
  cls1 := He.cls_ok (t.d.fact 42 rfl)
  mk1 := He.mkr_ok (t.d.fact 43 rfl)
  no0_own_free := He.noat_ok (t.d.fact 44 rfl)
  no0_own_root := He.noat_ok (t.d.fact 45 rfl)
  no0_own_things := He.noat_ok (t.d.fact 46 rfl)
  no1_led_back := He.noat_ok (t.d.fact 47 rfl)
  no1_led_there := He.noat_ok (t.d.fact 48 rfl)
  no1_own_books := He.noat_ok (t.d.fact 49 rfl)
  no1_waiting := He.noat_ok (t.d.fact 50 rfl)
  m0_at := He.meth_ok (t.d.fact 51 rfl)
  m0_edition := He.meth_ok (t.d.fact 52 rfl)
  m0_leads := He.meth_ok (t.d.fact 53 rfl)
  m0_root := He.meth_ok (t.d.fact 54 rfl)
  m1_are_alike := He.meth_ok (t.d.fact 55 rfl)
  m1_are_rows_alike := He.meth_ok (t.d.fact 56 rfl)
  m1_is_met := He.meth_ok (t.d.fact 57 rfl)
  emp := emB_ok (and1 e)
theorem fd_ok (c : He.SaysD fas fns K) : Fd K where
  D0 := c.def_ 0 rfl
  D1 := c.def_ 1 rfl
  D2 := c.def_ 2 rfl
  D3 := c.def_ 3 rfl
  D4 := c.def_ 4 rfl
  D5 := c.def_ 5 rfl
  D6 := c.def_ 6 rfl
  D7 := c.def_ 7 rfl
  D8 := c.def_ 8 rfl
  D9 := c.def_ 9 rfl
  D10 := c.def_ 10 rfl
  D11 := c.def_ 11 rfl
  D12 := c.def_ 12 rfl
  D13 := c.def_ 13 rfl
  D14 := c.def_ 14 rfl
  D15 := c.def_ 15 rfl
  D16 := c.def_ 16 rfl
  D17 := c.def_ 17 rfl
  D18 := c.def_ 18 rfl
  D19 := c.def_ 19 rfl
  D20 := c.def_ 20 rfl
  D21 := c.def_ 21 rfl
  D22 := c.def_ 22 rfl
  D23 := c.def_ 23 rfl
  D24 := c.def_ 24 rfl
  D25 := c.def_ 25 rfl
  D26 := c.def_ 26 rfl
  D27 := c.def_ 27 rfl
  D28 := c.def_ 28 rfl
  D29 := c.def_ 29 rfl
end
end Lw
end
section
set_option Elab.async false
set_option linter.all false
set_option maxRecDepth 100000
set_option maxHeartbeats 0
namespace Lw
open PySem PySem.Spec PyProof.Rows L2 Fw
def Plain : Prop := ∀ ns : List Int, ns.length ≤ 63 → ∃ h', run 1000000 60 ix_law [.roi ns] [] = .ok (.bl true) h'
def spLaw (K : PySem.W.Frag) : Sp := fun vs H Q _ => ∃ (a : Addr) (ns : List Int), vs = [.ref a] ∧ ns.length ≤ 63 ∧ SqL K H a (ns.map V.int) ∧ ∀ H', Q (.bl true) H'
theorem sp_law (hp : Plain) {K : PySem.W.Frag} {vs : List V} {H : Hp} {Q : VK} {E : XK} (p : spLaw K vs H Q E) : spF (Wk K) (run 1000000 60 ix_law) vs H Q E := by
  obtain ⟨a, ns, rfl, hl, hs, hq⟩ := p
  obtain ⟨h', e⟩ := hp ns hl
  refine ⟨[], [], [], [.roi ns], ⟨rfl, .nil, (fun z hz => by cases hz), (fun n o a e => by simp at e)⟩, .cons (.roi ?_) .nil, ?_⟩
  · rcases hs with hs | hs
    · exact .inl ⟨by simp, by simp, hs⟩
    · exact .inr hs
  · rw [e]
    intro ρ' H' x S v rv
    cases rv
    exact hq H'
def CXs : CXT := fun outer H s E e s' => ∃ P w, L2.CX P w outer H s E e s'
theorem cxs_no {H : Hp} {s s' : Shared} {e : Value} (h : CXs [] H s (fun _ _ _ => False) e s') : False := by
  obtain ⟨P, w, a, B, H', cls, d, _, _, _, _, _, _, _, q⟩ := h
  exact q
theorem law_fn {P : Program} {w : World} {K : PySem.W.Frag} {h : Heap} {mg : Str → Option Value} {f : Addr} (hp : Plain) (X : K.In h) (G : h.Ns mainGlobals mg) (hfa : mg ("law" : Str) = some (.ref f)) (t : He.SaysT fas fns tbs w K) (e : exB K = true) :
    ∃ fd : FuncData, (∀ (s : Shared) (v : Value), BindsTo s fd ⟨[v], []⟩ [("_law_script", v)]) ∧ ∀ base : Heap, K.In base → base.Ns mainGlobals mg → FnG P w K mg base CXs 120 f fd ["_law_script"] (spLaw K) := by
  have M := mg_ok X G t e
  have D := fd_ok t.d
  obtain ⟨fd, F⟩ := D.D29
  have e2 := hfa.symm.trans (He.glo_ok X G (t.d.fact 21 (f := .glo "law") rfl))
  cases e2
  have b := FunD.bindsA (ps := ["_law_script"]) F fun _ _ _ _ _ _ us hl => match us, hl with | [_], _ => rfl
  refine ⟨fd, fun s v => b s [v] rfl, fun base _ _ => ?_⟩
  have O : Ok P w K mg base 1000000 59 := ok_all M D 59
  have k : FnG P w K mg base (L2.CX P w) (2 * 59 + 1 + 1) (He.fAd K d29.at_) fd ps29 (spF (Wk K) (run 1000000 60 ix_law)) := fn_full F sc29 rfl (fun cdv A outer s H E hr => s29 O M hr)
  exact (k.imp fun vs H Q E p => sp_law hp p).cx fun _ _ _ _ _ _ q => ⟨P, w, q⟩
end Lw
open PySem PySem.W PySem.Calls PyProof.Rows
theorem holds76 (hp : Lw.Plain) : PySem.Challenge.rw_appendedbook_k76_books_that_read_alike.Holds := by
  w_on; o_law
  refine HandSHeadRun.head_any (r := Lw.RwL) (q := view Lw.RwL.prog [Lw.ix]) (H := Lw.hk) (ob := Lw.ob) (M := 6000) (loose := Lw.names) (d := HandSHeadRun.topDef Lw.RwL.prog Lw.ix) (kwd := []) Lw.ob_eq
    (by kernel_rfl) (fun s => by kernel_rfl) Lw.runEq (by kernel_rfl) (by kernel_rfl) (by kernel_rfl) (by rfl) (by first | assumption | decide +kernel) (by decide +kernel) ⟨rfl, rfl, rfl, rfl, rfl, by decide +kernel⟩ ?hw ?hc
  case hw => w_witness2
  case hc =>
    refine Fw.walk_ofG (l := PySem.Challenge.rw_appendedbook_k76_books_that_read_alike) (n := 63) (k := 120) (x := "_law_script") (CX := Lw.CXs) rfl (by decide) (by kernel_rfl) ⟨rfl, by decide, by decide, rfl⟩ ?F (fun _ _ _ _ z => Lw.cxs_no z)
    intro w mg fa h Y G hmg0
    obtain ⟨K, KX, c⟩ := Y
    have hmg : mg ("law" : PySem.Str) = some (.ref fa) := by
      have e : (HandSHeadRun.topDef Lw.RwL.prog Lw.ix).name = ("law" : PySem.Str) := by kernel_rfl
      rw [← e]
      exact hmg0
    obtain ⟨fd, hb, hF⟩ := Lw.law_fn (P := (PySem.Challenge.rw_appendedbook_k76_books_that_read_alike).prog) (w := w) hp KX G hmg c.t c.more
    exact ⟨K, fd, Lw.spLaw K, KX, hb, fun H a ns hl _ hS => ⟨a, ns, rfl, hl, hS, fun _ => rfl⟩, hF⟩
end
section
set_option linter.all false
set_option autoImplicit true
namespace Pl
open Fw
variable {σ : Sg} {h : Hh} {a b c t : TM} {as ks : AM} {p q : BM} {x : Exn} {d e f : D} {ds es : List D} {s s' : SM}
@[simp] theorem eC_eq : eC d σ h = .ok d h := (rfl)
@[simp] theorem eV_eq {i : Nat} : eV i σ h = opt (sget σ i) h := (rfl)
@[simp] theorem aNil_eq : aNil σ h = .ok [] h := (rfl)
@[simp] theorem eDct0_eq : eDct0 σ h = .ok (.dct []) h := (rfl)
@[simp] theorem eNewD_eq : eNewD σ h = .ok (.ref h.length) (h ++ [.dct []]) := (rfl)
@[simp] theorem sNil_eq : sNil σ h = .nx σ h := (rfl)
@[simp] theorem sRetN_eq : sRetN σ h = .rt .non h := (rfl)
@[simp] theorem sBrk_eq : sBrk σ h = .bk σ h := (rfl)
@[simp] theorem sCnt_eq : sCnt σ h = .ct σ h := (rfl)
@[simp] theorem bYes_eq : bYes σ h = .ok true h := (rfl)
@[simp] theorem sRaise_eq {i : Nat} : sRaise i σ h = .xn ⟨i, none⟩ σ h := (rfl)
@[simp] theorem sCons_eq : sCons s s' σ h = (s σ h).then_ s' := (rfl)
def kA2 (d : D) (r : R (List D)) : R (List D) := r.bind fun ds h => .ok (d :: ds) h
@[simp] theorem kA2_ok {d : D} {ds : (List D)} : kA2 d (.ok ds h) = .ok (d :: ds) h := (rfl)
@[simp] theorem kA2_xn {d : D} : kA2 d (.xn x h) = .xn x h := (rfl)
@[simp] theorem kA2_bad {d : D} : kA2 d .bad = .bad := (rfl)
def kA1 (as : AM) (σ : Sg) (r : R D) : R (List D) := r.bind fun d h => kA2 d (as σ h)
@[simp] theorem kA1_eq : aCons a as σ h = kA1 as σ (a σ h) := (rfl)
@[simp] theorem kA1_ok  {d : D} : kA1 as σ (.ok d h) = kA2 d (as σ h) := (rfl)
@[simp] theorem kA1_xn  : kA1 as σ (.xn x h) = .xn x h := (rfl)
@[simp] theorem kA1_bad  : kA1 as σ .bad = .bad := (rfl)
def kTup  (r : R (List D)) : R D := r.bind fun ds h => if ds.length ≤ line then .ok (.tup ds) h else .bad
@[simp] theorem kTup_eq : eTup as σ h = kTup  (as σ h) := (rfl)
@[simp] theorem kTup_ok  {ds : (List D)} : kTup  (.ok ds h) = if ds.length ≤ line then .ok (.tup ds) h else .bad := (rfl)
@[simp] theorem kTup_xn  : kTup  (.xn x h) = .xn x h := (rfl)
@[simp] theorem kTup_bad  : kTup  .bad = .bad := (rfl)
def kLst  (r : R (List D)) : R D := r.bind fun ds h => if ds.length ≤ line then .ok (.lst ds) h else .bad
@[simp] theorem kLst_eq : eLst as σ h = kLst  (as σ h) := (rfl)
@[simp] theorem kLst_ok  {ds : (List D)} : kLst  (.ok ds h) = if ds.length ≤ line then .ok (.lst ds) h else .bad := (rfl)
@[simp] theorem kLst_xn  : kLst  (.xn x h) = .xn x h := (rfl)
@[simp] theorem kLst_bad  : kLst  .bad = .bad := (rfl)
def kNewL  (r : R (List D)) : R D := r.bind fun ds h => if ds.length ≤ line then .ok (.ref h.length) (h ++ [.lst ds]) else .bad
@[simp] theorem kNewL_eq : eNewL as σ h = kNewL  (as σ h) := (rfl)
@[simp] theorem kNewL_ok  {ds : (List D)} : kNewL  (.ok ds h) = if ds.length ≤ line then .ok (.ref h.length) (h ++ [.lst ds]) else .bad := (rfl)
@[simp] theorem kNewL_xn  : kNewL  (.xn x h) = .xn x h := (rfl)
@[simp] theorem kNewL_bad  : kNewL  .bad = .bad := (rfl)
def kBin2 (op : Bop) (d : D) (r : R D) : R D := r.bind fun e h => opt (binop h op d e) h
@[simp] theorem kBin2_ok {op : Bop} {d : D} {e : D} : kBin2 op d (.ok e h) = opt (binop h op d e) h := (rfl)
@[simp] theorem kBin2_xn {op : Bop} {d : D} : kBin2 op d (.xn x h) = .xn x h := (rfl)
@[simp] theorem kBin2_bad {op : Bop} {d : D} : kBin2 op d .bad = .bad := (rfl)
def kBin (op : Bop) (b : TM) (σ : Sg) (r : R D) : R D := r.bind fun d h => kBin2 op d (b σ h)
@[simp] theorem kBin_eq : eBin op a b σ h = kBin op b σ (a σ h) := (rfl)
@[simp] theorem kBin_ok {op : Bop} {d : D} : kBin op b σ (.ok d h) = kBin2 op d (b σ h) := (rfl)
@[simp] theorem kBin_xn {op : Bop} : kBin op b σ (.xn x h) = .xn x h := (rfl)
@[simp] theorem kBin_bad {op : Bop} : kBin op b σ .bad = .bad := (rfl)
def kCmp2 (op : Cop) (d : D) (r : R D) : R D := r.bind fun e h => opt ((cmpop h op d e).map .bl) h
@[simp] theorem kCmp2_ok {op : Cop} {d : D} {e : D} : kCmp2 op d (.ok e h) = opt ((cmpop h op d e).map .bl) h := (rfl)
@[simp] theorem kCmp2_xn {op : Cop} {d : D} : kCmp2 op d (.xn x h) = .xn x h := (rfl)
@[simp] theorem kCmp2_bad {op : Cop} {d : D} : kCmp2 op d .bad = .bad := (rfl)
def kCmp (op : Cop) (b : TM) (σ : Sg) (r : R D) : R D := r.bind fun d h => kCmp2 op d (b σ h)
@[simp] theorem kCmp_eq : eCmp op a b σ h = kCmp op b σ (a σ h) := (rfl)
@[simp] theorem kCmp_ok {op : Cop} {d : D} : kCmp op b σ (.ok d h) = kCmp2 op d (b σ h) := (rfl)
@[simp] theorem kCmp_xn {op : Cop} : kCmp op b σ (.xn x h) = .xn x h := (rfl)
@[simp] theorem kCmp_bad {op : Cop} : kCmp op b σ .bad = .bad := (rfl)
def kAnd1 (o : Option Bool) (d : D) (b : TM) (σ : Sg) (h : Hh) : R D := match o with
  | none => .bad
  | some true => b σ h
  | some false => .ok d h
@[simp] theorem kAnd1_t : kAnd1 (some true) d b σ h = b σ h := (rfl)
@[simp] theorem kAnd1_f : kAnd1 (some false) d b σ h = .ok d h := (rfl)
def kOr1 (o : Option Bool) (d : D) (b : TM) (σ : Sg) (h : Hh) : R D := match o with
  | none => .bad
  | some true => .ok d h
  | some false => b σ h
@[simp] theorem kOr1_t : kOr1 (some true) d b σ h = .ok d h := (rfl)
@[simp] theorem kOr1_f : kOr1 (some false) d b σ h = b σ h := (rfl)
def kAnd (b : TM) (σ : Sg) (r : R D) : R D := r.bind fun d h => kAnd1 (tru h d) d b σ h
@[simp] theorem kAnd_eq : eAnd a b σ h = kAnd b σ (a σ h) := (rfl)
@[simp] theorem kAnd_ok  {d : D} : kAnd b σ (.ok d h) = kAnd1 (tru h d) d b σ h := (rfl)
@[simp] theorem kAnd_xn  : kAnd b σ (.xn x h) = .xn x h := (rfl)
@[simp] theorem kAnd_bad  : kAnd b σ .bad = .bad := (rfl)
def kOr (b : TM) (σ : Sg) (r : R D) : R D := r.bind fun d h => kOr1 (tru h d) d b σ h
@[simp] theorem kOr_eq : eOr a b σ h = kOr b σ (a σ h) := (rfl)
@[simp] theorem kOr_ok  {d : D} : kOr b σ (.ok d h) = kOr1 (tru h d) d b σ h := (rfl)
@[simp] theorem kOr_xn  : kOr b σ (.xn x h) = .xn x h := (rfl)
@[simp] theorem kOr_bad  : kOr b σ .bad = .bad := (rfl)
def kNot  (r : R D) : R D := r.bind fun d h => opt ((tru h d).map fun t => .bl (!t)) h
@[simp] theorem kNot_eq : eNot a σ h = kNot  (a σ h) := (rfl)
@[simp] theorem kNot_ok  {d : D} : kNot  (.ok d h) = opt ((tru h d).map fun t => .bl (!t)) h := (rfl)
@[simp] theorem kNot_xn  : kNot  (.xn x h) = .xn x h := (rfl)
@[simp] theorem kNot_bad  : kNot  .bad = .bad := (rfl)
def kIte1 (k : Bool) (a b : TM) (σ : Sg) (h : Hh) : R D := if k then a σ h else b σ h
@[simp] theorem kIte1_t : kIte1 true a b σ h = a σ h := (rfl)
@[simp] theorem kIte1_f : kIte1 false a b σ h = b σ h := (rfl)
def kIte (a : TM) (b : TM) (σ : Sg) (r : R Bool) : R D := r.bind fun k h => kIte1 k a b σ h
@[simp] theorem kIte_eq : eIte p a b σ h = kIte a b σ (p σ h) := (rfl)
@[simp] theorem kIte_ok  {k : Bool} : kIte a b σ (.ok k h) = kIte1 k a b σ h := (rfl)
@[simp] theorem kIte_xn  : kIte a b σ (.xn x h) = .xn x h := (rfl)
@[simp] theorem kIte_bad  : kIte a b σ .bad = .bad := (rfl)
def neg1 (d : D) (h : Hh) : R D := match d with
  | .int i => .ok (.int (-i)) h
  | _ => .bad
@[simp] theorem neg1_int {i : Int} : neg1 (.int i) h = .ok (.int (-i)) h := (rfl)
def kNeg  (r : R D) : R D := r.bind fun d h => neg1 d h
@[simp] theorem kNeg_eq : eNeg a σ h = kNeg  (a σ h) := (rfl)
@[simp] theorem kNeg_ok  {d : D} : kNeg  (.ok d h) = neg1 d h := (rfl)
@[simp] theorem kNeg_xn  : kNeg  (.xn x h) = .xn x h := (rfl)
@[simp] theorem kNeg_bad  : kNeg  .bad = .bad := (rfl)
def kCall (k : List D → Hh → R D) (r : R (List D)) : R D := r.bind fun ds h => k ds h
@[simp] theorem kCall_eq : eCall k as σ h = kCall k (as σ h) := (rfl)
@[simp] theorem kCall_ok {k : List D → Hh → R D} {ds : (List D)} : kCall k (.ok ds h) = k ds h := (rfl)
@[simp] theorem kCall_xn {k : List D → Hh → R D} : kCall k (.xn x h) = .xn x h := (rfl)
@[simp] theorem kCall_bad {k : List D → Hh → R D} : kCall k .bad = .bad := (rfl)
def kMeth2 (k : List D → Hh → R D) (d : D) (r : R (List D)) : R D := r.bind fun ds h => k (d :: ds) h
@[simp] theorem kMeth2_ok {k : List D → Hh → R D} {d : D} {ds : (List D)} : kMeth2 k d (.ok ds h) = k (d :: ds) h := (rfl)
@[simp] theorem kMeth2_xn {k : List D → Hh → R D} {d : D} : kMeth2 k d (.xn x h) = .xn x h := (rfl)
@[simp] theorem kMeth2_bad {k : List D → Hh → R D} {d : D} : kMeth2 k d .bad = .bad := (rfl)
def kMeth1 (k : List D → Hh → R D) (o : Option (Nat × List (Nat × D))) (cls : Nat) (d : D) (as : AM) (σ : Sg) (h : Hh) : R D := match o with
  | some (j, _) => if j = cls then kMeth2 k d (as σ h) else .bad
  | none => .bad
@[simp] theorem kMeth1_ok {k : List D → Hh → R D} {cls : Nat} {fs : List (Nat × D)} : kMeth1 k (some (cls, fs)) cls d as σ h = kMeth2 k d (as σ h) := by simp [kMeth1]
def kMeth (k : List D → Hh → R D) (cls : Nat) (as : AM) (σ : Sg) (r : R D) : R D := r.bind fun d h => kMeth1 k (asObj h d) cls d as σ h
@[simp] theorem kMeth_eq : eMeth k cls a as σ h = kMeth k cls as σ (a σ h) := (rfl)
@[simp] theorem kMeth_ok {k : List D → Hh → R D} {cls : Nat} {d : D} : kMeth k cls as σ (.ok d h) = kMeth1 k (asObj h d) cls d as σ h := (rfl)
@[simp] theorem kMeth_xn {k : List D → Hh → R D} {cls : Nat} : kMeth k cls as σ (.xn x h) = .xn x h := (rfl)
@[simp] theorem kMeth_bad {k : List D → Hh → R D} {cls : Nat} : kMeth k cls as σ .bad = .bad := (rfl)
def kU (g : Hh → D → Option D) (r : R D) : R D := r.bind fun d h => opt (g h d) h
@[simp] theorem kU_eq : eU g a σ h = kU g (a σ h) := (rfl)
@[simp] theorem kU_ok {g : Hh → D → Option D} {d : D} : kU g (.ok d h) = opt (g h d) h := (rfl)
@[simp] theorem kU_xn {g : Hh → D → Option D} : kU g (.xn x h) = .xn x h := (rfl)
@[simp] theorem kU_bad {g : Hh → D → Option D} : kU g .bad = .bad := (rfl)
def kU22 (g : Hh → D → D → Option D) (d : D) (r : R D) : R D := r.bind fun e h => opt (g h d e) h
@[simp] theorem kU22_ok {g : Hh → D → D → Option D} {d : D} {e : D} : kU22 g d (.ok e h) = opt (g h d e) h := (rfl)
@[simp] theorem kU22_xn {g : Hh → D → D → Option D} {d : D} : kU22 g d (.xn x h) = .xn x h := (rfl)
@[simp] theorem kU22_bad {g : Hh → D → D → Option D} {d : D} : kU22 g d .bad = .bad := (rfl)
def kU2 (g : Hh → D → D → Option D) (b : TM) (σ : Sg) (r : R D) : R D := r.bind fun d h => kU22 g d (b σ h)
@[simp] theorem kU2_eq : eU2 g a b σ h = kU2 g b σ (a σ h) := (rfl)
@[simp] theorem kU2_ok {g : Hh → D → D → Option D} {d : D} : kU2 g b σ (.ok d h) = kU22 g d (b σ h) := (rfl)
@[simp] theorem kU2_xn {g : Hh → D → D → Option D} : kU2 g b σ (.xn x h) = .xn x h := (rfl)
@[simp] theorem kU2_bad {g : Hh → D → D → Option D} : kU2 g b σ .bad = .bad := (rfl)
def kM2 (g : Hh → D → D → Option (D × Option (Nat × O))) (d : D) (r : R D) : R D := r.bind fun e h => optW h (g h d e)
@[simp] theorem kM2_ok {g : Hh → D → D → Option (D × Option (Nat × O))} {d : D} {e : D} : kM2 g d (.ok e h) = optW h (g h d e) := (rfl)
@[simp] theorem kM2_xn {g : Hh → D → D → Option (D × Option (Nat × O))} {d : D} : kM2 g d (.xn x h) = .xn x h := (rfl)
@[simp] theorem kM2_bad {g : Hh → D → D → Option (D × Option (Nat × O))} {d : D} : kM2 g d .bad = .bad := (rfl)
def kM1 (k : Bool) (g : Hh → D → D → Option (D × Option (Nat × O))) (d : D) (b : TM) (σ : Sg) (h : Hh) : R D := if k then kM2 g d (b σ h) else .bad
@[simp] theorem kM1_t {g : Hh → D → D → Option (D × Option (Nat × O))} : kM1 true g d b σ h = kM2 g d (b σ h) := (rfl)
def kM (k : Hh → D → Bool) (g : Hh → D → D → Option (D × Option (Nat × O))) (b : TM) (σ : Sg) (r : R D) : R D := r.bind fun d h => kM1 (k h d) g d b σ h
@[simp] theorem kM_eq : eM k g a b σ h = kM k g b σ (a σ h) := (rfl)
@[simp] theorem kM_ok {k : Hh → D → Bool} {g : Hh → D → D → Option (D × Option (Nat × O))} {d : D} : kM k g b σ (.ok d h) = kM1 (k h d) g d b σ h := (rfl)
@[simp] theorem kM_xn {k : Hh → D → Bool} {g : Hh → D → D → Option (D × Option (Nat × O))} : kM k g b σ (.xn x h) = .xn x h := (rfl)
@[simp] theorem kM_bad {k : Hh → D → Bool} {g : Hh → D → D → Option (D × Option (Nat × O))} : kM k g b σ .bad = .bad := (rfl)
def kM0 (g : Hh → D → Option (D × Option (Nat × O))) (r : R D) : R D := r.bind fun d h => optW h (g h d)
@[simp] theorem kM0_eq : eM0 g a σ h = kM0 g (a σ h) := (rfl)
@[simp] theorem kM0_ok {g : Hh → D → Option (D × Option (Nat × O))} {d : D} : kM0 g (.ok d h) = optW h (g h d) := (rfl)
@[simp] theorem kM0_xn {g : Hh → D → Option (D × Option (Nat × O))} : kM0 g (.xn x h) = .xn x h := (rfl)
@[simp] theorem kM0_bad {g : Hh → D → Option (D × Option (Nat × O))} : kM0 g .bad = .bad := (rfl)
def kIx2 (d : D) (r : R D) : R D := r.bind fun e h => opt (index h d e) h
@[simp] theorem kIx2_ok {d : D} {e : D} : kIx2 d (.ok e h) = opt (index h d e) h := (rfl)
@[simp] theorem kIx2_xn {d : D} : kIx2 d (.xn x h) = .xn x h := (rfl)
@[simp] theorem kIx2_bad {d : D} : kIx2 d .bad = .bad := (rfl)
def kIx (b : TM) (σ : Sg) (r : R D) : R D := r.bind fun d h => kIx2 d (b σ h)
@[simp] theorem kIx_eq : eIx a b σ h = kIx b σ (a σ h) := (rfl)
@[simp] theorem kIx_ok  {d : D} : kIx b σ (.ok d h) = kIx2 d (b σ h) := (rfl)
@[simp] theorem kIx_xn  : kIx b σ (.xn x h) = .xn x h := (rfl)
@[simp] theorem kIx_bad  : kIx b σ .bad = .bad := (rfl)
@[simp] theorem oN_eq : oN σ h = .ok none h := (rfl)
def oS1 (d : D) (h : Hh) : R (Option Int) := match d with
  | .int i => .ok (some i) h
  | _ => .bad
@[simp] theorem oS1_int {i : Int} : oS1 (.int i) h = .ok (some i) h := (rfl)
def kOS  (r : R D) : R (Option Int) := r.bind fun d h => oS1 d h
@[simp] theorem kOS_eq : oS a σ h = kOS  (a σ h) := (rfl)
@[simp] theorem kOS_ok  {d : D} : kOS  (.ok d h) = oS1 d h := (rfl)
@[simp] theorem kOS_xn  : kOS  (.xn x h) = .xn x h := (rfl)
@[simp] theorem kOS_bad  : kOS  .bad = .bad := (rfl)
def kSl3 (d : D) (l : Option Int) (r : R (Option Int)) : R D := r.bind fun u h => opt (slice h d l u) h
@[simp] theorem kSl3_ok {d : D} {l : Option Int} {u : (Option Int)} : kSl3 d l (.ok u h) = opt (slice h d l u) h := (rfl)
@[simp] theorem kSl3_xn {d : D} {l : Option Int} : kSl3 d l (.xn x h) = .xn x h := (rfl)
@[simp] theorem kSl3_bad {d : D} {l : Option Int} : kSl3 d l .bad = .bad := (rfl)
def kSl2 (d : D) (hi : OM) (σ : Sg) (r : R (Option Int)) : R D := r.bind fun l h => kSl3 d l (hi σ h)
@[simp] theorem kSl2_ok {d : D} {hi : OM} {l : (Option Int)} : kSl2 d hi σ (.ok l h) = kSl3 d l (hi σ h) := (rfl)
@[simp] theorem kSl2_xn {d : D} {hi : OM} : kSl2 d hi σ (.xn x h) = .xn x h := (rfl)
@[simp] theorem kSl2_bad {d : D} {hi : OM} : kSl2 d hi σ .bad = .bad := (rfl)
def kSl (lo : OM) (hi : OM) (σ : Sg) (r : R D) : R D := r.bind fun d h => kSl2 d hi σ (lo σ h)
@[simp] theorem kSl_eq : eSl a lo hi σ h = kSl lo hi σ (a σ h) := (rfl)
@[simp] theorem kSl_ok {lo : OM} {hi : OM} {d : D} : kSl lo hi σ (.ok d h) = kSl2 d hi σ (lo σ h) := (rfl)
@[simp] theorem kSl_xn {lo : OM} {hi : OM} : kSl lo hi σ (.xn x h) = .xn x h := (rfl)
@[simp] theorem kSl_bad {lo : OM} {hi : OM} : kSl lo hi σ .bad = .bad := (rfl)
def fld1 (o : Option (Nat × List (Nat × D))) (cls k : Nat) (h : Hh) : R D := match o with
  | some (c, fs) => if c = cls then opt (fs.lookup k) h else .bad
  | none => .bad
@[simp] theorem fld1_ok {cls k : Nat} {fs : List (Nat × D)} : fld1 (some (cls, fs)) cls k h = opt (fs.lookup k) h := by simp [fld1]
def kFld (cls : Nat) (k : Nat) (r : R D) : R D := r.bind fun d h => fld1 (asObj h d) cls k h
@[simp] theorem kFld_eq : eFld cls k a σ h = kFld cls k (a σ h) := (rfl)
@[simp] theorem kFld_ok {cls : Nat} {k : Nat} {d : D} : kFld cls k (.ok d h) = fld1 (asObj h d) cls k h := (rfl)
@[simp] theorem kFld_xn {cls : Nat} {k : Nat} : kFld cls k (.xn x h) = .xn x h := (rfl)
@[simp] theorem kFld_bad {cls : Nat} {k : Nat} : kFld cls k .bad = .bad := (rfl)
def kCallK2 (k : List D → Hh → R D) (g : List D → List D → List D) (ds : List D) (r : R (List D)) : R D := r.bind fun es h => k (g ds es) h
@[simp] theorem kCallK2_ok {k : List D → Hh → R D} {g : List D → List D → List D} {ds : List D} {es : (List D)} : kCallK2 k g ds (.ok es h) = k (g ds es) h := (rfl)
@[simp] theorem kCallK2_xn {k : List D → Hh → R D} {g : List D → List D → List D} {ds : List D} : kCallK2 k g ds (.xn x h) = .xn x h := (rfl)
@[simp] theorem kCallK2_bad {k : List D → Hh → R D} {g : List D → List D → List D} {ds : List D} : kCallK2 k g ds .bad = .bad := (rfl)
def kCallK (k : List D → Hh → R D) (g : List D → List D → List D) (ks : AM) (σ : Sg) (r : R (List D)) : R D := r.bind fun ds h => kCallK2 k g ds (ks σ h)
@[simp] theorem kCallK_eq : eCallK k g as ks σ h = kCallK k g ks σ (as σ h) := (rfl)
@[simp] theorem kCallK_ok {k : List D → Hh → R D} {g : List D → List D → List D} {ds : (List D)} : kCallK k g ks σ (.ok ds h) = kCallK2 k g ds (ks σ h) := (rfl)
@[simp] theorem kCallK_xn {k : List D → Hh → R D} {g : List D → List D → List D} : kCallK k g ks σ (.xn x h) = .xn x h := (rfl)
@[simp] theorem kCallK_bad {k : List D → Hh → R D} {g : List D → List D → List D} : kCallK k g ks σ .bad = .bad := (rfl)
def kbT  (r : R D) : R Bool := r.bind fun d h => optB (tru h d) h
@[simp] theorem kbT_eq : bT a σ h = kbT  (a σ h) := (rfl)
@[simp] theorem kbT_ok  {d : D} : kbT  (.ok d h) = optB (tru h d) h := (rfl)
@[simp] theorem kbT_xn  : kbT  (.xn x h) = .xn x h := (rfl)
@[simp] theorem kbT_bad  : kbT  .bad = .bad := (rfl)
def kbCmp2 (op : Cop) (d : D) (r : R D) : R Bool := r.bind fun e h => optB (cmpop h op d e) h
@[simp] theorem kbCmp2_ok {op : Cop} {d : D} {e : D} : kbCmp2 op d (.ok e h) = optB (cmpop h op d e) h := (rfl)
@[simp] theorem kbCmp2_xn {op : Cop} {d : D} : kbCmp2 op d (.xn x h) = .xn x h := (rfl)
@[simp] theorem kbCmp2_bad {op : Cop} {d : D} : kbCmp2 op d .bad = .bad := (rfl)
def kbCmp (op : Cop) (b : TM) (σ : Sg) (r : R D) : R Bool := r.bind fun d h => kbCmp2 op d (b σ h)
@[simp] theorem kbCmp_eq : bCmp op a b σ h = kbCmp op b σ (a σ h) := (rfl)
@[simp] theorem kbCmp_ok {op : Cop} {d : D} : kbCmp op b σ (.ok d h) = kbCmp2 op d (b σ h) := (rfl)
@[simp] theorem kbCmp_xn {op : Cop} : kbCmp op b σ (.xn x h) = .xn x h := (rfl)
@[simp] theorem kbCmp_bad {op : Cop} : kbCmp op b σ .bad = .bad := (rfl)
def kbCh3 (op : Cop) (e : D) (r : R D) : R Bool := r.bind fun f h => optB (cmpop h op e f) h
@[simp] theorem kbCh3_ok {op : Cop} {e : D} {f : D} : kbCh3 op e (.ok f h) = optB (cmpop h op e f) h := (rfl)
@[simp] theorem kbCh3_xn {op : Cop} {e : D} : kbCh3 op e (.xn x h) = .xn x h := (rfl)
@[simp] theorem kbCh3_bad {op : Cop} {e : D} : kbCh3 op e .bad = .bad := (rfl)
def kbCh2a (o : Option Bool) (op : Cop) (e : D) (c : TM) (σ : Sg) (h : Hh) : R Bool := match o with
  | none => .bad
  | some false => .ok false h
  | some true => kbCh3 op e (c σ h)
@[simp] theorem kbCh2a_t {op : Cop} : kbCh2a (some true) op e c σ h = kbCh3 op e (c σ h) := (rfl)
@[simp] theorem kbCh2a_f {op : Cop} : kbCh2a (some false) op e c σ h = .ok false h := (rfl)
def kbCh2 (op : Cop) (op' : Cop) (d : D) (c : TM) (σ : Sg) (r : R D) : R Bool := r.bind fun e h => kbCh2a (cmpop h op d e) op' e c σ h
@[simp] theorem kbCh2_ok {op : Cop} {op' : Cop} {d : D} {e : D} : kbCh2 op op' d c σ (.ok e h) = kbCh2a (cmpop h op d e) op' e c σ h := (rfl)
@[simp] theorem kbCh2_xn {op : Cop} {op' : Cop} {d : D} : kbCh2 op op' d c σ (.xn x h) = .xn x h := (rfl)
@[simp] theorem kbCh2_bad {op : Cop} {op' : Cop} {d : D} : kbCh2 op op' d c σ .bad = .bad := (rfl)
def kbCh (op : Cop) (op' : Cop) (b : TM) (c : TM) (σ : Sg) (r : R D) : R Bool := r.bind fun d h => kbCh2 op op' d c σ (b σ h)
@[simp] theorem kbCh_eq : bCh op op' a b c σ h = kbCh op op' b c σ (a σ h) := (rfl)
@[simp] theorem kbCh_ok {op : Cop} {op' : Cop} {d : D} : kbCh op op' b c σ (.ok d h) = kbCh2 op op' d c σ (b σ h) := (rfl)
@[simp] theorem kbCh_xn {op : Cop} {op' : Cop} : kbCh op op' b c σ (.xn x h) = .xn x h := (rfl)
@[simp] theorem kbCh_bad {op : Cop} {op' : Cop} : kbCh op op' b c σ .bad = .bad := (rfl)
def keCh  (r : R Bool) : R D := r.bind fun k h => .ok (.bl k) h
@[simp] theorem keCh_eq : eCh op op' a b c σ h = keCh  (bCh op op' a b c σ h) := (rfl)
@[simp] theorem keCh_ok  {k : Bool} : keCh  (.ok k h) = .ok (.bl k) h := (rfl)
@[simp] theorem keCh_xn  : keCh  (.xn x h) = .xn x h := (rfl)
@[simp] theorem keCh_bad  : keCh  .bad = .bad := (rfl)
def kbAnd1 (k : Bool) (q : BM) (σ : Sg) (h : Hh) : R Bool := if k then q σ h else .ok false h
@[simp] theorem kbAnd1_t : kbAnd1 true q σ h = q σ h := (rfl)
@[simp] theorem kbAnd1_f : kbAnd1 false q σ h = .ok false h := (rfl)
def kbOr1 (k : Bool) (q : BM) (σ : Sg) (h : Hh) : R Bool := if k then .ok true h else q σ h
@[simp] theorem kbOr1_t : kbOr1 true q σ h = .ok true h := (rfl)
@[simp] theorem kbOr1_f : kbOr1 false q σ h = q σ h := (rfl)
def kbAnd (q : BM) (σ : Sg) (r : R Bool) : R Bool := r.bind fun k h => kbAnd1 k q σ h
@[simp] theorem kbAnd_eq : bAnd p q σ h = kbAnd q σ (p σ h) := (rfl)
@[simp] theorem kbAnd_ok  {k : Bool} : kbAnd q σ (.ok k h) = kbAnd1 k q σ h := (rfl)
@[simp] theorem kbAnd_xn  : kbAnd q σ (.xn x h) = .xn x h := (rfl)
@[simp] theorem kbAnd_bad  : kbAnd q σ .bad = .bad := (rfl)
def kbOr (q : BM) (σ : Sg) (r : R Bool) : R Bool := r.bind fun k h => kbOr1 k q σ h
@[simp] theorem kbOr_eq : bOr p q σ h = kbOr q σ (p σ h) := (rfl)
@[simp] theorem kbOr_ok  {k : Bool} : kbOr q σ (.ok k h) = kbOr1 k q σ h := (rfl)
@[simp] theorem kbOr_xn  : kbOr q σ (.xn x h) = .xn x h := (rfl)
@[simp] theorem kbOr_bad  : kbOr q σ .bad = .bad := (rfl)
def kbNot  (r : R Bool) : R Bool := r.bind fun k h => .ok (!k) h
@[simp] theorem kbNot_eq : bNot p σ h = kbNot  (p σ h) := (rfl)
@[simp] theorem kbNot_ok  {k : Bool} : kbNot  (.ok k h) = .ok (!k) h := (rfl)
@[simp] theorem kbNot_xn  : kbNot  (.xn x h) = .xn x h := (rfl)
@[simp] theorem kbNot_bad  : kbNot  .bad = .bad := (rfl)
def walk1 (o : Option (List D)) (h : Hh) : R (List D) := match o with
  | none => .bad
  | some xs => .ok xs h
@[simp] theorem walk1_ok {xs : List D} : walk1 (some xs) h = .ok xs h := (rfl)
def kIt (it : It) (r : R (List D)) : R (List D) := r.bind fun ds h => walk1 (walk it ds) h
theorem itM_eq {it : It} : itM it as σ h = kIt it (as σ h) := by
  unfold itM kIt walk1
  congr
@[simp] theorem itM_eq' {it : It} : itM it as σ h = kIt it (as σ h) := itM_eq
@[simp] theorem kIt_ok {it : It} : kIt it (.ok ds h) = walk1 (walk it ds) h := (rfl)
@[simp] theorem kIt_xn {it : It} : kIt it (.xn x h) = .xn x h := (rfl)
@[simp] theorem kIt_bad {it : It} : kIt it .bad = .bad := (rfl)
def kLcE (r : R (List D)) : R D := r.bind fun ys h => .ok (.lst ys) h
@[simp] theorem kLcE_ok : kLcE (.ok ds h) = .ok (.lst ds) h := (rfl)
def kLc (a : TM) (g : G) (p : BM) (ow : List Nat) (σ : Sg) (r : R (List D)) : R D := r.bind fun xs h => kLcE (noX (lcL (lcStep a g p ow σ) xs [] h))
@[simp] theorem kLc_eq : eLc a g it as p ow σ h = kLc a g p ow σ (itM it as σ h) := (rfl)
@[simp] theorem kLc_ok {g : G} {ow : List Nat} {xs : (List D)} : kLc a g p ow σ (.ok xs h) = kLcE (noX (lcL (lcStep a g p ow σ) xs [] h)) := (rfl)
@[simp] theorem kLc_xn {g : G} {ow : List Nat} : kLc a g p ow σ (.xn x h) = .xn x h := (rfl)
@[simp] theorem kLc_bad {g : G} {ow : List Nat} : kLc a g p ow σ .bad = .bad := (rfl)
def kLc2 (a : TM) (g : G) (p : BM) (g1 : G) (it1 : It) (as1 : AM) (p1 : BM) (ow : List Nat) (ow1 : List Nat) (σ : Sg) (r : R (List D)) : R D := r.bind fun xs h => kLcE (noX (lcL2 (lcStep2 a g p g1 it1 as1 p1 ow ow1 σ) xs [] h))
@[simp] theorem kLc2_eq : eLc2 a g it as p g1 it1 as1 p1 ow ow1 σ h = kLc2 a g p g1 it1 as1 p1 ow ow1 σ (itM it as σ h) := (rfl)
@[simp] theorem kLc2_ok {g : G} {g1 : G} {it1 : It} {as1 : AM} {p1 : BM} {ow : List Nat} {ow1 : List Nat} {xs : (List D)} : kLc2 a g p g1 it1 as1 p1 ow ow1 σ (.ok xs h) = kLcE (noX (lcL2 (lcStep2 a g p g1 it1 as1 p1 ow ow1 σ) xs [] h)) := (rfl)
@[simp] theorem kLc2_xn {g : G} {g1 : G} {it1 : It} {as1 : AM} {p1 : BM} {ow : List Nat} {ow1 : List Nat} : kLc2 a g p g1 it1 as1 p1 ow ow1 σ (.xn x h) = .xn x h := (rfl)
@[simp] theorem kLc2_bad {g : G} {g1 : G} {it1 : It} {as1 : AM} {p1 : BM} {ow : List Nat} {ow1 : List Nat} : kLc2 a g p g1 it1 as1 p1 ow ow1 σ .bad = .bad := (rfl)
def kSet (i : Nat) (σ : Sg) (r : R D) : SR := SR.of σ r fun d h => .nx (σ.set i (some d)) h
@[simp] theorem kSet_eq : sSet i a σ h = kSet i σ (a σ h) := (rfl)
@[simp] theorem kSet_ok {i : Nat} {d : D} : kSet i σ (.ok d h) = .nx (σ.set i (some d)) h := (rfl)
@[simp] theorem kSet_xn {i : Nat} : kSet i σ (.xn x h) = .xn x σ h := (rfl)
@[simp] theorem kSet_bad {i : Nat} : kSet i σ .bad = .bad := (rfl)
def asg1 (o : Option Sg) (h : Hh) : SR := match o with
  | some σ => .nx σ h
  | none => .bad
@[simp] theorem asg1_ok : asg1 (some σ) h = .nx σ h := (rfl)
def kAsg (g : G) (σ : Sg) (r : R D) : SR := SR.of σ r fun d h => asg1 (bindG σ g d) h
@[simp] theorem kAsg_eq : sAsg g a σ h = kAsg g σ (a σ h) := (rfl)
@[simp] theorem kAsg_ok {g : G} {d : D} : kAsg g σ (.ok d h) = asg1 (bindG σ g d) h := (rfl)
@[simp] theorem kAsg_xn {g : G} : kAsg g σ (.xn x h) = .xn x σ h := (rfl)
@[simp] theorem kAsg_bad {g : G} : kAsg g σ .bad = .bad := (rfl)
def aug1 (o : Option D) (i : Nat) (σ : Sg) (h : Hh) : SR := match o with
  | some r => .nx (σ.set i (some r)) h
  | none => .bad
@[simp] theorem aug1_ok {i : Nat} : aug1 (some d) i σ h = .nx (σ.set i (some d)) h := (rfl)
def aug0 (o : Option D) (i : Nat) (op : Bop) (a : TM) (σ : Sg) (h : Hh) : SR := match o with
  | none => .bad
  | some d => SR.of σ (a σ h) fun e h => aug1 (augD op d e) i σ h
def kAug (i : Nat) (op : Bop) (d : D) (σ : Sg) (r : R D) : SR := SR.of σ r fun e h => aug1 (augD op d e) i σ h
@[simp] theorem sAug_eq {i : Nat} {op : Bop} : sAug i op a σ h = aug0 (sget σ i) i op a σ h := by
  unfold sAug aug0
  cases sget σ i <;> rfl
@[simp] theorem aug0_ok {i : Nat} {op : Bop} : aug0 (some d) i op a σ h = kAug i op d σ (a σ h) := (rfl)
@[simp] theorem kAug_ok {i : Nat} {op : Bop} : kAug i op d σ (.ok e h) = aug1 (augD op d e) i σ h := (rfl)
@[simp] theorem kAug_xn {i : Nat} {op : Bop} : kAug i op d σ (.xn x h) = .xn x σ h := (rfl)
def seti1 (o : Option Hh) (σ : Sg) : SR := match o with
  | some h => .nx σ h
  | none => .bad
@[simp] theorem seti1_ok : seti1 (some h) σ = .nx σ h := (rfl)
def kSetI3 (v : D) (d : D) (σ : Sg) (r : R D) : SR := SR.of σ r fun e h => seti1 (setIx h d e v) σ
@[simp] theorem kSetI3_ok {v : D} {d : D} {e : D} : kSetI3 v d σ (.ok e h) = seti1 (setIx h d e v) σ := (rfl)
@[simp] theorem kSetI3_xn {v : D} {d : D} : kSetI3 v d σ (.xn x h) = .xn x σ h := (rfl)
@[simp] theorem kSetI3_bad {v : D} {d : D} : kSetI3 v d σ .bad = .bad := (rfl)
def kSetI2 (v : D) (b : TM) (σ : Sg) (r : R D) : SR := SR.of σ r fun d h => kSetI3 v d σ (b σ h)
@[simp] theorem kSetI2_ok {v : D} {d : D} : kSetI2 v b σ (.ok d h) = kSetI3 v d σ (b σ h) := (rfl)
@[simp] theorem kSetI2_xn {v : D} : kSetI2 v b σ (.xn x h) = .xn x σ h := (rfl)
@[simp] theorem kSetI2_bad {v : D} : kSetI2 v b σ .bad = .bad := (rfl)
def kSetI (a : TM) (b : TM) (σ : Sg) (r : R D) : SR := SR.of σ r fun v h => kSetI2 v b σ (a σ h)
@[simp] theorem kSetI_eq : sSetI a b c σ h = kSetI a b σ (c σ h) := (rfl)
@[simp] theorem kSetI_ok  {v : D} : kSetI a b σ (.ok v h) = kSetI2 v b σ (a σ h) := (rfl)
@[simp] theorem kSetI_xn  : kSetI a b σ (.xn x h) = .xn x σ h := (rfl)
@[simp] theorem kSetI_bad  : kSetI a b σ .bad = .bad := (rfl)
def kSetF2 (cls : Nat) (k : Nat) (v : D) (σ : Sg) (r : R D) : SR := SR.of σ r fun d h => seti1 (setFld h cls k d v) σ
@[simp] theorem kSetF2_ok {cls : Nat} {k : Nat} {v : D} {d : D} : kSetF2 cls k v σ (.ok d h) = seti1 (setFld h cls k d v) σ := (rfl)
@[simp] theorem kSetF2_xn {cls : Nat} {k : Nat} {v : D} : kSetF2 cls k v σ (.xn x h) = .xn x σ h := (rfl)
@[simp] theorem kSetF2_bad {cls : Nat} {k : Nat} {v : D} : kSetF2 cls k v σ .bad = .bad := (rfl)
def kSetF (cls : Nat) (a : TM) (k : Nat) (σ : Sg) (r : R D) : SR := SR.of σ r fun v h => kSetF2 cls k v σ (a σ h)
@[simp] theorem kSetF_eq : sSetF cls a k c σ h = kSetF cls a k σ (c σ h) := (rfl)
@[simp] theorem kSetF_ok {cls : Nat} {k : Nat} {v : D} : kSetF cls a k σ (.ok v h) = kSetF2 cls k v σ (a σ h) := (rfl)
@[simp] theorem kSetF_xn {cls : Nat} {k : Nat} : kSetF cls a k σ (.xn x h) = .xn x σ h := (rfl)
@[simp] theorem kSetF_bad {cls : Nat} {k : Nat} : kSetF cls a k σ .bad = .bad := (rfl)
def kEx (σ : Sg) (r : R D) : SR := SR.of σ r fun d h => .nx σ h
@[simp] theorem kEx_eq : sEx a σ h = kEx σ (a σ h) := (rfl)
@[simp] theorem kEx_ok  {d : D} : kEx σ (.ok d h) = .nx σ h := (rfl)
@[simp] theorem kEx_xn  : kEx σ (.xn x h) = .xn x σ h := (rfl)
@[simp] theorem kEx_bad  : kEx σ .bad = .bad := (rfl)
def kRet (σ : Sg) (r : R D) : SR := SR.of σ r fun d h => .rt d h
@[simp] theorem kRet_eq : sRet a σ h = kRet σ (a σ h) := (rfl)
@[simp] theorem kRet_ok  {d : D} : kRet σ (.ok d h) = .rt d h := (rfl)
@[simp] theorem kRet_xn  : kRet σ (.xn x h) = .xn x σ h := (rfl)
@[simp] theorem kRet_bad  : kRet σ .bad = .bad := (rfl)
def kIf1 (k : Bool) (s s' : SM) (σ : Sg) (h : Hh) : SR := if k then s σ h else s' σ h
@[simp] theorem kIf1_t : kIf1 true s s' σ h = s σ h := (rfl)
@[simp] theorem kIf1_f : kIf1 false s s' σ h = s' σ h := (rfl)
def kIf (s : SM) (s' : SM) (σ : Sg) (r : R Bool) : SR := SR.of σ r fun k h => kIf1 k s s' σ h
@[simp] theorem kIf_eq : sIf p s s' σ h = kIf s s' σ (p σ h) := (rfl)
@[simp] theorem kIf_ok  {k : Bool} : kIf s s' σ (.ok k h) = kIf1 k s s' σ h := (rfl)
@[simp] theorem kIf_xn  : kIf s s' σ (.xn x h) = .xn x σ h := (rfl)
@[simp] theorem kIf_bad  : kIf s s' σ .bad = .bad := (rfl)
def kFor (g : G) (s : SM) (σ : Sg) (r : R (List D)) : SR := SR.of σ r fun xs h => forL (forB g s) xs σ h
@[simp] theorem kFor_eq : sFor g it as s σ h = kFor g s σ (itM it as σ h) := (rfl)
@[simp] theorem kFor_ok {g : G} {xs : (List D)} : kFor g s σ (.ok xs h) = forL (forB g s) xs σ h := (rfl)
@[simp] theorem kFor_xn {g : G} : kFor g s σ (.xn x h) = .xn x σ h := (rfl)
@[simp] theorem kFor_bad {g : G} : kFor g s σ .bad = .bad := (rfl)
@[simp] theorem forL_nil {body : D → Sg → Hh → SR} : forL body [] σ h = .nx σ h := (rfl)
def forK (body : D → Sg → Hh → SR) (xs : List D) (r : SR) : SR := match r with
  | .nx σ h => forL body xs σ h
  | .ct σ h => forL body xs σ h
  | .bk σ h => .nx σ h
  | r => r
@[simp] theorem forK_nx {body : D → Sg → Hh → SR} {xs : List D} : forK body xs (.nx σ h) = forL body xs σ h := (rfl)
@[simp] theorem forK_ct {body : D → Sg → Hh → SR} {xs : List D} : forK body xs (.ct σ h) = forL body xs σ h := (rfl)
@[simp] theorem forK_bk {body : D → Sg → Hh → SR} {xs : List D} : forK body xs (.bk σ h) = .nx σ h := (rfl)
@[simp] theorem forK_rt {body : D → Sg → Hh → SR} {xs : List D} : forK body xs (.rt d h) = .rt d h := (rfl)
@[simp] theorem forK_xn {body : D → Sg → Hh → SR} {xs : List D} : forK body xs (.xn x σ h) = .xn x σ h := (rfl)
theorem forL_cons {body : D → Sg → Hh → SR} {y : D} {xs : List D} : forL body (y :: xs) σ h = forK body xs (body y σ h) := by
  simp only [forL, forK] <;> (split <;> simp_all)
def forB1 (o : Option Sg) (s : SM) (h : Hh) : SR := match o with
  | none => .bad
  | some σ => s σ h
@[simp] theorem forB1_ok : forB1 (some σ) s h = s σ h := (rfl)
@[simp] theorem forB_eq {g : G} : forB g s d σ h = forB1 (bindG σ g d) s h := by
  unfold forB forB1
  cases bindG σ g d <;> rfl
@[simp] theorem bindG_nm {i : Nat} : bindG σ (.nm i) d = some (σ.set i (some d)) := (rfl)
@[simp] theorem bindG_tp {gs : List G} : bindG σ (.tp gs) (.tup ds) = bindGs σ gs ds := (rfl)
@[simp] theorem bindG_tl {gs : List G} : bindG σ (.tp gs) (.lst ds) = bindGs σ gs ds := (rfl)
@[simp] theorem bindGs_nil : bindGs σ [] [] = some σ := (rfl)
@[simp] theorem bindGs_cons {i : Nat} {gs : List G} : bindGs σ (.nm i :: gs) (d :: ds) = bindGs (σ.set i (some d)) gs ds := by simp [bindGs]
def lcStep1 (o : Option Sg) (a : TM) (p : BM) (h : Hh) : R (Option D) := match o with
  | none => .bad
  | some σ => (p σ h).bind fun t h => if t then (a σ h).bind fun d h => .ok (some d) h else .ok none h
def lcS2 (r : R D) : R (Option D) := r.bind fun d h => .ok (some d) h
@[simp] theorem lcS2_ok : lcS2 (.ok d h) = .ok (some d) h := (rfl)
@[simp] theorem lcS2_xn : lcS2 (.xn x h) = .xn x h := (rfl)
def lcS1 (k : Bool) (a : TM) (σ : Sg) (h : Hh) : R (Option D) := if k then lcS2 (a σ h) else .ok none h
@[simp] theorem lcS1_t : lcS1 true a σ h = lcS2 (a σ h) := (rfl)
@[simp] theorem lcS1_f : lcS1 false a σ h = .ok none h := (rfl)
def lcS0 (r : R Bool) (a : TM) (σ : Sg) : R (Option D) := r.bind fun k h => lcS1 k a σ h
@[simp] theorem lcS0_ok {k : Bool} : lcS0 (.ok k h) a σ = lcS1 k a σ h := (rfl)
@[simp] theorem lcStep1_ok : lcStep1 (some σ) a p h = lcS0 (p σ h) a σ := (rfl)
@[simp] theorem lcStep_eq {g : G} {own : List Nat} : lcStep a g p own σ d h = lcStep1 (bindG (wipe σ own) g d) a p h := by
  unfold lcStep lcStep1
  cases bindG (wipe σ own) g d <;> rfl
@[simp] theorem wipe_nil : wipe σ [] = σ := (rfl)
@[simp] theorem wipe_cons {v : Nat} {vs : List Nat} : wipe σ (v :: vs) = (wipe σ vs).set v none := (rfl)
def lcK (step : D → Hh → R (Option D)) (xs acc : List D) (r : R (Option D)) : R (List D) := r.bind fun o h => match o with
  | none => lcL step xs acc h
  | some d => if acc.length < line then lcL step xs (acc ++ [d]) h else .bad
@[simp] theorem lcK_none {step : D → Hh → R (Option D)} {xs acc : List D} : lcK step xs acc (.ok none h) = lcL step xs acc h := (rfl)
@[simp] theorem lcK_some {step : D → Hh → R (Option D)} {xs acc : List D} : lcK step xs acc (.ok (some d) h) = if acc.length < line then lcL step xs (acc ++ [d]) h else .bad := (rfl)
@[simp] theorem lcL_nil {step : D → Hh → R (Option D)} {acc : List D} : lcL step [] acc h = .ok acc h := (rfl)
theorem lcL_cons {step : D → Hh → R (Option D)} {y : D} {xs acc : List D} : lcL step (y :: xs) acc h = lcK step xs acc (step y h) := (rfl)
def whK (t : BM) (s : SM) (n : Nat) (r : SR) : SR := match r with
  | .nx σ h => whL t s n σ h
  | .ct σ h => whL t s n σ h
  | .bk σ h => .nx σ h
  | r => r
@[simp] theorem whK_nx {n : Nat} : whK p s n (.nx σ h) = whL p s n σ h := (rfl)
@[simp] theorem whK_ct {n : Nat} : whK p s n (.ct σ h) = whL p s n σ h := (rfl)
@[simp] theorem whK_bk {n : Nat} : whK p s n (.bk σ h) = .nx σ h := (rfl)
@[simp] theorem whK_rt {n : Nat} : whK p s n (.rt d h) = .rt d h := (rfl)
@[simp] theorem whK_xn {n : Nat} : whK p s n (.xn x σ h) = .xn x σ h := (rfl)
def whI1 (k : Bool) (p : BM) (s : SM) (n : Nat) (σ : Sg) (h : Hh) : SR := if k then whK p s n (s σ h) else .nx σ h
@[simp] theorem whI1_t {n : Nat} : whI1 true p s n σ h = whK p s n (s σ h) := (rfl)
@[simp] theorem whI1_f {n : Nat} : whI1 false p s n σ h = .nx σ h := (rfl)
def whI (r : R Bool) (p : BM) (s : SM) (n : Nat) (σ : Sg) : SR := SR.of σ r fun k h => whI1 k p s n σ h
@[simp] theorem whI_ok {n : Nat} {k : Bool} : whI (.ok k h) p s n σ = whI1 k p s n σ h := (rfl)
@[simp] theorem whI_xn {n : Nat} : whI (.xn x h) p s n σ = .xn x σ h := (rfl)
theorem whL_succ {n : Nat} : whL p s (n + 1) σ h = whI (p σ h) p s n σ := by
  simp only [whL, whI]
  congr
theorem sWh_eq {n : Nat} : sWh n p s σ h = whL p s n σ h := (rfl)
def kM23 (g : Hh → D → D → D → Option D) (d : D) (e : D) (r : R D) : R D := r.bind fun f h => opt (g h d e f) h
@[simp] theorem kM23_ok {g : Hh → D → D → D → Option D} {d : D} {e : D} {f : D} : kM23 g d e (.ok f h) = opt (g h d e f) h := (rfl)
@[simp] theorem kM23_xn {g : Hh → D → D → D → Option D} {d : D} {e : D} : kM23 g d e (.xn x h) = .xn x h := (rfl)
@[simp] theorem kM23_bad {g : Hh → D → D → D → Option D} {d : D} {e : D} : kM23 g d e .bad = .bad := (rfl)
def kM22 (g : Hh → D → D → D → Option D) (d : D) (c : TM) (σ : Sg) (r : R D) : R D := r.bind fun e h => kM23 g d e (c σ h)
@[simp] theorem kM22_ok {g : Hh → D → D → D → Option D} {d : D} {e : D} : kM22 g d c σ (.ok e h) = kM23 g d e (c σ h) := (rfl)
@[simp] theorem kM22_xn {g : Hh → D → D → D → Option D} {d : D} : kM22 g d c σ (.xn x h) = .xn x h := (rfl)
@[simp] theorem kM22_bad {g : Hh → D → D → D → Option D} {d : D} : kM22 g d c σ .bad = .bad := (rfl)
def kM21 (k : Bool) (g : Hh → D → D → D → Option D) (d : D) (b c : TM) (σ : Sg) (h : Hh) : R D := if k then kM22 g d c σ (b σ h) else .bad
@[simp] theorem kM21_t {g : Hh → D → D → D → Option D} : kM21 true g d b c σ h = kM22 g d c σ (b σ h) := (rfl)
def kM20 (k : Hh → D → Bool) (g : Hh → D → D → D → Option D) (b : TM) (c : TM) (σ : Sg) (r : R D) : R D := r.bind fun d h => kM21 (k h d) g d b c σ h
@[simp] theorem kM20_eq : eM2 k g a b c σ h = kM20 k g b c σ (a σ h) := (rfl)
@[simp] theorem kM20_ok {k : Hh → D → Bool} {g : Hh → D → D → D → Option D} {d : D} : kM20 k g b c σ (.ok d h) = kM21 (k h d) g d b c σ h := (rfl)
@[simp] theorem kM20_xn {k : Hh → D → Bool} {g : Hh → D → D → D → Option D} : kM20 k g b c σ (.xn x h) = .xn x h := (rfl)
@[simp] theorem kM20_bad {k : Hh → D → Bool} {g : Hh → D → D → D → Option D} : kM20 k g b c σ .bad = .bad := (rfl)
def kIn1 (tab : List (Tx × Nat)) (d : D) (h : Hh) : R Bool := match d with
  | .str s => .ok (tab.lookup s).isSome h
  | _ => .bad
@[simp] theorem kIn1_str {tab : List (Tx × Nat)} {u : Tx} : kIn1 tab (.str u) h = .ok (tab.lookup u).isSome h := (rfl)
def kbKIn (tab : List (Tx × Nat)) (r : R D) : R Bool := r.bind fun d h => kIn1 tab d h
@[simp] theorem kbKIn_eq : bKIn tab a σ h = kbKIn tab (a σ h) := (rfl)
@[simp] theorem kbKIn_ok {tab : List (Tx × Nat)} {d : D} : kbKIn tab (.ok d h) = kIn1 tab d h := (rfl)
@[simp] theorem kbKIn_xn {tab : List (Tx × Nat)} : kbKIn tab (.xn x h) = .xn x h := (rfl)
@[simp] theorem kbKIn_bad {tab : List (Tx × Nat)} : kbKIn tab .bad = .bad := (rfl)
def kGet1 (tab : List (Tx × Nat)) (d : D) (h : Hh) : R D := match d with
  | .str s => opt ((tab.lookup s).map .fn) h
  | _ => .bad
@[simp] theorem kGet1_str {tab : List (Tx × Nat)} {u : Tx} : kGet1 tab (.str u) h = opt ((tab.lookup u).map .fn) h := (rfl)
def kKGet (tab : List (Tx × Nat)) (r : R D) : R D := r.bind fun d h => kGet1 tab d h
@[simp] theorem kKGet_eq : eKGet tab a σ h = kKGet tab (a σ h) := (rfl)
@[simp] theorem kKGet_ok {tab : List (Tx × Nat)} {d : D} : kKGet tab (.ok d h) = kGet1 tab d h := (rfl)
@[simp] theorem kKGet_xn {tab : List (Tx × Nat)} : kKGet tab (.xn x h) = .xn x h := (rfl)
@[simp] theorem kKGet_bad {tab : List (Tx × Nat)} : kKGet tab .bad = .bad := (rfl)
def kCallV2 (k : List D → Hh → R D) (r : R (List D)) : R D := r.bind fun ds h => k ds h
@[simp] theorem kCallV2_ok {k : List D → Hh → R D} {ds : (List D)} : kCallV2 k (.ok ds h) = k ds h := (rfl)
@[simp] theorem kCallV2_xn {k : List D → Hh → R D} : kCallV2 k (.xn x h) = .xn x h := (rfl)
@[simp] theorem kCallV2_bad {k : List D → Hh → R D} : kCallV2 k .bad = .bad := (rfl)
def kCallV (o : Option D) (fs : List Nat) (k : Nat → List D → Hh → R D) (as : AM) (σ : Sg) (h : Hh) : R D := match o with
  | some (.fn f) => if f ∈ fs then kCallV2 (k f) (as σ h) else .bad
  | _ => .bad
@[simp] theorem kCallV_ok {fs : List Nat} {k : Nat → List D → Hh → R D} {f : Nat} : kCallV (some (.fn f)) fs k as σ h = if f ∈ fs then kCallV2 (k f) (as σ h) else .bad := (rfl)
theorem eCallV_eqq {fs : List Nat} {k : Nat → List D → Hh → R D} {i : Nat} : eCallV fs k i as σ h = kCallV (sget σ i) fs k as σ h := by
  unfold eCallV kCallV kCallV2
  rfl
@[simp] theorem eCallV_eq {fs : List Nat} {k : Nat → List D → Hh → R D} {i : Nat} : eCallV fs k i as σ h = kCallV (sget σ i) fs k as σ h := eCallV_eqq
@[simp] theorem line_eq : line = 16777216 := by decide
@[simp] theorem lim_eq : lim = 4611686018427387904 := by decide
@[simp] theorem big_eq : big = 18446744073709551616 := by decide
@[simp] theorem sget_z {o : Option D} : sget (o :: σ) 0 = o := by cases o <;> rfl
@[simp] theorem sget_s {o : Option D} {i : Nat} : sget (o :: σ) (i + 1) = sget σ i := (rfl)
@[simp] theorem tru_non : tru h .non = some false := (rfl)
@[simp] theorem tru_bl {k : Bool} : tru h (.bl k) = some k := (rfl)
@[simp] theorem tru_int {i : Int} : tru h (.int i) = some (i != 0) := (rfl)
@[simp] theorem tru_tup : tru h (.tup ds) = some (!ds.isEmpty) := (rfl)
@[simp] theorem tru_lst : tru h (.lst ds) = some (!ds.isEmpty) := (rfl)
@[simp] theorem asObj_obj {c : Nat} {fs : List (Nat × D)} : asObj h (.obj c fs) = some (c, fs) := (rfl)
@[simp] theorem asObj_ref {n c : Nat} {fs : List (Nat × D)} (e : h[n]? = some (.ins c fs)) : asObj h (.ref n) = some (c, fs) := by simp [asObj, e]
@[simp] theorem asSeq_tup : asSeq h (.tup ds) = some ds := (rfl)
@[simp] theorem asSeq_lst : asSeq h (.lst ds) = some ds := (rfl)
@[simp] theorem asSeq_roi {is : List Int} : asSeq h (.roi is) = some (is.map .int) := (rfl)
@[simp] theorem asSeq_ref {n : Nat} (e : h[n]? = some (.lst ds)) : asSeq h (.ref n) = some ds := by simp [asSeq, e]
@[simp] theorem asLst_lst : asLst h (.lst ds) = some ds := (rfl)
@[simp] theorem asLst_ref {n : Nat} (e : h[n]? = some (.lst ds)) : asLst h (.ref n) = some ds := by simp [asLst, e]
@[simp] theorem asDct_dct {kvs : List (K1 × D)} : asDct h (.dct kvs) = some kvs := (rfl)
@[simp] theorem asDct_ref {n : Nat} {kvs : List (K1 × D)} (e : h[n]? = some (.dct kvs)) : asDct h (.ref n) = some kvs := by simp [asDct, e]
@[simp] theorem asDct_tup : asDct h (.tup ds) = none := (rfl)
@[simp] theorem asDct_lst : asDct h (.lst ds) = none := (rfl)
@[simp] theorem asDct_str {s : Tx} : asDct h (.str s) = none := (rfl)
@[simp] theorem asDct_refl {n : Nat} (e : h[n]? = some (.lst ds)) : asDct h (.ref n) = none := by simp [asDct, e]
@[simp] theorem bin_add {i j : Int} : binop h .add (.int i) (.int j) = some (.int (i + j)) := (rfl)
@[simp] theorem bin_sub {i j : Int} : binop h .sub (.int i) (.int j) = some (.int (i - j)) := (rfl)
@[simp] theorem bin_mul {i j : Int} : binop h .mul (.int i) (.int j) = if (-big < i ∧ i < big) ∨ (-big < j ∧ j < big) then some (.int (i * j)) else none := (rfl)
@[simp] theorem bin_fdiv {i j : Int} : binop h .fdiv (.int i) (.int j) = if 0 < j ∧ j < 1073741824 then some (.int (i / j)) else none := (rfl)
@[simp] theorem bin_mod {i j : Int} : binop h .mod (.int i) (.int j) = if 0 < j then some (.int (i % j)) else none := (rfl)
@[simp] theorem bin_pow {i j : Int} : binop h .pow (.int i) (.int j) = if 0 ≤ j ∧ j ≤ 1000000 ∧ i.natAbs < 18446744073709551616 then some (.int (i ^ j.toNat)) else none := (rfl)
theorem p6 : (10 : Int) ^ (6 : Int).toNat = 1000000 := by decide
theorem p18 : (10 : Int) ^ (18 : Int).toNat = 1000000000000000000 := by decide
theorem p30 : (10 : Int) ^ (30 : Int).toNat = 1000000000000000000000000000000 := by decide
@[simp high] theorem bin_pow6 : binop h .pow (.int 10) (.int 6) = some (.int 1000000) := by rw [bin_pow, if_pos (by decide), p6]
@[simp high] theorem bin_pow18 : binop h .pow (.int 10) (.int 18) = some (.int 1000000000000000000) := by rw [bin_pow, if_pos (by decide), p18]
@[simp high] theorem bin_pow30 : binop h .pow (.int 10) (.int 30) = some (.int 1000000000000000000000000000000) := by rw [bin_pow, if_pos (by decide), p30]
@[simp] theorem bin_adds {u v : Tx} : binop h .add (.str u) (.str v) = if u.length + v.length ≤ line then some (.str (u ++ v)) else none := (rfl)
@[simp] theorem bin_addt : binop h .add (.tup ds) (.tup es) = if ds.length + es.length ≤ line then some (.tup (ds ++ es)) else none := (rfl)
@[simp] theorem bin_addl : binop h .add (.lst ds) (.lst es) = if ds.length + es.length ≤ line then some (.lst (ds ++ es)) else none := by simp [binop]
@[simp] theorem aug_add {i j : Int} : augD .add (.int i) (.int j) = some (.int (i + j)) := (rfl)
@[simp] theorem aug_sub {i j : Int} : augD .sub (.int i) (.int j) = some (.int (i - j)) := (rfl)
@[simp] theorem aug_adds {u v : Tx} : augD .add (.str u) (.str v) = if u.length + v.length ≤ line then some (.str (u ++ v)) else none := (rfl)
@[simp] theorem cmp_eq : cmpop h .eq d e = eqD h d e := by cases d <;> cases e <;> rfl
@[simp] theorem cmp_ne : cmpop h .ne d e = (eqD h d e).map (!·) := by cases d <;> cases e <;> rfl
@[simp] theorem cmp_lt {i j : Int} : cmpop h .lt (.int i) (.int j) = some (decide (i < j)) := (rfl)
@[simp] theorem cmp_le {i j : Int} : cmpop h .le (.int i) (.int j) = some (decide (i ≤ j)) := (rfl)
@[simp] theorem cmp_gt {i j : Int} : cmpop h .gt (.int i) (.int j) = some (decide (j < i)) := (rfl)
@[simp] theorem cmp_ge {i j : Int} : cmpop h .ge (.int i) (.int j) = some (decide (j ≤ i)) := (rfl)
@[simp] theorem cmp_lts {u v : Tx} : cmpop h .lt (.str u) (.str v) = some (decide (u < v)) := (rfl)
@[simp] theorem cmp_les {u v : Tx} : cmpop h .le (.str u) (.str v) = some (!decide (v < u)) := (rfl)
@[simp] theorem cmp_isN : cmpop h .is_ d .non = some d.isNon := by cases d <;> rfl
@[simp] theorem cmp_isntN : cmpop h .isnt d .non = some (!d.isNon) := by cases d <;> rfl
@[simp] theorem isNon_non : D.non.isNon = true := (rfl)
@[simp] theorem isNon_tup : (D.tup ds).isNon = false := (rfl)
@[simp] theorem isNon_int {i : Int} : (D.int i).isNon = false := (rfl)
@[simp] theorem isNon_str {s : Tx} : (D.str s).isNon = false := (rfl)
@[simp] theorem isNon_bl {k : Bool} : (D.bl k).isNon = false := (rfl)
@[simp] theorem isNon_lst : (D.lst ds).isNon = false := (rfl)
@[simp] theorem cmp_inl : cmpop h .in_ d (.lst ds) = isMem h d (.lst ds) := by
  cases d with
  | str s => rcases s with _ | ⟨a, _ | ⟨b, s⟩⟩ <;> rfl
  | _ => rfl
@[simp] theorem cmp_int : cmpop h .in_ d (.tup ds) = isMem h d (.tup ds) := by
  cases d with
  | str s => rcases s with _ | ⟨a, _ | ⟨b, s⟩⟩ <;> rfl
  | _ => rfl
@[simp] theorem cmp_inr {n : Nat} : cmpop h .in_ d (.ref n) = isMem h d (.ref n) := by
  cases d with
  | str s => rcases s with _ | ⟨a, _ | ⟨b, s⟩⟩ <;> rfl
  | _ => rfl
@[simp] theorem cmp_inc {c : Nat} {v : Tx} : cmpop h .in_ (.str [c]) (.str v) = some (decide (c ∈ v)) := (rfl)
@[simp] theorem cmp_ninc {c : Nat} {v : Tx} : cmpop h .notin (.str [c]) (.str v) = some (!decide (c ∈ v)) := (rfl)
@[simp] theorem eqv_str' {u v : Tx} : (D.str u).eqv (.str v) = (u == v) := by rw [D.eqv]
@[simp] theorem eqv_int' {i j : Int} : (D.int i).eqv (.int j) = (i == j) := by rw [D.eqv]
@[simp] theorem eqv_bl' {i j : Bool} : (D.bl i).eqv (.bl j) = (i == j) := by rw [D.eqv]
@[simp] theorem eqv_non' : D.non.eqv .non = true := by rw [D.eqv]
@[simp] theorem eqv_tup' : (D.tup ds).eqv (.tup es) = eqvAll ds es := by rw [D.eqv]
@[simp] theorem eqv_lst' : (D.lst ds).eqv (.lst es) = eqvAll ds es := by rw [D.eqv]
@[simp] theorem cmp_ninl : cmpop h .notin d (.lst ds) = (isMem h d (.lst ds)).map (!·) := by
  cases d with
  | str s => rcases s with _ | ⟨a, _ | ⟨b, s⟩⟩ <;> rfl
  | _ => rfl
@[simp] theorem cmp_nint : cmpop h .notin d (.tup ds) = (isMem h d (.tup ds)).map (!·) := by
  cases d with
  | str s => rcases s with _ | ⟨a, _ | ⟨b, s⟩⟩ <;> rfl
  | _ => rfl
@[simp] theorem intV_bl {k : Bool} : intV h (.bl k) = some (.int (if k then 1 else 0)) := (rfl)
@[simp] theorem intV_int {i : Int} : intV h (.int i) = some (.int i) := (rfl)
@[simp] theorem strV_str {u : Tx} : strV h (.str u) = some (.str u) := (rfl)
@[simp] theorem eqD_tnil : eqD h (.tup ds) (.tup []) = some ds.isEmpty := by cases ds <;> simp [eqD, scalPair, scalar, seen, emptyPair, D.eqv, eqvAll]
@[simp] theorem eqD_lnil : eqD h (.lst ds) (.lst []) = some ds.isEmpty := by cases ds <;> simp [eqD, scalPair, scalar, seen, emptyPair, D.eqv, eqvAll]
@[simp] theorem eqD_rnil {n : Nat} (e : h[n]? = some (.lst ds)) : eqD h (.ref n) (.lst []) = some ds.isEmpty := by cases ds <;> simp [eqD, scalPair, scalar, seen, emptyPair, D.eqv, eqvAll, e]
@[simp] theorem tupleD_ref {n : Nat} (e : h[n]? = some (.lst ds)) : tupleD h (.ref n) = some (.tup ds) := by simp [tupleD, asLst, e]
@[simp] theorem eqD_int {i j : Int} : eqD h (.int i) (.int j) = some (decide (i = j)) := by simp [eqD, scalPair, scalar]; rfl
@[simp] theorem eqD_str {u v : Tx} : eqD h (.str u) (.str v) = some (decide (u = v)) := by simp [eqD, scalPair, scalar]; rw [Bool.eq_iff_iff]; simp
@[simp] theorem eqD_bl {i j : Bool} : eqD h (.bl i) (.bl j) = some (decide (i = j)) := by cases i <;> cases j <;> rfl
@[simp] theorem eqD_ni {i : Int} : eqD h .non (.int i) = some false := by simp [eqD, scalPair, scalar, D.eqv]
@[simp] theorem eqD_in {i : Int} : eqD h (.int i) .non = some false := by simp [eqD, scalPair, scalar, D.eqv]
@[simp] theorem index_tup {i : Int} : index h (.tup ds) (.int i) = (ixn ds.length i).bind fun j => ds[j]? := (rfl)
@[simp] theorem index_lst {i : Int} : index h (.lst ds) (.int i) = (ixn ds.length i).bind fun j => ds[j]? := (rfl)
theorem index_str {s : Tx} {i : Int} : index h (.str s) (.int i) = if s.length ≤ line then ((ixn s.length i).bind fun j => s[j]?).map fun c => .str [c] else none := (rfl)
@[simp] theorem index_roi {is : List Int} {i : Int} : index h (.roi is) (.int i) = (ixn is.length i).bind fun j => (is.map D.int)[j]? := by simp [index]
@[simp] theorem index_ref {n : Nat} {i : Int} (e : h[n]? = some (.lst ds)) : index h (.ref n) (.int i) = (ixn ds.length i).bind fun j => ds[j]? := by simp [index, asSeq, e]
@[simp] theorem walk_s {s : Tx} : walk .e [.str s] = some (s.map fun c => .str [c]) := (rfl)
@[simp] theorem walk_l : walk .e [.lst ds] = some ds := (rfl)
@[simp] theorem walk_t : walk .e [.tup ds] = some ds := (rfl)
@[simp] theorem walk_r {i : Int} : walk .range [.int i] = if -lim ≤ i ∧ i < lim then some (rangeD 0 i.toNat) else none := (rfl)
@[simp] theorem walk_r2 {i j : Int} : walk .range [.int i, .int j] = if -lim ≤ i ∧ i < lim ∧ -lim ≤ j ∧ j < lim then some (rangeD i (j - i).toNat) else none := (rfl)
@[simp] theorem walk_en : walk .enum [.lst ds] = some (enumD ds) := (rfl)
@[simp] theorem walk_zl : walk .zip [.lst ds, .lst es] = some (zipD ds es) := (rfl)
@[simp] theorem walk_zt : walk .zip [.tup ds, .tup es] = some (zipD ds es) := (rfl)
@[simp] theorem len_tup : lenD h (.tup ds) = some (.int ds.length) := (rfl)
@[simp] theorem len_lst : lenD h (.lst ds) = some (.int ds.length) := (rfl)
@[simp] theorem len_roi {is : List Int} : lenD h (.roi is) = some (.int is.length) := by simp [lenD]
@[simp] theorem len_ref {n : Nat} (e : h[n]? = some (.lst ds)) : lenD h (.ref n) = some (.int ds.length) := by simp [lenD, asSeq, e]
@[simp] theorem len_refd {n : Nat} {kvs : List (K1 × D)} (e : h[n]? = some (.dct kvs)) : lenD h (.ref n) = some (.int kvs.length) := by simp [lenD, asSeq, asDct, e]
@[simp] theorem setIx_lst {xs : List D} {n : Nat} {i : Int} (e : h[n]? = some (.lst xs)) : setIx h (.ref n) (.int i) d = (ixn xs.length i).map fun j => h.set n (.lst (xs.set j d)) := by simp [setIx, e]
@[simp] theorem setIx_dcts {kvs : List (K1 × D)} {n : Nat} {u : Tx} (e : h[n]? = some (.dct kvs)) : setIx h (.ref n) (.str u) d = if kvs.length < line then some (h.set n (.dct (put (.inr u) d kvs))) else none := by simp [setIx, e, key1]
@[simp] theorem setIx_dcti {kvs : List (K1 × D)} {n : Nat} {i : Int} (e : h[n]? = some (.dct kvs)) : setIx h (.ref n) (.int i) d = if kvs.length < line then some (h.set n (.dct (put (.inl i) d kvs))) else none := by simp [setIx, e, key1]
@[simp] theorem index_refds {kvs : List (K1 × D)} {n : Nat} {u : Tx} (e : h[n]? = some (.dct kvs)) : index h (.ref n) (.str u) = look (.inr u) kvs := by simp [index, asDct, e]
@[simp] theorem index_refdi {kvs : List (K1 × D)} {n : Nat} {i : Int} (e : h[n]? = some (.dct kvs)) : index h (.ref n) (.int i) = look (.inl i) kvs := by simp [index, asSeq, asDct, e]
@[simp] theorem tupleD_lst : tupleD h (.lst ds) = some (.tup ds) := (rfl)
@[simp] theorem tupleD_tup : tupleD h (.tup ds) = some (.tup ds) := (rfl)
@[simp] theorem listD_tup : listD h (.tup ds) = some (.lst ds) := (rfl)
@[simp] theorem listD_lst : listD h (.lst ds) = some (.lst ds) := (rfl)
@[simp] theorem intD_bl {k : Bool} : intD h (.bl k) = some (.int (if k then 1 else 0)) := (rfl)
@[simp] theorem intD_int {i : Int} : intD h (.int i) = some (.int i) := (rfl)
@[simp] theorem min_int {i j : Int} : minD h (.int i) (.int j) = some (.int (if j < i then j else i)) := (rfl)
@[simp] theorem max_int {i j : Int} : maxD h (.int i) (.int j) = some (.int (if j > i then j else i)) := (rfl)
@[simp] theorem app_ref {xs : List D} {n : Nat} (e : h[n]? = some (.lst xs)) : appD h (.ref n) d = if xs.length < line then some (.non, some (n, .lst (xs ++ [d]))) else none := by simp [appD, e]
@[simp] theorem isLst_ref {xs : List D} {n : Nat} (e : h[n]? = some (.lst xs)) : isLst h (.ref n) = true := by simp [isLst, asLst, e]
@[simp] theorem isStr_str {s : Tx} : isStr h (.str s) = true := (rfl)
end Pl
end
section
set_option linter.all false
set_option autoImplicit false
namespace Pl
open Fw
mutual
theorem map_closed (g : Nat → Option D) : ∀ {d : D}, d.closed = true → d.map_ g = some d
  | .non, _ => rfl
  | .bl _, _ => rfl
  | .int _, _ => rfl
  | .str _, _ => rfl
  | .fn _, _ => rfl
  | .roi _, _ => rfl
  | .ref _, h => by simp [D.closed] at h
  | .tup xs, h => by
    simp only [D.closed] at h
    simp [D.map_, mapAll_closed g h]
  | .lst xs, h => by
    simp only [D.closed] at h
    simp [D.map_, mapAll_closed g h]
  | .dct xs, h => by
    simp only [D.closed] at h
    simp [D.map_, mapK_closed g h]
  | .obj c xs, h => by
    simp only [D.closed] at h
    simp [D.map_, mapF_closed g h]
theorem mapAll_closed (g : Nat → Option D) : ∀ {ds : List D}, closedAll ds = true → mapAll g ds = some ds
  | [], _ => rfl
  | x :: xs, h => by
    simp only [closedAll, Bool.and_eq_true] at h
    simp [mapAll, map_closed g h.1, mapAll_closed g h.2]
theorem mapK_closed (g : Nat → Option D) : ∀ {ds : List (K1 × D)}, closedK ds = true → mapK g ds = some ds
  | [], _ => rfl
  | x :: xs, h => by
    simp only [closedK, Bool.and_eq_true] at h
    simp [mapK, map_closed g h.1, mapK_closed g h.2]
theorem mapF_closed (g : Nat → Option D) : ∀ {ds : List (Nat × D)}, closedF ds = true → mapF g ds = some ds
  | [], _ => rfl
  | x :: xs, h => by
    simp only [closedF, Bool.and_eq_true] at h
    simp [mapF, map_closed g h.1, mapF_closed g h.2]
end
theorem lend_closed : ∀ {ds : List D} {k : Nat}, closedAll ds = true → lend k ds = some (ds, [])
  | [], _, _ => rfl
  | d :: ds, k, h => by
    simp only [closedAll, Bool.and_eq_true] at h
    have ih := lend_closed (k := k) h.2
    cases d <;> simp_all [lend, D.closed]
theorem lent_closed {ds : List D} {h : Hh} (c : closedAll ds = true) : lent ds h = some (ds, [], []) := by
  simp [lent, lend_closed c, lentO]
theorem tell_closed {h : Hh} {ns : List Nat} {d : D} (c : d.closed = true) : tell h ns d = some d := by
  cases d <;> first | (simp [D.closed] at c; done) | exact map_closed _ c
theorem own_closed {np N : Nat} {b : SM} {ds : List D} {h : Hh} (c : closedAll ds = true) (hl : ds.length = np) : own np N b ds h = back [] h (b (startD N ds) []) := by
  simp [own, hl, lent_closed c]
theorem back_rt {h hc : Hh} {d : D} (c : d.closed = true) : back [] h (.rt d hc) = .ok d h := by
  simp [back, tell_closed c, giveBack]
theorem back_nx {h hc : Hh} {σ : Sg} : back [] h (.nx σ hc) = .ok .non h := by
  simp [back, giveBack]
theorem lent_one {ds : List D} {h : Hh} {r : Nat} {o : O} (c : closedAll ds = true) (ho : h[r]? = some o) (co : o.closed = true) : lent (.ref r :: ds) h = some (.ref 0 :: ds, [r], [o]) := by
  simp [lent, lend, lend_closed c, lentO, ho, co]
theorem own_one {np N : Nat} {b : SM} {ds : List D} {h : Hh} {r : Nat} {o : O} (c : closedAll ds = true) (ho : h[r]? = some o) (co : o.closed = true) (hl : ds.length + 1 = np) :
    own np N b (.ref r :: ds) h = back [r] h (b (startD N (.ref 0 :: ds)) [o]) := by
  simp [own, hl, lent_one c ho co]
theorem frzO_closed {hc : Hh} {k : Nat} {o : O} (c : o.closed = true) : frzO hc k o = some o := by
  cases o <;> simp only [O.closed] at c
  · simp [frzO, mapAll_closed _ c]
  · simp [frzO, mapAll_closed _ c]
  · simp [frzO, mapK_closed _ c]
  · simp [frzO, mapF_closed _ c]
  all_goals (first | contradiction | cases c)
theorem back_rt1 {h hc : Hh} {d : D} {r : Nat} {o : O} (c : d.closed = true) (ho : hc[0]? = some o) (co : o.closed = true) : back [r] h (.rt d hc) = .ok d (h.set r o) := by
  simp [back, tell_closed c, giveBack, ho, frzO_closed co]
@[simp] theorem back_cl {h hc : Hh} {d : D} (c : d.closed = true) : back [] h (.rt d hc) = .ok d h := back_rt c
@[simp] theorem back_cl0 {h hc : Hh} {σ : Sg} : back [] h (.nx σ hc) = .ok .non h := back_nx
@[simp] theorem back_cl1 {h hc : Hh} {d : D} {r : Nat} {o : O} (c : d.closed = true) (co : o.closed = true) : back [r] h (.rt d (o :: hc)) = .ok d (h.set r o) := back_rt1 c rfl co
@[simp] theorem back_cl1n {h hc : Hh} {r : Nat} {o : O} {σ : Sg} (co : o.closed = true) : back [r] h (.nx σ (o :: hc)) = .ok .non (h.set r o) := by
  simp [back, giveBack, frzO_closed co]
@[simp] theorem cl_int {i : Int} : (D.int i).closed = true := by simp [D.closed]
@[simp] theorem cl_bl {i : Bool} : (D.bl i).closed = true := by simp [D.closed]
@[simp] theorem cl_str {i : Tx} : (D.str i).closed = true := by simp [D.closed]
@[simp] theorem cl_non : D.non.closed = true := by simp [D.closed]
@[simp] theorem cl_roi {i : List Int} : (D.roi i).closed = true := by simp [D.closed]
@[simp] theorem cl_tup {ds : List D} : (D.tup ds).closed = closedAll ds := by rw [D.closed]
@[simp] theorem cl_lst {ds : List D} : (D.lst ds).closed = closedAll ds := by rw [D.closed]
@[simp] theorem cl_dct {ds : List (K1 × D)} : (D.dct ds).closed = closedK ds := by rw [D.closed]
@[simp] theorem cl_nil : closedAll [] = true := by simp [closedAll]
@[simp] theorem cl_cons {d : D} {ds : List D} : closedAll (d :: ds) = (d.closed && closedAll ds) := by rw [closedAll]
@[simp] theorem cl_knil : closedK [] = true := by simp [closedK]
@[simp] theorem cl_kcons {d : K1 × D} {ds : List (K1 × D)} : closedK (d :: ds) = (d.2.closed && closedK ds) := by rw [closedK]
@[simp] theorem clo_lst {ds : List D} : (O.lst ds).closed = closedAll ds := by simp [O.closed]
@[simp] theorem clo_ro {ds : List D} : (O.ro ds).closed = closedAll ds := by simp [O.closed]
@[simp] theorem clo_dct {ds : List (K1 × D)} : (O.dct ds).closed = closedK ds := by simp [O.closed]
@[simp] theorem clo_ins {c : Nat} {ds : List (Nat × D)} : (O.ins c ds).closed = closedF ds := by simp [O.closed]
@[simp] theorem cl_app {ds es : List D} : closedAll (ds ++ es) = (closedAll ds && closedAll es) := by
  induction ds with
  | nil => simp
  | cons d ds ih => simp [ih, Bool.and_assoc]
theorem cl_all {ds : List D} : closedAll ds = true ↔ ∀ d ∈ ds, d.closed = true := by
  induction ds with
  | nil => simp
  | cons d ds ih => simp [ih]
end Pl
end
section
set_option linter.all false
set_option autoImplicit false
namespace Pl
open Fw
theorem lc_draw {step : D → Hh → R (Option D)} {I : Hh → Prop} {Q : D → Prop} (hs : ∀ x h, I h → ∃ d h', step x h = .ok (some d) h' ∧ I h' ∧ Q d) :
    ∀ (xs acc : List D) (h : Hh), I h → acc.length + xs.length ≤ line → ∃ ds h', lcL step xs acc h = .ok (acc ++ ds) h' ∧ ds.length = xs.length ∧ (∀ d ∈ ds, Q d) ∧ I h' := by
  intro xs
  induction xs with
  | nil => intro acc h i _; exact ⟨[], h, by simp, rfl, by simp, i⟩
  | cons x xs ih =>
    intro acc h i hl
    simp only [List.length_cons] at hl
    obtain ⟨d, h1, e, i1, q⟩ := hs x h i
    obtain ⟨ds, h2, e2, l2, q2, i2⟩ := ih (acc ++ [d]) h1 i1 (by simp only [List.length_append, List.length_cons, List.length_nil]; omega)
    refine ⟨d :: ds, h2, ?_, by simp [l2], ?_, i2⟩
    · rw [lcL_cons, e, lcK_some, if_pos (by omega), e2]
      simp
    · intro z hz
      rcases List.mem_cons.mp hz with rfl | hz
      · exact q
      · exact q2 z hz
theorem for_inv {body : D → Sg → Hh → SR} {I : Sg → Hh → Prop} (hs : ∀ x σ h, I σ h → ∃ σ' h', body x σ h = .nx σ' h' ∧ I σ' h') :
    ∀ (xs : List D) (σ : Sg) (h : Hh), I σ h → ∃ σ' h', forL body xs σ h = .nx σ' h' ∧ I σ' h' := by
  intro xs
  induction xs with
  | nil => intro σ h i; exact ⟨σ, h, rfl, i⟩
  | cons x xs ih =>
    intro σ h i
    obtain ⟨σ1, h1, e, i1⟩ := hs x σ h i
    obtain ⟨σ2, h2, e2, i2⟩ := ih σ1 h1 i1
    exact ⟨σ2, h2, by rw [forL_cons, e, forK_nx, e2], i2⟩
theorem for_invL {body : D → Sg → Hh → SR} {I : List D → Sg → Hh → Prop} (hs : ∀ x xs σ h, I (x :: xs) σ h → ∃ σ' h', body x σ h = .nx σ' h' ∧ I xs σ' h') :
    ∀ (xs : List D) (σ : Sg) (h : Hh), I xs σ h → ∃ σ' h', forL body xs σ h = .nx σ' h' ∧ I [] σ' h' := by
  intro xs
  induction xs with
  | nil => intro σ h i; exact ⟨σ, h, rfl, i⟩
  | cons x xs ih =>
    intro σ h i
    obtain ⟨σ1, h1, e, i1⟩ := hs x xs σ h i
    obtain ⟨σ2, h2, e2, i2⟩ := ih σ1 h1 i1
    exact ⟨σ2, h2, by rw [forL_cons, e, forK_nx, e2], i2⟩
theorem lc_drawR {step : D → Hh → R (Option D)} {xs acc : List D} {h : Hh} {r : R (List D)} (hR : lcL step xs acc h = r) (I : Hh → Prop) (Q : D → Prop) (hs : ∀ x h, I h → ∃ d h', step x h = .ok (some d) h' ∧ I h' ∧ Q d)
    (i : I h) (hl : acc.length + xs.length ≤ line) : ∃ ds h', r = .ok (acc ++ ds) h' ∧ ds.length = xs.length ∧ (∀ d ∈ ds, Q d) ∧ I h' := by
  subst hR
  exact lc_draw hs xs acc h i hl
theorem for_invR {body : D → Sg → Hh → SR} {xs : List D} {σ : Sg} {h : Hh} {r : SR} (hR : forL body xs σ h = r) (I : Sg → Hh → Prop) (hs : ∀ x σ h, I σ h → ∃ σ' h', body x σ h = .nx σ' h' ∧ I σ' h') (i : I σ h) :
    ∃ σ' h', r = .nx σ' h' ∧ I σ' h' := by
  subst hR
  exact for_inv hs xs σ h i
theorem for_invLR {body : D → Sg → Hh → SR} {xs : List D} {σ : Sg} {h : Hh} {r : SR} (hR : forL body xs σ h = r) (I : List D → Sg → Hh → Prop) (hs : ∀ x xs σ h, I (x :: xs) σ h → ∃ σ' h', body x σ h = .nx σ' h' ∧ I xs σ' h') (i : I xs σ h) :
    ∃ σ' h', r = .nx σ' h' ∧ I [] σ' h' := by
  subst hR
  exact for_invL hs xs σ h i
theorem ex_map {α : Type} {f : α → D} {P : α → Prop} : ∀ {ds : List D}, (∀ d ∈ ds, ∃ c, d = f c ∧ P c) → ∃ cs : List α, ds = cs.map f ∧ ∀ c ∈ cs, P c := by
  intro ds
  induction ds with
  | nil => intro _; exact ⟨[], rfl, by simp⟩
  | cons d ds ih =>
    intro h
    obtain ⟨c, rfl, p⟩ := h d List.mem_cons_self
    obtain ⟨cs, rfl, q⟩ := ih fun x hx => h x (List.mem_cons_of_mem _ hx)
    exact ⟨c :: cs, rfl, by intro z hz; rcases List.mem_cons.mp hz with rfl | hz; exact p; exact q z hz⟩
theorem asTexts_map : ∀ ts : List Tx, asTexts (ts.map D.str) = some ts
  | [] => rfl
  | t :: ts => by simp [asTexts, asTexts_map ts]
theorem joinT_nil : ∀ ts : List Tx, joinT [] ts = ts.flatten
  | [] => rfl
  | [t] => by simp [joinT]
  | t :: u :: ts => by simp [joinT, joinT_nil (u :: ts)]
theorem join_texts {h : Hh} {sep : Tx} {ts : List Tx} (hl : (ts.map List.length).sum + ts.length * sep.length ≤ line) : joinD h (.str sep) (.lst (ts.map D.str)) = some (.str (joinT sep ts), none) := by
  simp only [joinD, asSeq_lst, Option.bind_some, asTexts_map]
  rw [if_pos hl]
theorem sum_ones (cs : List Nat) : ((cs.map fun c => [c]).map List.length).sum = cs.length := by
  induction cs with
  | nil => rfl
  | cons c cs ih =>
    simp only [List.map_cons, List.sum_cons, ih]
    simp
    omega
theorem flat_ones (cs : List Nat) : (cs.map fun c => [c]).flatten = cs := by
  induction cs with
  | nil => rfl
  | cons c cs ih => simp [ih]
theorem join_signs {h : Hh} {cs : List Nat} (hl : cs.length ≤ line) : joinD h (.str []) (.lst (cs.map fun c => D.str [c])) = some (.str cs, none) := by
  have e : (cs.map fun c => D.str [c]) = (cs.map fun c => [c]).map D.str := by simp
  rw [e, join_texts (by rw [sum_ones]; simpa using hl), joinT_nil, flat_ones]
@[simp] theorem len_rangeD (a : Int) (n : Nat) : (rangeD a n).length = n := by simp [rangeD]
theorem emod_lt (a : Int) {m : Int} (h : 0 < m) : a % m < m := Int.emod_lt_of_pos a h
theorem emod_ge (a : Int) {m : Int} (h : 0 < m) : 0 ≤ a % m := Int.emod_nonneg a (by omega)
theorem ix_in {ds : List D} {n : Nat} {x : Int} (hn : ds.length = n) (h0 : 0 ≤ x) (h1 : x < n) : ∃ d, d ∈ ds ∧ ((ixn n x).bind fun j => ds[j]?) = some d := by
  subst hn
  refine ⟨ds[x.toNat]'(by omega), List.getElem_mem _, ?_⟩
  simp only [ixn, h0, h1, if_true, Option.bind_some]
  exact List.getElem?_eq_getElem (by omega)
theorem ix_str {s : Tx} {x : Int} (h : Hh) (hl : s.length ≤ line) (h0 : 0 ≤ x) (h1 : x < s.length) : ∃ c, c ∈ s ∧ index h (.str s) (.int x) = some (.str [c]) := by
  refine ⟨s[x.toNat]'(by omega), List.getElem_mem _, ?_⟩
  rw [index_str, if_pos hl]
  simp only [ixn, h0, h1, if_true, Option.bind_some]
  rw [List.getElem?_eq_getElem (by omega)]
  rfl
@[simp] theorem app_get0 {α : Type} (h t : List α) (o : α) : (h ++ o :: t)[h.length]? = some o := by simp
@[simp] theorem app_get1 {α : Type} (h t : List α) (a o : α) : (h ++ a :: o :: t)[h.length + 1]? = some o := by
  rw [List.getElem?_append_right (by omega)]
  simp
@[simp] theorem app_get2 {α : Type} (h t : List α) (a b o : α) : (h ++ a :: b :: o :: t)[h.length + 2]? = some o := by
  rw [List.getElem?_append_right (by omega)]
  simp
@[simp] theorem app_set0 {α : Type} (h t : List α) (o x : α) : (h ++ o :: t).set h.length x = h ++ x :: t := by simp
@[simp] theorem app_set1 {α : Type} (h t : List α) (a o x : α) : (h ++ a :: o :: t).set (h.length + 1) x = h ++ a :: x :: t := by
  rw [List.set_append_right _ _ (by omega)]
  simp
@[simp] theorem app_set2 {α : Type} (h t : List α) (a b o x : α) : (h ++ a :: b :: o :: t).set (h.length + 2) x = h ++ a :: b :: x :: t := by
  rw [List.set_append_right _ _ (by omega)]
  simp
theorem lend_cl {k : Nat} {d : D} {ds : List D} (c : d.closed = true) : lend k (d :: ds) = (lend k ds).map fun q => (d :: q.1, q.2) := by
  cases d <;> first | (simp [D.closed] at c; done) | simp_all [lend]
theorem lent_three {d1 d2 : D} {r : Nat} {o : O} {h : Hh} (c1 : d1.closed = true) (c2 : d2.closed = true) (ho : h[r]? = some o) (co : o.closed = true) : lent [d1, d2, .ref r] h = some ([d1, d2, .ref 0], [r], [o]) := by
  simp [lent, lend_cl c1, lend_cl c2, lend, lentO, ho, co]
theorem own_three {np N : Nat} {b : SM} {d1 d2 : D} {r : Nat} {o : O} {h : Hh} (c1 : d1.closed = true) (c2 : d2.closed = true) (ho : h[r]? = some o) (co : o.closed = true) (hl : 3 = np) :
    own np N b [d1, d2, .ref r] h = back [r] h (b (startD N [d1, d2, .ref 0]) [o]) := by
  subst hl
  simp [own, lent_three c1 c2 ho co]
theorem set_same {α : Type} {h : List α} {r : Nat} {o : α} (e : h[r]? = some o) : h.set r o = h := by
  obtain ⟨hr, rfl⟩ := List.getElem?_eq_some_iff.mp e
  exact List.set_getElem_self hr
end Pl
end
section
set_option linter.all false
set_option autoImplicit false
set_option maxRecDepth 100000
namespace Lw
open Fw Pl
def RoomOk (o : O) : Prop := ∃ a b : Int, o = .lst [.int a, .int b] ∧ 0 ≤ b ∧ b < 2147483648
theorem RoomOk.closed {o : O} (h : RoomOk o) : o.closed = true := by
  obtain ⟨a, b, rfl, _⟩ := h
  rfl
theorem emod_lt (a : Int) {m : Int} (h : 0 < m) : a % m < m := Int.emod_lt_of_pos a h
theorem emod_ge (a : Int) {m : Int} (h : 0 < m) : 0 ≤ a % m := Int.emod_nonneg a (by omega)
theorem r_take (F n : Nat) {h : Hh} {r : Nat} {o : O} {m : Int} (hr : h[r]? = some o) (ho : RoomOk o) (h0 : 0 < m) (h1 : m < 1073741824) :
    ∃ x o', RoomOk o' ∧ 0 ≤ x ∧ x < m ∧ run F (n + 1) ix__law_take [.ref r, .int m] h = .ok (.int x) (h.set r o') := by
  rw [run__law_take, own_one (np := 2) (by simp [closedAll, D.closed]) hr ho.closed rfl]
  obtain ⟨a, b, rfl, hb, hb'⟩ := ho
  simp [b__law_take, startD, ixn]
  by_cases ha : 0 < a
  · simp [ha, h0, h1, ixn]
    exact ⟨_, _, ⟨_, _, rfl, hb, hb'⟩, emod_ge _ h0, emod_lt _ h0, rfl, rfl⟩
  · simp [ha]
    have q : ∀ b : Int, -18446744073709551616 < (b * 48271 + 11) % 2147483647 ∧ (b * 48271 + 11) % 2147483647 < 18446744073709551616 := by intro b; omega
    have q1 : ∀ b : Int, 0 ≤ (b * 48271 + 11) % 2147483647 ∧ (b * 48271 + 11) % 2147483647 < 2147483648 := by intro b; omega
    simp [h0, h1, q, ixn]
    exact ⟨_, _, ⟨_, _, rfl, (q1 _).1, (q1 _).2⟩, emod_ge _ h0, emod_lt _ h0, rfl, rfl⟩
theorem r_pool (F n : Nat) (ns : List Int) (k : Nat) (h : Hh) (hk : k ≤ 63) : ∃ o, RoomOk o ∧ run F (n + 1) ix__law_pool [.roi ns, .int k] h = .ok (.ref h.length) (h ++ [o]) := by
  rw [run__law_pool]
  have q1 : ∀ b : Int, 0 ≤ b % 2147483587 + 1 ∧ b % 2147483587 + 1 < 2147483648 := by intro b; omega
  have q2 : ∀ b : Int, -18446744073709551616 < b % 2147483647 ∧ b % 2147483647 < 18446744073709551616 := by intro b; omega
  have hk1 : (-18446744073709551616 : Int) < 7919 * k ∧ (7919 * k : Int) < 18446744073709551616 := by omega
  have hk2 : (-18446744073709551616 : Int) < k ∧ (k : Int) < 18446744073709551616 := by omega
  simp [full, b__law_pool, startD]
  by_cases c : k < ns.length
  · have hi : (ns.map D.int)[k]? = some (.int ns[k]) := by simp [List.getElem?_eq_getElem c]
    by_cases c2 : ns[k] < 1000000000000000000
    · simp [c, ixn, c2, SR.out, hk1, hk2, q2]
      exact ⟨_, _, rfl, (q1 _).1, (q1 _).2⟩
    · simp [c, ixn, c2, SR.out, hk1, hk2, q2]
      exact ⟨_, _, rfl, (q1 _).1, (q1 _).2⟩
  · simp [c, SR.out, hk1, hk2, q2]
    exact ⟨_, _, rfl, (q1 _).1, (q1 _).2⟩
end Lw
end
section
set_option linter.all false
set_option autoImplicit false
namespace Pl
open Fw
abbrev wTo : Tx := [116, 111]
abbrev wRow : Tx := [114, 111, 119]
abbrev wTable : Tx := [116, 97, 98, 108, 101]
abbrev wStream : Tx := [115, 116, 114, 101, 97, 109]
abbrev wName : Tx := [110, 97, 109, 101]
inductive Vl where
  | non
  | int (i : Int)
  | str (s : Tx)
  | name (s : Tx)
  | to (k e : Int)
  | row (vs : List Vl)
  | table (es : List (Tx × Vl))
  | stream (es : List (Tx × Vl)) (s : Tx)
mutual
def Vl.d : Vl → D
  | .non => .non
  | .int i => .int i
  | .str s => .str s
  | .name s => .tup [.str wName, .str s]
  | .to k e => .tup [.str wTo, .int k, .int e]
  | .row vs => .tup [.str wRow, .tup (dAll vs)]
  | .table es => .tup [.str wTable, .tup (dEnt es)]
  | .stream es s => .tup [.str wStream, .tup (dEnt es), .str s]
def dAll : List Vl → List D
  | [] => []
  | v :: vs => v.d :: dAll vs
def dEnt : List (Tx × Vl) → List D
  | [] => []
  | e :: es => .tup [.str e.1, e.2.d] :: dEnt es
end
mutual
def Vl.refs : Vl → List (Int × Int)
  | .to k e => [(k, e)]
  | .row vs => refsAll vs
  | .table es => refsEnt es
  | .stream es _ => refsEnt es
  | _ => []
def refsAll : List Vl → List (Int × Int)
  | [] => []
  | v :: vs => v.refs ++ refsAll vs
def refsEnt : List (Tx × Vl) → List (Int × Int)
  | [] => []
  | e :: es => e.2.refs ++ refsEnt es
end
mutual
def Vl.deep : Vl → Nat
  | .row vs => deepAll vs + 1
  | .table es => deepEnt es + 1
  | .stream es _ => deepEnt es + 1
  | _ => 1
def deepAll : List Vl → Nat
  | [] => 0
  | v :: vs => max v.deep (deepAll vs)
def deepEnt : List (Tx × Vl) → Nat
  | [] => 0
  | e :: es => max e.2.deep (deepEnt es)
end
def toD (q : Int × Int) : D := .tup [.str wTo, .int q.1, .int q.2]
mutual
theorem Vl.closed : ∀ v : Vl, v.d.closed = true
  | .non => rfl
  | .int _ => rfl
  | .str _ => rfl
  | .name _ => rfl
  | .to _ _ => rfl
  | .row vs => by simp [Vl.d, D.closed, closedAll, dAll_closed vs]
  | .table es => by simp [Vl.d, D.closed, closedAll, dEnt_closed es]
  | .stream es _ => by simp [Vl.d, D.closed, closedAll, dEnt_closed es]
theorem dAll_closed : ∀ vs : List Vl, closedAll (dAll vs) = true
  | [] => rfl
  | v :: vs => by simp [dAll, closedAll, Vl.closed v, dAll_closed vs]
theorem dEnt_closed : ∀ es : List (Tx × Vl), closedAll (dEnt es) = true
  | [] => rfl
  | e :: es => by simp [dEnt, closedAll, D.closed, Vl.closed e.2, dEnt_closed es]
end
def Vl.parts : Vl → List Vl
  | .row vs => vs
  | .table es => es.map (·.2)
  | .stream es _ => es.map (·.2)
  | _ => []
theorem dAll_map (vs : List Vl) : dAll vs = vs.map Vl.d := by
  induction vs with
  | nil => rfl
  | cons v vs ih => simp [dAll, ih]
mutual
def Vl.sz : Vl → Nat
  | .row vs => szAll vs + 1
  | .table es => szEnt es + 1
  | .stream es _ => szEnt es + 1
  | _ => 1
def szAll : List Vl → Nat
  | [] => 0
  | v :: vs => v.sz + szAll vs
def szEnt : List (Tx × Vl) → Nat
  | [] => 0
  | e :: es => e.2.sz + szEnt es
end
@[simp] theorem vcl (v : Vl) : v.d.closed = true := v.closed
@[simp] theorem vcla (vs : List Vl) : closedAll (dAll vs) = true := dAll_closed vs
@[simp] theorem vcle (es : List (Tx × Vl)) : closedAll (dEnt es) = true := dEnt_closed es
def letter (c : Nat) : Prop := 97 ≤ c ∧ c ≤ 122
def WordOk (s : Tx) : Prop := 1 ≤ s.length ∧ s.length ≤ 8 ∧ ∀ c ∈ s, letter c
def signOk (c : Nat) : Prop := 32 ≤ c ∧ c ≤ 126
def rises (ws : List Tx) : Prop := ws.Pairwise (· < ·)
mutual
def Vl.pl : Vl → Prop
  | .non => True
  | .int i => -1000000000000000000000000000000 < i ∧ i < 1000000000000000000000000000000
  | .str s => s.length ≤ 200 ∧ ∀ c ∈ s, signOk c
  | .name s => WordOk s
  | .to k e => 1 ≤ k ∧ k ≤ 200 ∧ 0 ≤ e ∧ e ≤ 99
  | .row vs => vs.length ≤ 60 ∧ plAll vs
  | .table es => es.length ≤ 30 ∧ rises (es.map (·.1)) ∧ plEnt es
  | .stream _ _ => False
def plAll : List Vl → Prop
  | [] => True
  | v :: vs => v.pl ∧ plAll vs
def plEnt : List (Tx × Vl) → Prop
  | [] => True
  | e :: es => WordOk e.1 ∧ e.2.pl ∧ plEnt es
end
def Vl.ok : Vl → Prop
  | .stream es s => es.length ≤ 30 ∧ rises (es.map (·.1)) ∧ plEnt es ∧ s.length ≤ 2000 ∧ ∀ c ∈ s, signOk c ∨ c = 10
  | v => v.pl
theorem dEnt_map (es : List (Tx × Vl)) : dEnt es = es.map fun e => .tup [.str e.1, e.2.d] := by
  induction es with
  | nil => rfl
  | cons e es ih => simp [dEnt, ih]
end Pl
end
section
set_option linter.all false
set_option autoImplicit false
namespace Pl
open Fw
theorem sortT_perm (ts : List Tx) : (sortT ts).Perm ts := List.mergeSort_perm _ _
@[simp] theorem sortT_len (ts : List Tx) : (sortT ts).length = ts.length := (sortT_perm ts).length_eq
abbrev Es := List (Tx × Vl)
def kvE (es : Es) : List (K1 × D) := es.map fun e => (.inr e.1, e.2.d)
def putE (w : Tx) (v : Vl) (es : Es) : Es := if w ∈ es.map (·.1) then es.map fun e => if e.1 = w then (e.1, v) else e else es ++ [(w, v)]
def getE (w : Tx) (es : Es) : Option Vl := (es.find? fun e => decide (e.1 = w)).map (·.2)
def sortE (es : Es) : Es := (sortT (es.map (·.1))).map fun w => (w, (getE w es).getD .non)
@[simp] theorem sortE_len {es : Es} : (sortE es).length = es.length := by simp [sortE]
end Pl
end
section
set_option linter.all false
set_option autoImplicit false
namespace Pl
open Fw
mutual
def D.pure : D → Bool
  | .obj _ _ => false
  | .fn _ => false
  | .ref _ => false
  | .roi _ => false
  | .tup xs => pureAll xs
  | .lst xs => pureAll xs
  | .dct kvs => pureK kvs
  | _ => true
def pureAll : List D → Bool
  | [] => true
  | x :: xs => D.pure x && pureAll xs
def pureK : List (K1 × D) → Bool
  | [] => true
  | x :: xs => D.pure x.2 && pureK xs
end
mutual
theorem pure_closed : ∀ {d : D}, D.pure d = true → d.closed = true
  | .non, _ => rfl
  | .bl _, _ => rfl
  | .int _, _ => rfl
  | .str _, _ => rfl
  | .fn _, h => by simp [D.pure] at h
  | .roi _, _ => rfl
  | .obj _ _, h => by simp [D.pure] at h
  | .ref _, h => by simp [D.pure] at h
  | .tup xs, h => by
    simp only [D.pure] at h
    simp [pureAll_closed h]
  | .lst xs, h => by
    simp only [D.pure] at h
    simp [pureAll_closed h]
  | .dct xs, h => by
    simp only [D.pure] at h
    simp [pureK_closed h]
theorem pureAll_closed : ∀ {ds : List D}, pureAll ds = true → closedAll ds = true
  | [], _ => rfl
  | x :: xs, h => by
    simp only [pureAll, Bool.and_eq_true] at h
    simp [pure_closed h.1, pureAll_closed h.2]
theorem pureK_closed : ∀ {ds : List (K1 × D)}, pureK ds = true → closedK ds = true
  | [], _ => rfl
  | x :: xs, h => by
    simp only [pureK, Bool.and_eq_true] at h
    simp [pure_closed h.1, pureK_closed h.2]
end
@[simp] theorem pure_tup {ds : List D} : D.pure (.tup ds) = pureAll ds := by rw [D.pure]
@[simp] theorem pure_lst {ds : List D} : D.pure (.lst ds) = pureAll ds := by rw [D.pure]
@[simp] theorem pure_dct {ds : List (K1 × D)} : D.pure (.dct ds) = pureK ds := by rw [D.pure]
@[simp] theorem pure_non : D.pure .non = true := by simp [D.pure]
@[simp] theorem pure_int {i : Int} : D.pure (.int i) = true := by simp [D.pure]
@[simp] theorem pure_bl {i : Bool} : D.pure (.bl i) = true := by simp [D.pure]
@[simp] theorem pure_str {i : Tx} : D.pure (.str i) = true := by simp [D.pure]
@[simp] theorem pureA_nil : pureAll [] = true := by simp [pureAll]
@[simp] theorem pureA_cons {d : D} {ds : List D} : pureAll (d :: ds) = (D.pure d && pureAll ds) := by rw [pureAll]
@[simp] theorem pureA_app {ds es : List D} : pureAll (ds ++ es) = (pureAll ds && pureAll es) := by
  induction ds with
  | nil => simp
  | cons d ds ih => simp [ih, Bool.and_assoc]
mutual
@[simp] theorem Vl.dpure : ∀ v : Vl, D.pure v.d = true
  | .non => rfl
  | .int _ => rfl
  | .str _ => rfl
  | .name _ => rfl
  | .to _ _ => rfl
  | .row vs => by simp [Vl.d, dAll_pure vs]
  | .table es => by simp [Vl.d, dEnt_pure es]
  | .stream es _ => by simp [Vl.d, dEnt_pure es]
@[simp] theorem dAll_pure : ∀ vs : List Vl, pureAll (dAll vs) = true
  | [] => rfl
  | v :: vs => by simp [dAll, Vl.dpure v, dAll_pure vs]
@[simp] theorem dEnt_pure : ∀ es : List (Tx × Vl), pureAll (dEnt es) = true
  | [] => rfl
  | e :: es => by simp [dEnt, Vl.dpure e.2, dEnt_pure es]
end
def isTupD : D → Bool
  | .tup _ => true
  | _ => false
def isStrD : D → Bool
  | .str _ => true
  | _ => false
def isBlD : D → Bool
  | .bl _ => true
  | _ => false
def isIntD : D → Bool
  | .int _ => true
  | .bl _ => true
  | _ => false
def isLstD : D → Bool
  | .lst _ => true
  | _ => false
def wholeD : D → Bool
  | .int _ => true
  | _ => false
def fromD (a b : Int) : D → Bool
  | .int i => decide (a ≤ i) && decide (i ≤ b)
  | _ => false
theorem isT_tup {d : D} {h : Hh} (p : D.pure d = true) : isT (isOf .tup) h d = some (.bl (isTupD d)) := by
  cases d <;> first | rfl | simp [D.pure] at p
@[simp] theorem isTupD_tup {ds : List D} : isTupD (.tup ds) = true := rfl
@[simp] theorem isTupD_v (v : Vl) : isTupD v.d = (match v with | .non => false | .int _ => false | .str _ => false | _ => true) := by cases v <;> rfl
def sndD : D → D
  | .tup [_, v] => v
  | _ => .non
@[simp] theorem sndD_two {a b : D} : sndD (.tup [a, b]) = b := rfl
def nc1 (o p : Option (List D)) (h : Hh) : R D := match o, p with
  | some xs, some ys => if xs.length + ys.length ≤ line then .ok (.ref h.length) (h ++ [.lst (xs ++ ys)]) else .bad
  | _, _ => .bad
@[simp] theorem nc1_ok {xs ys : List D} {h : Hh} : nc1 (some xs) (some ys) h = if xs.length + ys.length ≤ line then .ok (.ref h.length) (h ++ [.lst (xs ++ ys)]) else .bad := rfl
def kNC2 (d : D) (r : R D) : R D := r.bind fun e h => nc1 (asLst h d) (asLst h e) h
@[simp] theorem kNC2_ok {d e : D} {h : Hh} : kNC2 d (.ok e h) = nc1 (asLst h d) (asLst h e) h := rfl
def kNC1 (b : TM) (σ : Sg) (r : R D) : R D := r.bind fun d h => kNC2 d (b σ h)
@[simp] theorem kNC1_ok {b : TM} {σ : Sg} {d : D} {h : Hh} : kNC1 b σ (.ok d h) = kNC2 d (b σ h) := rfl
theorem eNewCat_eq' {a b : TM} {σ : Sg} {h : Hh} : eNewCat a b σ h = kNC1 b σ (a σ h) := by
  unfold eNewCat kNC1 kNC2
  congr 1
@[simp] theorem eNewCat_eq {a b : TM} {σ : Sg} {h : Hh} : eNewCat a b σ h = kNC1 b σ (a σ h) := eNewCat_eq'
@[simp] theorem popD_ref {h : Hh} {xs : List D} {n : Nat} {i : Int} (e : h[n]? = some (.lst xs)) : popD h (.ref n) (.int i) = (ixn xs.length i).bind fun j => (xs[j]?).map fun d => (d, some (n, .lst (xs.eraseIdx j))) := by
  simp [popD, e]
end Pl
end
section
set_option linter.all false
set_option autoImplicit false
namespace Pl
open Fw
inductive Turn {α : Type} (p : BM) (s : SM) (enc : α → Sg) (hh : α → Hh) (out : α → SR) (I : α → Prop) (μ : α → Nat) (a : α) : Prop
  | stop : p (enc a) (hh a) = .ok false (hh a) → out a = .nx (enc a) (hh a) → Turn p s enc hh out I μ a
  | ret (d : D) (h' : Hh) : p (enc a) (hh a) = .ok true (hh a) → s (enc a) (hh a) = .rt d h' → out a = .rt d h' → Turn p s enc hh out I μ a
  | next (b : α) : p (enc a) (hh a) = .ok true (hh a) → s (enc a) (hh a) = .nx (enc b) (hh b) → I b → μ b < μ a → out a = out b → Turn p s enc hh out I μ a
inductive FTurn {α : Type} (body : D → Sg → Hh → SR) (enc : α → Sg) (hh : α → Hh) (out : α → List D → SR) (I : α → List D → Prop) (a : α) (x : D) (xs : List D) : Prop
  | ret (d : D) (h' : Hh) : body x (enc a) (hh a) = .rt d h' → out a (x :: xs) = .rt d h' → FTurn body enc hh out I a x xs
  | next (b : α) : body x (enc a) (hh a) = .nx (enc b) (hh b) → I b xs → out a (x :: xs) = out b xs → FTurn body enc hh out I a x xs
inductive TurnR {α : Type} (p : BM) (s : SM) (enc : α → Sg) (hh : α → Hh) (Out : α → SR → Prop) (I : α → Prop) (μ : α → Nat) (a : α) : Prop
  | stop : p (enc a) (hh a) = .ok false (hh a) → Out a (.nx (enc a) (hh a)) → TurnR p s enc hh Out I μ a
  | ret (d : D) (h' : Hh) : p (enc a) (hh a) = .ok true (hh a) → s (enc a) (hh a) = .rt d h' → Out a (.rt d h') → TurnR p s enc hh Out I μ a
  | next (b : α) : p (enc a) (hh a) = .ok true (hh a) → s (enc a) (hh a) = .nx (enc b) (hh b) → I b → μ b < μ a → (∀ r, Out b r → Out a r) → TurnR p s enc hh Out I μ a
theorem wh_goR {α : Type} {p : BM} {s : SM} {enc : α → Sg} {hh : α → Hh} {Out : α → SR → Prop} {I : α → Prop} {μ : α → Nat} (hs : ∀ a, I a → TurnR p s enc hh Out I μ a) :
    ∀ (N : Nat) (a : α), I a → μ a < N → Out a (whL p s N (enc a) (hh a)) := by
  intro N
  induction N with
  | zero => intro a _ h; omega
  | succ N ih =>
    intro a i h
    rw [whL_succ]
    cases hs a i with
    | stop e1 e2 => rw [e1, whI_ok, whI1_f]; exact e2
    | ret d h' e1 e2 e3 => rw [e1, whI_ok, whI1_t, e2, whK_rt]; exact e3
    | next b e1 e2 i' hm e3 => rw [e1, whI_ok, whI1_t, e2, whK_nx]; exact e3 _ (ih b i' (by omega))
theorem wh_rel {α : Type} {p : BM} {s : SM} {N : Nat} {σ : Sg} {h : Hh} {rr : SR} (hR : whL p s N σ h = rr) (enc : α → Sg) (hh : α → Hh) (Out : α → SR → Prop) (I : α → Prop) (μ : α → Nat)
    (hs : ∀ a, I a → TurnR p s enc hh Out I μ a) (a : α) (e1 : σ = enc a) (e2 : h = hh a) (i : I a) (hN : μ a < N) : Out a rr := by
  subst e1 e2
  subst hR
  exact wh_goR hs N a i hN
inductive FTurnR {α : Type} (body : D → Sg → Hh → SR) (enc : α → Sg) (hh : α → Hh) (Out : α → List D → SR → Prop) (I : α → List D → Prop) (a : α) (x : D) (xs : List D) : Prop
  | ret (d : D) (h' : Hh) : body x (enc a) (hh a) = .rt d h' → Out a (x :: xs) (.rt d h') → FTurnR body enc hh Out I a x xs
  | next (b : α) : body x (enc a) (hh a) = .nx (enc b) (hh b) → I b xs → (∀ r, Out b xs r → Out a (x :: xs) r) → FTurnR body enc hh Out I a x xs
def sub (t : Tx) (a b : Nat) : Tx := (t.drop a).take (b - a)
@[simp] theorem isMem_tup {h : Hh} {d : D} {xs : List D} : isMem h d (.tup xs) = if scalar d && xs.all scalar then some (xs.any fun y => y.eqv d) else none := rfl
@[simp] theorem isMem_lst {h : Hh} {d : D} {xs : List D} : isMem h d (.lst xs) = if scalar d && xs.all scalar then some (xs.any fun y => y.eqv d) else none := rfl
@[simp] theorem sc_str {t : Tx} : scalar (.str t) = true := rfl
@[simp] theorem sc_int {i : Int} : scalar (.int i) = true := rfl
@[simp] theorem sc_non : scalar .non = true := rfl
@[simp] theorem sc_bl {b : Bool} : scalar (.bl b) = true := rfl
end Pl
end
section
set_option linter.all false
set_option autoImplicit false
namespace Pl
open Fw
section
variable {elt : TM} {g : G} {it : It} {cond : BM} {own : List Nat} {F n : Nat} {σ : Sg} {h : Hh} {x : Exn} {r : R D} {src : TM} {b : SM}
def kLcJ (b : Bool) (r : R (List D)) : R D := if b then kLcE (noX r) else .bad
@[simp] theorem kLcJ_t {r : R (List D)} : kLcJ true r = kLcE (noX r) := (rfl)
def kLcI (elt : TM) (g : G) (it : It) (cond : BM) (own : List Nat) (F : Nat) (σ : Sg) (r : R D) : R D := r.bind fun d h => match d with
  | .ref n => kLcJ (isOwnL h n) (lcLI n it (lcStep elt g cond own σ) F 0 [] h)
  | _ => .bad
@[simp] theorem eLcI_eq : eLcI elt g it src cond own F σ h = kLcI elt g it cond own F σ (src σ h) := (rfl)
@[simp] theorem kLcI_ok : kLcI elt g it cond own F σ (.ok (.ref n) h) = kLcJ (isOwnL h n) (lcLI n it (lcStep elt g cond own σ) F 0 [] h) := (rfl)
@[simp] theorem kLcI_xn : kLcI elt g it cond own F σ (.xn x h) = .xn x h := (rfl)
@[simp] theorem kLcI_bad : kLcI elt g it cond own F σ .bad = .bad := (rfl)
def kForJ (b : Bool) (r : SR) : SR := if b then r else .bad
@[simp] theorem kForJ_t {r : SR} : kForJ true r = r := (rfl)
def kForI (g : G) (it : It) (b : SM) (F : Nat) (σ : Sg) (r : R D) : SR := SR.of σ r fun d h => match d with
  | .ref n => kForJ (isOwnL h n) (forLI n it (forB g b) F 0 σ h)
  | _ => .bad
@[simp] theorem sForI_eq : sForI g it src b F σ h = kForI g it b F σ (src σ h) := (rfl)
@[simp] theorem kForI_ok : kForI g it b F σ (.ok (.ref n) h) = kForJ (isOwnL h n) (forLI n it (forB g b) F 0 σ h) := (rfl)
@[simp] theorem kForI_xn : kForI g it b F σ (.xn x h) = .xn x σ h := (rfl)
@[simp] theorem kForI_bad : kForI g it b F σ .bad = .bad := (rfl)
end
theorem isOwn_of {h : Hh} {n : Nat} {ys : List D} (e : h[n]? = some (.lst ys)) : isOwnL h n = true := by simp [isOwnL, e]
def itms : It → List D → List D
  | .enum, ys => enumD ys
  | _, ys => ys
@[simp] theorem itms_e (ys : List D) : itms .e ys = ys := rfl
@[simp] theorem itms_enum (ys : List D) : itms .enum ys = enumD ys := rfl
@[simp] theorem itms_len {it : It} {ys : List D} : (itms it ys).length = ys.length := by
  cases it <;> simp [itms, enumD]
theorem lc_mapM {α : Type} {g : α → D} {f : α → D} {step : D → Hh → R (Option D)} {h : Hh} {rr : R (List D)} {xs : List α} (hR : lcL step (xs.map g) [] h = rr) (hs : ∀ x ∈ xs, step (g x) h = .ok (some (f x)) h) (hl : xs.length ≤ line) : rr = .ok (xs.map f) h := by
  subst hR
  have : ∀ (xs : List α) (acc : List D), (∀ x ∈ xs, step (g x) h = .ok (some (f x)) h) → acc.length + xs.length ≤ line → lcL step (xs.map g) acc h = .ok (acc ++ xs.map f) h := by
    intro xs
    induction xs with
    | nil => intro acc _ _; simp
    | cons x xs ih =>
      intro acc hs hl
      simp only [List.length_cons] at hl
      rw [List.map_cons, lcL_cons, hs x List.mem_cons_self, lcK_some, if_pos (by omega), ih _ (fun y hy => hs y (List.mem_cons_of_mem _ hy)) (by simp only [List.length_append, List.length_cons, List.length_nil]; omega)]
      simp
  rw [this xs [] hs (by simpa using hl)]
  rfl
theorem zipD_map {α β : Type} {f : α → D} {g : β → D} : ∀ (xs : List α) (ys : List β), zipD (xs.map f) (ys.map g) = (xs.zip ys).map fun q => .tup [f q.1, g q.2]
  | [], _ => by simp [zipD]
  | _ :: _, [] => by simp [zipD]
  | x :: xs, y :: ys => by simp [zipD, zipD_map xs ys]
theorem forI_go {n : Nat} {it : It} {body : D → Sg → Hh → SR} {ys : List D} {I : Nat → Sg → Hh → Prop} (hk : ∀ i σ h, I i σ h → h[n]? = some (.lst ys))
    (hs : ∀ i x σ h, ys[i]? = some x → I i σ h → ∃ σ' h', body (itmI it i x) σ h = .nx σ' h' ∧ I (i + 1) σ' h') :
    ∀ (F i : Nat) (σ : Sg) (h : Hh), I i σ h → i ≤ ys.length → ys.length - i < F → ∃ σ' h', forLI n it body F i σ h = .nx σ' h' ∧ I ys.length σ' h' := by
  intro F
  induction F with
  | zero => intro i σ h _ _ hF; omega
  | succ F ih =>
    intro i σ h hI hi hF
    rw [forLI, hk i σ h hI]
    dsimp only
    cases e : ys[i]? with
    | none =>
      have : ys.length ≤ i := List.getElem?_eq_none_iff.mp e
      have : i = ys.length := by omega
      subst this
      exact ⟨σ, h, rfl, hI⟩
    | some y =>
      have hi : i < ys.length := (List.getElem?_eq_some_iff.mp e).1
      obtain ⟨σ1, h1, e1, I1⟩ := hs i y σ h e hI
      simp only [e1]
      exact ih (i + 1) σ1 h1 I1 (by omega) (by omega)
theorem forI_invR {n F : Nat} {it : It} {body : D → Sg → Hh → SR} {σ : Sg} {h : Hh} {rr : SR} (hR : forLI n it body F 0 σ h = rr) {ys : List D} (I : Nat → Sg → Hh → Prop) (hk : ∀ i σ h, I i σ h → h[n]? = some (.lst ys))
    (hs : ∀ i x σ h, ys[i]? = some x → I i σ h → ∃ σ' h', body (itmI it i x) σ h = .nx σ' h' ∧ I (i + 1) σ' h') (i : I 0 σ h) (hF : ys.length < F) : ∃ σ' h', rr = .nx σ' h' ∧ I ys.length σ' h' := by
  subst hR
  exact forI_go hk hs F 0 σ h i (Nat.zero_le _) (by omega)
end Pl
end
section
set_option linter.all false
set_option autoImplicit false
set_option maxRecDepth 100000
namespace Lw
open Fw Pl
def Rm (h : Hh) : Prop := ∃ o, h = [o] ∧ RoomOk o
abbrev wKids : Tx := [107, 105, 100, 115]
abbrev wText : Tx := [116, 101, 120, 116]
def fourW : List Tx := [[97], wKids, wText, [122, 122]]
def strT : List Tx := [[], [101, 110, 100, 10], [116, 104, 105, 110, 103, 32, 49, 32, 48, 10]]
def FitS (s : Tx) : Prop := s.length ≤ 6 ∧ ∀ c ∈ s, 32 ≤ c ∧ c ≤ 126 ∧ c ≠ 34 ∧ c ≠ 39
def fit : Nat → Vl → Prop
  | _, .non => True
  | _, .int i => i = 5
  | _, .str s => FitS s
  | _, .name s => s = wKids
  | _, .to k e => (1 ≤ k ∧ k ≤ 200) ∧ 0 ≤ e ∧ e ≤ 99
  | m + 1, .row vs => vs.length ≤ 3 ∧ ∀ v ∈ vs, fit m v
  | m + 1, .table es => es.length ≤ 3 ∧ ∀ e ∈ es, e.1 ∈ fourW ∧ fit m e.2
  | m + 1, .stream es s => es.length ≤ 3 ∧ (∀ e ∈ es, e.1 ∈ fourW ∧ fit m e.2) ∧ s ∈ strT
  | 0, .row _ => False
  | 0, .table _ => False
  | 0, .stream _ _ => False
theorem fit_up : ∀ {m : Nat} {v : Vl}, fit m v → fit (m + 1) v
  | _, .non, h => trivial
  | _, .int _, h => by cases ‹Nat› <;> exact h
  | _, .str _, h => by cases ‹Nat› <;> exact h
  | _, .name _, h => by cases ‹Nat› <;> exact h
  | _, .to _ _, h => by cases ‹Nat› <;> exact h
  | m + 1, .row vs, h => ⟨h.1, fun v hv => fit_up (h.2 v hv)⟩
  | m + 1, .table es, h => ⟨h.1, fun e he => ⟨(h.2 e he).1, fit_up (h.2 e he).2⟩⟩
  | m + 1, .stream es s, h => ⟨h.1, fun e he => ⟨(h.2.1 e he).1, fit_up (h.2.1 e he).2⟩, h.2.2⟩
  | 0, .row _, h => h.elim
  | 0, .table _, h => h.elim
  | 0, .stream _ _, h => h.elim
theorem r_line (F n : Nat) {h : Hh} {r : Nat} {o : O} (hr : h[r]? = some o) (ho : RoomOk o) :
    ∃ s o', RoomOk o' ∧ FitS s ∧ run F (n + 2) ix__law_line [.ref r] h = .ok (.str s) (h.set r o') := by
  rw [run__law_line, own_one (np := 1) (by simp) hr ho.closed rfl]
  obtain ⟨k, o1, ho1, k1, k8, e1⟩ := r_take F n (h := [o]) (r := 0) (m := 7) rfl ho (by decide) (by decide)
  simp [b__law_line, startD, e1]
  rw [if_pos (by omega)]
  simp
  generalize hR : lcL _ _ _ _ = rr
  obtain ⟨ds, h2, rfl, l3, q3, o2, rfl, ho2⟩ := lc_drawR hR Rm (fun d => ∃ c, d = .str [c] ∧ 32 ≤ c ∧ c ≤ 126 ∧ c ≠ 34 ∧ c ≠ 39) (by
    rintro x _ ⟨o, rfl, ho⟩
    obtain ⟨y, o', ho', y0, y1, e⟩ := r_take F n (h := [o]) (r := 0) (m := 17) rfl ho (by decide) (by decide)
    obtain ⟨c, hc, ec⟩ := ix_str (s := [97, 98, 40, 41, 92, 47, 60, 62, 91, 93, 58, 126, 45, 48, 32, 49, 110]) [o'] (by decide) y0 y1
    refine ⟨_, _, by simp [e, ec], ⟨_, rfl, ho'⟩, c, rfl, ?_⟩
    simp at hc
    omega) ⟨_, rfl, ho1⟩ (by simp; omega)
  obtain ⟨cs, rfl, hcs⟩ := ex_map q3
  simp at l3
  refine ⟨cs, o2, ho2, ⟨by omega, hcs⟩, ?_⟩
  simp [join_signs (cs := cs) (by simp; omega), ho2.closed]
theorem r_ref_in (F n : Nat) {h : Hh} {r : Nat} {o : O} (hr : h[r]? = some o) (ho : RoomOk o) {m : Int} (m0 : 0 ≤ m) (m1 : m ≤ 20) :
    ∃ (v : Vl) (q : Int × Int) (o' : O), RoomOk o' ∧ v = .to q.1 q.2 ∧ fit 0 v ∧ run F (n + 2) ix__law_ref_in [.ref r, .int m] h = .ok v.d (h.set r o') := by
  rw [run__law_ref_in, own_one (np := 2) (by simp) hr ho.closed rfl]
  obtain ⟨x, o1, ho1, x0, x1, e1⟩ := r_take F n (h := [o]) (r := 0) (m := m + 2) rfl ho (by omega) (by omega)
  obtain ⟨u, o4, ho4, u0, u1, e4⟩ := r_take F n (h := [o1]) (r := 0) (m := 4) rfl ho1 (by decide) (by decide)
  obtain ⟨e, he, e6⟩ := ix_in (ds := [.int 0, .int 0, .int 0, .int 1]) (n := 4) rfl u0 (by omega)
  have hj : ∃ k : Int, e = .int k ∧ 0 ≤ k ∧ k ≤ 1 := by
    simp at he
    rcases he with rfl | rfl <;> exact ⟨_, rfl, by omega, by omega⟩
  obtain ⟨j, rfl, j1, j2⟩ := hj
  refine ⟨.to (1 + x) j, (1 + x, j), o4, ho4, rfl, ⟨⟨by omega, by omega⟩, by omega, by omega⟩, ?_⟩
  simp [b__law_ref_in, startD, e1, e4, e6, Vl.d, ho4.closed]
def LinkSpec (F k : Nat) : Prop := ∀ (n : Nat) {h : Hh} {r : Nat} {o : O} {m : Int}, h[r]? = some o → RoomOk o → 0 ≤ m → m ≤ 20 →
    ∃ (v : Vl) (o' : O), RoomOk o' ∧ fit k v ∧ run F (n + k + 3) ix__law_linked [.ref r, .int m, .int k] h = .ok v.d (h.set r o')
theorem fit_leaf {k : Nat} {v : Vl} (h : fit 0 v) : fit k v := by
  induction k with
  | zero => exact h
  | succ k ih => exact fit_up ih
theorem zip_dEnt : ∀ (ws : List Tx) (vs : List Vl), zipD (ws.map D.str) (dAll vs) = dEnt (ws.zip vs)
  | [], _ => by simp [zipD, dEnt]
  | w :: ws, [] => by simp [dAll, zipD, dEnt]
  | w :: ws, v :: vs => by simp only [List.map_cons, dAll, zipD, List.zip_cons_cons, dEnt, zip_dEnt ws vs]
theorem link_step (F k : Nat) (hk : k ≤ 3) (ih : ∀ j, k = j + 1 → LinkSpec F j) : LinkSpec F k := by
  intro n h r o mm hr ho mm0 mm1
  rw [run__law_linked, own_one (np := 3) (by simp) hr ho.closed rfl]
  have hm : ∃ m : Int, 5 ≤ m ∧ m ≤ 8 ∧ (m = 5 ∨ 0 < k) ∧ ((ixn 2 (if 0 < k then 1 else 0)).bind fun j => [D.int 5, D.int 8][j]?) = some (.int m) := by
    by_cases hk : 0 < k
    · exact ⟨8, by decide, by decide, .inr hk, by simp [hk, ixn]⟩
    · exact ⟨5, by decide, by decide, .inl rfl, by simp [hk, ixn]⟩
  obtain ⟨m, m5, m8, mk, hb⟩ := hm
  obtain ⟨x, o1, ho1, x0, x1, e1⟩ := r_take F (n + k + 1) (h := [o]) (r := 0) (m := m) rfl ho (by omega) (by omega)
  simp only [Nat.add_assoc, Nat.reduceAdd] at e1
  simp [b__law_linked, startD, hb, e1, Nat.add_assoc]
  by_cases c3 : x < 3
  · obtain ⟨v, q, o2, ho2, _, fv, e2⟩ := r_ref_in F (n + k) (h := [o1]) (r := 0) rfl ho1 mm0 mm1
    simp only [Nat.add_assoc] at e2
    refine ⟨v, o2, ho2, fit_leaf fv, ?_⟩
    simp [c3, e2, ho2.closed, Vl.closed]
  by_cases c4 : x = 3
  · subst c4
    obtain ⟨u, o3, ho3, u0, u1, e3⟩ := r_take F (n + k + 1) (h := [o1]) (r := 0) (m := 4) rfl ho1 (by decide) (by decide)
    simp only [Nat.add_assoc, Nat.reduceAdd] at e3
    obtain ⟨d, hd, e4⟩ := ix_in (ds := [.non, .int 5, .str [97, 41], .tup [.str [110, 97, 109, 101], .str [107, 105, 100, 115]]]) (n := 4) rfl u0 (by omega)
    have hj : ∃ v : Vl, d = v.d ∧ fit 0 v := by
      simp at hd
      rcases hd with rfl | rfl | rfl | rfl
      · exact ⟨.non, rfl, trivial⟩
      · exact ⟨.int 5, rfl, rfl⟩
      · exact ⟨.str [97, 41], rfl, by simp [fit, FitS]⟩
      · exact ⟨.name wKids, rfl, rfl⟩
    obtain ⟨v, rfl, fv⟩ := hj
    refine ⟨v, o3, ho3, fit_leaf fv, ?_⟩
    simp [e3, e4, ho3.closed, Vl.closed]
  by_cases c5 : x = 4
  · subst c5
    obtain ⟨s, o3, ho3, fs, e3⟩ := r_line F (n + k) (h := [o1]) (r := 0) rfl ho1
    simp only [Nat.add_assoc] at e3
    refine ⟨.str s, o3, ho3, fit_leaf (v := .str s) fs, ?_⟩
    simp [e3, ho3.closed, Vl.d]
  have hk0 : 0 < k := by omega
  obtain ⟨j, rfl⟩ : ∃ j, k = j + 1 := ⟨k - 1, by omega⟩
  obtain ⟨y, o3, ho3, y0, y1, e3⟩ := r_take F (n + (j + 1) + 1) (h := [o1]) (r := 0) (m := 4) rfl ho1 (by decide) (by decide)
  simp only [Nat.add_assoc, Nat.reduceAdd] at e3
  have c3' : ¬ x < 3 := c3
  simp [c3, c4, c5, e3]
  rw [if_pos (by omega)]
  simp
  generalize hR : lcL _ _ _ _ = rr
  obtain ⟨ds, h2, rfl, l3, q3, o4, rfl, ho4⟩ := lc_drawR hR Rm (fun d => ∃ v : Vl, d = v.d ∧ fit j v) (by
    rintro z _ ⟨o, rfl, ho⟩
    obtain ⟨v, o', ho', fv, e⟩ := ih j rfl n (h := [o]) (r := 0) rfl ho mm0 mm1
    have e' : run F (n + (j + 3)) ix__law_linked [.ref 0, .int mm, .int j] [o] = .ok v.d [o'] := by simpa [Nat.add_assoc] using e
    refine ⟨_, _, ?_, ⟨_, rfl, ho'⟩, v, rfl, fv⟩
    simp [bindG, e']) ⟨_, rfl, ho3⟩ (by simp; omega)
  clear hR
  obtain ⟨vs, rfl, hvs⟩ := ex_map q3
  simp at l3
  have hl : vs.length ≤ 3 := by omega
  have hl2 : vs.length ≤ 16777216 := by omega
  by_cases c7 : x < 7
  · refine ⟨.row vs, o4, ho4, ⟨hl, hvs⟩, ?_⟩
    have hcl : closedAll (vs.map Vl.d) = true := by
      rw [← dAll_map]
      exact dAll_closed _
    simp [c7, Vl.d, ho4.closed, dAll_map, Pl.line_eq, hcl]
  · refine ⟨.table (fourW.zip vs), o4, ho4, ⟨by simp; omega, fun e he => ?_⟩, ?_⟩
    · exact ⟨(List.of_mem_zip he).1, hvs _ (List.of_mem_zip he).2⟩
    · have hz : zipD [.str [97], .str [107, 105, 100, 115], .str [116, 101, 120, 116], .str [122, 122]] (vs.map Vl.d) = dEnt (fourW.zip vs) := by
        rw [← zip_dEnt, dAll_map]
        rfl
      have hcl : closedAll (dEnt (fourW.zip vs)) = true := dEnt_closed _
      simp [c7, hz]
      generalize hR : lcL _ _ _ _ = rr
      rw [dEnt_map] at hR
      have hR2 := lc_mapM (g := fun e : Tx × Vl => D.tup [.str e.1, e.2.d]) (xs := fourW.zip vs) (f := fun e => .tup [.str e.1, e.2.d]) hR (by
        intro e he
        simp [bindG, bindGs]) (by simp only [List.length_zip]; have := Pl.line_eq; omega)
      clear hR
      rw [← dEnt_map] at hR2
      subst hR2
      simp [Vl.d, ho4.closed]
theorem link_spec (F : Nat) : ∀ k, k ≤ 3 → LinkSpec F k
  | 0, _ => link_step F 0 (by decide) (by omega)
  | k + 1, h => link_step F (k + 1) h fun j e => by
    obtain rfl : j = k := by omega
    exact link_spec F j (by omega)
end Lw
end
section
set_option linter.all false
set_option autoImplicit false
namespace Pl
open Fw
section
variable {a b : TM} {σ : Sg} {h : Hh} {d e : D} {g : G} {s : SM} {i : Nat}
def kPar2 (i j : Nat) (σ : Sg) (r : R (List D)) : SR := SR.of σ r fun ds h => par2 i j σ ds h
@[simp] theorem kPar2_eq {i j : Nat} {as : AM} : sPar2 i j as σ h = kPar2 i j σ (as σ h) := (rfl)
@[simp] theorem kPar2_ok {i j : Nat} {ds : List D} : kPar2 i j σ (.ok ds h) = par2 i j σ ds h := (rfl)
def newD1 (o : Option (List (K1 × D))) (h : Hh) : R D := match o with
  | some kvs => .ok (.ref h.length) (h ++ [.dct kvs])
  | none => .bad
@[simp] theorem newD1_some {kvs : List (K1 × D)} : newD1 (some kvs) h = .ok (.ref h.length) (h ++ [.dct kvs]) := (rfl)
def kNewDct (r : R D) : R D := r.bind fun d h => newD1 (asDct h d) h
@[simp] theorem kNewDct_eq : eNewDct a σ h = kNewDct (a σ h) := (rfl)
@[simp] theorem kNewDct_ok : kNewDct (.ok d h) = newD1 (asDct h d) h := (rfl)
def kNIn2 (d : D) (r : R D) : R Bool := r.bind fun e h => optB ((inD h d e).map fun k => !k) h
@[simp] theorem kNIn2_ok : kNIn2 d (.ok e h) = optB ((inD h d e).map fun k => !k) h := (rfl)
def kNIn1 (b : TM) (σ : Sg) (r : R D) : R Bool := r.bind fun d h => kNIn2 d (b σ h)
@[simp] theorem kNIn1_eq : bNInD a b σ h = kNIn1 b σ (a σ h) := (rfl)
@[simp] theorem kNIn1_ok : kNIn1 b σ (.ok d h) = kNIn2 d (b σ h) := (rfl)
def newRg (d e : D) (h : Hh) : R D := match d, e with
  | .int m, .int n => if 0 ≤ m ∧ m ≤ 16777216 ∧ 0 ≤ n ∧ n ≤ 16777216 then .ok (.ref h.length) (h ++ [.lst (rangeD m (n - m).toNat)]) else .bad
  | _, _ => .bad
@[simp] theorem newRg_int {m n : Int} : newRg (.int m) (.int n) h = if 0 ≤ m ∧ m ≤ 16777216 ∧ 0 ≤ n ∧ n ≤ 16777216 then .ok (.ref h.length) (h ++ [.lst (rangeD m (n - m).toNat)]) else .bad := (rfl)
def kRg2 (d : D) (r : R D) : R D := r.bind fun e h => newRg d e h
@[simp] theorem kRg2_ok : kRg2 d (.ok e h) = newRg d e h := (rfl)
def kRg1 (b : TM) (σ : Sg) (r : R D) : R D := r.bind fun d h => kRg2 d (b σ h)
@[simp] theorem kRg1_eq : eNewRg a b σ h = kRg1 b σ (a σ h) := (rfl)
@[simp] theorem kRg1_ok : kRg1 b σ (.ok d h) = kRg2 d (b σ h) := (rfl)
def kFK1 (g : G) (s : SM) (σ : Sg) (h : Hh) (o : Option D) : SR := match o with
  | some (.dct kvs) => noXS (forL (forB g s) (kvs.map fun q => keyD q.1) σ h)
  | _ => .bad
def kFK (g : G) (s : SM) (σ : Sg) (h : Hh) (r : R D) : SR := match r with
  | .ok d _ => kFK1 g s σ h (some d)
  | _ => .bad
@[simp] theorem kFK_eq : sForK i g s σ h = kFK g s σ h (eV i σ h) := by
  unfold sForK eV
  cases sget σ i with
  | none => rfl
  | some d => rfl
@[simp] theorem kFK_ok {kvs : List (K1 × D)} {h' : Hh} : kFK g s σ h (.ok (.dct kvs) h') = noXS (forL (forB g s) (kvs.map fun q => keyD q.1) σ h) := (rfl)
@[simp] theorem noXS_nx {σ : Sg} : noXS (.nx σ h) = .nx σ h := (rfl)
@[simp] theorem noXS_rt {d : D} : noXS (.rt d h) = .rt d h := (rfl)
@[simp] theorem keyD_int {n : Int} : keyD (.inl n) = .int n := (rfl)
end
end Pl
end
section
set_option linter.all false
set_option autoImplicit false
set_option maxRecDepth 100000
namespace Lw
open Fw Pl
abbrev Th := List (Int × Int × Vl)
def kvT (ts : Th) : List (K1 × D) := ts.map fun t => (.inl t.1, .tup [.int t.2.1, t.2.2.d])
@[simp] theorem kvT_cl (ts : Th) : closedK (kvT ts) = true := by
  induction ts with
  | nil => simp [kvT]
  | cons t ts ih => simp only [kvT, List.map_cons, cl_kcons] at ih ⊢; simp [ih, Vl.closed]
@[simp] theorem kvT_len (ts : Th) : (kvT ts).length = ts.length := by simp [kvT]
def findT (k : Int) (ts : Th) : Option (Int × Vl) := (ts.find? fun t => decide (t.1 = k)).map (·.2)
theorem look_kvT (k : Int) (ts : Th) : look (.inl k) (kvT ts) = (findT k ts).map fun q => .tup [.int q.1, q.2.d] := by
  induction ts with
  | nil => rfl
  | cons t ts ih =>
    simp only [kvT, List.map_cons, look, findT, List.find?_cons] at ih ⊢
    by_cases q : t.1 = k
    · simp [q]
    · simp only [q, decide_false, Sum.inl.injEq, if_false, ih]
theorem any_kvT (k : Int) (ts : Th) : ((kvT ts).any fun q => decide (q.1 = .inl k)) = (findT k ts).isSome := by
  induction ts with
  | nil => rfl
  | cons t ts ih =>
    simp only [kvT, List.map_cons, List.any_cons, findT, List.find?_cons] at ih ⊢
    by_cases q : t.1 = k
    · simp [q]
    · simp only [q, decide_false, Sum.inl.injEq, Bool.false_or, ih]
theorem findT_mem {k : Int} {ts : Th} {q : Int × Vl} (h : findT k ts = some q) : (k, q) ∈ ts := by
  unfold findT at h
  cases e : ts.find? fun t => decide (t.1 = k) with
  | none => rw [e] at h; cases h
  | some t =>
    rw [e] at h
    have h1 := List.find?_some e
    have h2 := List.mem_of_find?_eq_some e
    simp at h h1
    subst h1; subst h
    exact h2
theorem findT_has {k : Int} {ts : Th} (h : k ∈ ts.map (·.1)) : ∃ q, findT k ts = some q := by
  unfold findT
  cases e : ts.find? fun t => decide (t.1 = k) with
  | none =>
    obtain ⟨t, ht, rfl⟩ := List.mem_map.mp h
    have := List.find?_eq_none.mp e t ht
    simp at this
  | some t => exact ⟨_, rfl⟩
theorem findT_of {ts : Th} (nd : (ts.map (·.1)).Nodup) {t : Int × Int × Vl} (h : t ∈ ts) : findT t.1 ts = some t.2 := by
  induction ts with
  | nil => cases h
  | cons u ts ih =>
    simp only [List.map_cons, List.nodup_cons] at nd
    unfold findT
    rw [List.find?_cons]
    rcases List.mem_cons.mp h with rfl | h
    · simp
    · have hne : u.1 ≠ t.1 := fun e => nd.1 (e ▸ List.mem_map_of_mem h)
      simp only [hne, decide_false]
      exact ih nd.2 h
structure TOk (ts : Th) : Prop where
  len : ts.length ≤ 10
  nd : (ts.map (·.1)).Nodup
  ok : ∀ t ∈ ts, (1 ≤ t.1 ∧ t.1 ≤ 200) ∧ (0 ≤ t.2.1 ∧ t.2.1 ≤ 99) ∧ fit 2 t.2.2
def putT (k e : Int) (v : Vl) (ts : Th) : Th := if (ts.any fun t => decide (t.1 = k)) = true then ts.map fun t => if t.1 = k then (k, e, v) else t else ts ++ [(k, e, v)]
theorem put_kvT (k e : Int) (v : Vl) (ts : Th) : put (.inl k) (.tup [.int e, v.d]) (kvT ts) = kvT (putT k e v ts) := by
  have ea : ((kvT ts).any fun q => decide (q.1 = .inl k)) = ts.any fun t => decide (t.1 = k) := by
    simp only [kvT, List.any_map]
    congr 1
    funext t
    simp
  unfold put putT
  rw [ea]
  split
  · rename_i h
    simp only [kvT, List.map_map]
    apply List.map_congr_left
    intro t ht
    simp only [Function.comp, Sum.inl.injEq]
    by_cases q : t.1 = k
    · simp [q]
    · simp [q]
  · simp [kvT]
theorem putT_keys (k e : Int) (v : Vl) (ts : Th) : (putT k e v ts).map (·.1) = if (ts.any fun t => decide (t.1 = k)) = true then ts.map (·.1) else ts.map (·.1) ++ [k] := by
  unfold putT
  split
  · rw [List.map_map]
    apply List.map_congr_left
    intro t ht
    simp only [Function.comp]
    split
    · rename_i h; exact h.symm
    · rfl
  · simp
theorem putT_ok {k e : Int} {v : Vl} {ts : Th} (h : TOk ts) (hk : 1 ≤ k ∧ k ≤ 200) (he : 0 ≤ e ∧ e ≤ 99) (hv : fit 2 v) (hl : (putT k e v ts).length ≤ 10) : TOk (putT k e v ts) := by
  refine ⟨hl, ?_, ?_⟩
  · rw [putT_keys]
    split
    · exact h.nd
    · rename_i hn
      rw [List.nodup_append]
      refine ⟨h.nd, by simp, fun a ha b hb e => hn ?_⟩
      simp at hb
      subst hb
      obtain ⟨t, ht, rfl⟩ := List.mem_map.mp ha
      exact List.any_eq_true.mpr ⟨t, ht, by simp [e]⟩
  · intro t ht
    unfold putT at ht
    split at ht
    · obtain ⟨u, hu, rfl⟩ := List.mem_map.mp ht
      split
      · exact ⟨hk, he, hv⟩
      · exact h.ok u hu
    · rcases List.mem_append.mp ht with ht | ht
      · exact h.ok t ht
      · simp at ht
        subst ht
        exact ⟨hk, he, hv⟩
theorem putT_len (k e : Int) (v : Vl) (ts : Th) : (putT k e v ts).length ≤ ts.length + 1 := by
  unfold putT
  split <;> simp
def rootD (q : Option (Int × Int)) : D := match q with
  | none => .non
  | some q => toD q
@[simp] theorem rootD_cl (q : Option (Int × Int)) : (rootD q).closed = true := by
  cases q <;> simp [rootD, toD]
def rootV (q : Option (Int × Int)) : Vl := match q with
  | none => .non
  | some q => .to q.1 q.2
theorem rootV_d (q : Option (Int × Int)) : (rootV q).d = rootD q := by cases q <;> rfl
def QOk (q : Option (Int × Int)) : Prop := fit 0 (rootV q)
theorem back_td {h hc : Hh} {r : Nat} {o : O} {kvs : List (K1 × D)} {d : D} (co : o.closed = true) (ck : closedK kvs = true) (cd : d.closed = true) : back [r] h (.rt (.tup [.ref 1, d]) (o :: .dct kvs :: hc)) = .ok (.tup [.dct kvs, d]) (h.set r o) := by
  simp [back, tell, giveBack, D.map_, mapAll, frz, mapK_closed _ ck, map_closed _ cd, frzO_closed co]
theorem r_held_in (F n : Nat) {h : Hh} {r : Nat} {o : O} (hr : h[r]? = some o) (ho : RoomOk o) {m : Int} (m0 : 0 ≤ m) (m1 : m ≤ 20) :
    ∃ (v : Vl) (o' : O), RoomOk o' ∧ fit 2 v ∧ run F (n + 6) ix__law_held_in [.ref r, .int m] h = .ok v.d (h.set r o') := by
  rw [run__law_held_in, own_one (np := 2) (by simp) hr ho.closed rfl]
  obtain ⟨v, o1, ho1, fv, e1⟩ := link_spec F 2 (by decide) n (h := [o]) (r := 0) rfl ho m0 m1
  obtain ⟨x, o2, ho2, x0, x1, e2⟩ := r_take F (n + 4) (h := [o1]) (r := 0) (m := 6) rfl ho1 (by decide) (by decide)
  simp only [Nat.add_assoc, Nat.reduceAdd] at e1 e2
  have e1' : run F (n + 5) ix__law_linked [.ref 0, .int m, .int 2] [o] = .ok v.d [o1] := e1
  by_cases c : x = 0
  · subst c
    obtain ⟨w, o3, ho3, fw, e3⟩ := link_spec F 1 (by decide) (n + 1) (h := [o2]) (r := 0) rfl ho2 m0 m1
    obtain ⟨y, o4, ho4, y0, y1, e4⟩ := r_take F (n + 4) (h := [o3]) (r := 0) (m := 3) rfl ho3 (by decide) (by decide)
    simp only [Nat.add_assoc, Nat.reduceAdd] at e3 e4
    have e3' : run F (n + 5) ix__law_linked [.ref 0, .int m, .int 1] [o2] = .ok w.d [o3] := e3
    obtain ⟨d, hd, ed⟩ := ix_in (ds := [.str [], .str [101, 110, 100, 10], .str [116, 104, 105, 110, 103, 32, 49, 32, 48, 10]]) (n := 3) rfl y0 (by omega)
    have hd : ∃ s, d = .str s ∧ s ∈ strT := by
      simp at hd
      rcases hd with rfl | rfl | rfl <;> exact ⟨_, rfl, by simp [strT]⟩
    obtain ⟨s, rfl, hs⟩ := hd
    refine ⟨.stream [([97], w)] s, o4, ho4, ⟨by simp, ?_, hs⟩, ?_⟩
    · intro e he
      simp at he
      subst he
      exact ⟨by simp [fourW], fw⟩
    · simp [b__law_held_in, startD, e1', e2, e3', e4, ed, Vl.d, dEnt, ho4.closed, Vl.closed]
  · refine ⟨v, o2, ho2, fv, ?_⟩
    simp [b__law_held_in, startD, e1', e2, c, ho2.closed, Vl.closed]
theorem r_things (F n : Nat) {h : Hh} {r : Nat} {o : O} (hr : h[r]? = some o) (ho : RoomOk o) :
    ∃ (ts : Th) (q : Option (Int × Int)) (o' : O), RoomOk o' ∧ TOk ts ∧ ts.length ≤ 8 ∧ (∀ t ∈ ts, t.1 ≤ 8) ∧ QOk q ∧ run F (n + 7) ix__law_things [.ref r] h = .ok (.tup [.dct (kvT ts), rootD q]) (h.set r o') := by
  rw [run__law_things, own_one (np := 1) (by simp) hr ho.closed rfl]
  obtain ⟨x, o1, ho1, x0, x1, e1⟩ := r_take F (n + 5) (h := [o]) (r := 0) (m := 7) rfl ho (by decide) (by decide)
  simp only [Nat.add_assoc, Nat.reduceAdd] at e1
  simp [b__law_things, startD, e1]
  rw [if_pos (by omega)]
  simp
  generalize hR : forL _ _ _ _ = rr
  obtain ⟨σ, h2, rfl, -, a3, o2, ts, rfl, rfl, ho2, hts, hl, h8⟩ := for_invLR hR (fun xs σ h => (∀ y ∈ xs, ∃ i : Int, y = .int i ∧ 1 ≤ i ∧ i ≤ 8) ∧ ∃ a o ts, σ = [some (.ref 0), some (.int (1 + x)), some (.ref 1), a, none] ∧ h = [o, .dct (kvT ts)] ∧ RoomOk o ∧ TOk ts ∧ ts.length + xs.length ≤ 8 ∧ ∀ t ∈ ts, t.1 ≤ 8) (by
    rintro y xs _ _ ⟨hy, a, o, ts, rfl, rfl, ho, hts, hl, h8⟩
    obtain ⟨i, rfl, i1, i8⟩ := hy y List.mem_cons_self
    simp only [List.length_cons] at hl
    obtain ⟨z, o3, ho3, z0, z1, e3⟩ := r_take F (n + 5) (h := [o, .dct (kvT ts)]) (r := 0) (m := 5) rfl ho (by decide) (by decide)
    simp only [Nat.add_assoc, Nat.reduceAdd] at e3
    by_cases hz : 0 < z
    · obtain ⟨u, o4, ho4, u0, u1, e4⟩ := r_take F (n + 5) (h := [o3, .dct (kvT ts)]) (r := 0) (m := 4) rfl ho3 (by decide) (by decide)
      obtain ⟨d, hd, ed⟩ := ix_in (ds := [.int 0, .int 0, .int 0, .int 1]) (n := 4) rfl u0 (by omega)
      have hd : ∃ e : Int, d = .int e ∧ 0 ≤ e ∧ e ≤ 1 := by
        simp at hd
        rcases hd with rfl | rfl <;> exact ⟨_, rfl, by decide, by decide⟩
      obtain ⟨e, rfl, e0, e1'⟩ := hd
      obtain ⟨v, o5, ho5, fv, e5⟩ := r_held_in F n (h := [o4, .dct (kvT ts)]) (r := 0) rfl ho4 (m := 1 + x) (by omega) (by omega)
      simp only [Nat.add_assoc, Nat.reduceAdd] at e4 e5
      have hp := putT_len i e v ts
      refine ⟨[some (.ref 0), some (.int (1 + x)), some (.ref 1), some (.int i), none], [o5, .dct (kvT (putT i e v ts))], ?_, fun w hw => hy w (List.mem_cons_of_mem _ hw), _, _, _, rfl, rfl, ho5, putT_ok hts (by omega) (by omega) fv (by omega), by omega, ?_⟩
      · have hlk : (kvT ts).length < 16777216 := by simp; omega
        simp at hlk
        simp [e3, hz, e4, ed, e5, hlk, put_kvT]
      · intro t ht
        have : t.1 ∈ (putT i e v ts).map (·.1) := List.mem_map_of_mem ht
        rw [putT_keys] at this
        have hm : ∀ k ∈ ts.map (·.1), k ≤ 8 := by
          intro k hk
          obtain ⟨t, ht, rfl⟩ := List.mem_map.mp hk
          exact h8 t ht
        split at this
        · exact hm _ this
        · rcases List.mem_append.mp this with h | h
          · exact hm _ h
          · simp at h
            omega
    · refine ⟨[some (.ref 0), some (.int (1 + x)), some (.ref 1), some (.int i), none], [o3, .dct (kvT ts)], by simp [e3, hz], fun w hw => hy w (List.mem_cons_of_mem _ hw), _, _, _, rfl, rfl, ho3, hts, by omega, h8⟩) ⟨by
      intro y hy
      obtain ⟨i, hi, rfl⟩ := List.mem_map.mp hy
      simp at hi
      exact ⟨1 + (i : Int), rfl, by omega, by omega⟩, none, o1, [], rfl, rfl, ho1, ⟨by simp, by simp, by simp⟩, by simp; omega, by simp⟩
  clear hR
  simp only [List.length_nil] at hl
  obtain ⟨v1, q1, o3, ho3, hv1, f1, e3⟩ := r_ref_in F (n + 4) (h := [o2, .dct (kvT ts)]) (r := 0) rfl ho2 (m := 1 + x) (by omega) (by omega)
  obtain ⟨v2, q2, o4, ho4, hv2, f2, e4⟩ := r_ref_in F (n + 4) (h := [o3, .dct (kvT ts)]) (r := 0) rfl ho3 (m := 1 + x) (by omega) (by omega)
  obtain ⟨z, o5, ho5, z0, z1, e5⟩ := r_take F (n + 5) (h := [o4, .dct (kvT ts)]) (r := 0) (m := 4) rfl ho4 (by decide) (by decide)
  simp only [Nat.add_assoc, Nat.reduceAdd] at e3 e4 e5
  obtain ⟨d, hd, ed⟩ := ix_in (ds := [.non, v1.d, v2.d, .tup [.str [116, 111], .int 1, .int 0]]) (n := 4) rfl z0 (by omega)
  have hd : ∃ q, d = rootD q ∧ QOk q := by
    subst hv1 hv2
    simp at hd
    rcases hd with rfl | rfl | rfl | rfl
    · exact ⟨none, rfl, trivial⟩
    · exact ⟨some q1, rfl, f1⟩
    · exact ⟨some q2, rfl, f2⟩
    · exact ⟨some (1, 0), rfl, by simp [QOk, rootV, fit]⟩
  obtain ⟨q, rfl, fq⟩ := hd
  refine ⟨ts, q, o5, ho5, hts, by omega, fun a b c h => h8 _ h, fq, ?_⟩
  simp [e3, e4, e5, ed, back_td ho5.closed (kvT_cl ts) (rootD_cl q)]
theorem sortI_mem' {is : List Int} {i : Int} : i ∈ sortI is ↔ i ∈ is := (List.mergeSort_perm is _).mem_iff
theorem intKeys_kvT (ts : Th) : intKeys (kvT ts) = some (ts.map (·.1)) := by
  induction ts with
  | nil => rfl
  | cons t ts ih => simp only [kvT, List.map_cons, intKeys] at ih ⊢; rw [ih]; rfl
theorem r_bent (F n : Nat) {h : Hh} {r : Nat} {o : O} (hr : h[r]? = some o) (ho : RoomOk o) {ts : Th} {q : Option (Int × Int)} (hts : TOk ts) (hq : QOk q) :
    ∃ (ts' : Th) (q' : Option (Int × Int)) (o' : O), RoomOk o' ∧ TOk ts' ∧ QOk q' ∧ run F (n + 7) ix__law_bent [.ref r, .dct (kvT ts), rootD q] h = .ok (.tup [.dct (kvT ts'), rootD q']) (h.set r o') := by
  rw [run__law_bent, own_one (np := 3) (by simp) hr ho.closed rfl]
  have hsl : (sortI (ts.map (·.1))).length = ts.length := by simp [sortI]
  have es : ∀ hh : Hh, sortedKI hh (.dct (kvT ts)) = some (.lst ((sortI (ts.map (·.1))).map .int)) := fun hh => by simp [sortedKI, asDct, intKeys_kvT]
  have lk := hts.len
  by_cases h0 : ts = []
  · subst h0
    obtain ⟨v1, q1, o3, ho3, hv1, f1, e3⟩ := r_ref_in F (n + 4) (h := [o, .dct (kvT [])]) (r := 0) rfl ho (m := 7) (by omega) (by omega)
    simp only [Nat.add_assoc, Nat.reduceAdd] at e3
    refine ⟨[], some q1, o3, ho3, hts, by rw [hv1] at f1; exact f1, ?_⟩
    have hv : rootD (some q1) = v1.d := by rw [hv1]; rfl
    have hs : sortI [] = [] := by simp [sortI]
    have ad : ∀ hh : Hh, asDct hh (.dct (kvT [])) = some (kvT []) := fun hh => rfl
    simp [b__law_bent, startD, es, ad, hs, e3, ← hv, back_td ho3.closed (kvT_cl []) (rootD_cl (some q1))]
  · have ad : ∀ hh : Hh, asDct hh (.dct (kvT ts)) = some (kvT ts) := fun hh => rfl
    have hse : (sortI (ts.map (·.1))).isEmpty = false := by
      cases hq : sortI (ts.map (·.1)) with
      | nil =>
        rw [hq] at hsl
        cases ts with
        | nil => exact absurd rfl h0
        | cons t ts => simp at hsl
      | cons _ _ => rfl
    have hlp : 0 < ts.length := List.length_pos_iff.mpr h0
    obtain ⟨x, o1, ho1, x0, x1, e1⟩ := r_take F (n + 5) (h := [o, .dct (kvT ts)]) (r := 0) (m := 4) rfl ho (by decide) (by decide)
    simp only [Nat.add_assoc, Nat.reduceAdd] at e1
    by_cases hx : x = 0
    · subst hx
      obtain ⟨v1, q1, o3, ho3, hv1, f1, e3⟩ := r_ref_in F (n + 4) (h := [o1, .dct (kvT ts)]) (r := 0) rfl ho1 (m := 7) (by omega) (by omega)
      simp only [Nat.add_assoc, Nat.reduceAdd] at e3
      have hv : rootD (some q1) = v1.d := by rw [hv1]; rfl
      refine ⟨ts, some q1, o3, ho3, hts, by rw [hv1] at f1; exact f1, ?_⟩
      simp [b__law_bent, startD, es, ad, hse, e1, e3, ← hv, back_td ho3.closed (kvT_cl ts) (rootD_cl (some q1))]
    · have hsn : sortI (ts.map (·.1)) ≠ [] := fun e => by rw [e] at hse; simp at hse
      generalize hS : sortI (ts.map (·.1)) = S at *
      obtain ⟨y, o2, ho2, y0, y1, e2⟩ := r_take F (n + 5) (h := [o1, .dct (kvT ts)]) (r := 0) (m := (S.length : Int)) rfl ho1 (by omega) (by omega)
      simp only [Nat.add_assoc, Nat.reduceAdd] at e2
      obtain ⟨d, hd, ed⟩ := ix_in (ds := S.map D.int) (n := S.length) (by simp) y0 y1
      obtain ⟨k, hk, rfl⟩ := List.mem_map.mp hd
      have hk' : k ∈ ts.map (·.1) := by
        rw [← hS, sortI_mem'] at hk
        exact hk
      obtain ⟨p, hp⟩ := findT_has hk'
      obtain ⟨hk1, he1, _⟩ := hts.ok _ (findT_mem hp)
      have ex : ∀ (o : O), index [o, .dct (kvT ts)] (.ref 1) (.int k) = some (.tup [.int p.1, p.2.d]) := fun o => by simp [index, asSeq, asDct, look_kvT, hp]
      obtain ⟨v, o3, ho3, fv, e3⟩ := r_held_in F n (h := [o2, .dct (kvT ts)]) (r := 0) rfl ho2 (m := 7) (by decide) (by decide)
      obtain ⟨z, o4, ho4, z0, z1, e4⟩ := r_take F (n + 5) (h := [o3, .dct (kvT ts)]) (r := 0) (m := 4) rfl ho3 (by decide) (by decide)
      simp only [Nat.add_assoc, Nat.reduceAdd] at e3 e4
      obtain ⟨w, hw, ew⟩ := ix_in (ds := [v.d, .non, .tup [.str [116, 111], .int k, .int 0], .str []]) (n := 4) rfl z0 (by omega)
      have hw : ∃ v : Vl, w = v.d ∧ fit 2 v := by
        simp at hw
        rcases hw with rfl | rfl | rfl | rfl
        · exact ⟨v, rfl, fv⟩
        · exact ⟨.non, rfl, trivial⟩
        · exact ⟨.to k 0, rfl, hk1, by decide, by decide⟩
        · exact ⟨.str [], rfl, by simp [fit, FitS]⟩
      obtain ⟨u, rfl, fu⟩ := hw
      have edI : ∀ hh : Hh, index hh (.lst (S.map D.int)) (.int y) = some (.int k) := fun hh => by
        rw [index_lst, List.length_map]
        exact ed
      have ewI : ∀ hh : Hh, index hh (.lst [v.d, .non, .tup [.str [116, 111], .int k, .int 0], .str []]) (.int z) = some u.d := fun hh => by
        rw [index_lst]
        exact ew
      have x20 : ixn 2 0 = some 0 := rfl
      have hany : (ts.any fun t => decide (t.1 = k)) = true := by
        obtain ⟨t, ht, e⟩ := List.mem_map.mp hk'
        exact List.any_eq_true.mpr ⟨t, ht, by simp [e]⟩
      have hpl : (putT k p.1 u ts).length ≤ 10 := by
        unfold putT
        rw [if_pos hany]
        simpa using lk
      refine ⟨putT k p.1 u ts, q, o4, ho4, putT_ok hts hk1 he1 fu hpl, hq, ?_⟩
      have hlk : (kvT ts).length < 16777216 := by simp; omega
      simp at hlk
      simp [b__law_bent, startD, es, ad, hse, hsn, hx, e1, e2, edI, ex, e3, e4, ewI, x20, hlk, put_kvT, back_td ho4.closed (kvT_cl _) (rootD_cl q), -index_lst]
end Lw
end
section
set_option linter.all false
set_option autoImplicit false
set_option maxRecDepth 100000
namespace Lw
open Fw Pl PySem
theorem int_fine {i : Int} (h1 : -1000000000000000000000000000000 < i) (h2 : i < 1000000000000000000000000000000) : (D.int i).neat = true ∧ ((D.int i).dat).leavesShort 31 = true := by
  have h3 : i.natAbs < 10 ^ 30 := by
    have : (10 : Nat) ^ 30 = 1000000000000000000000000000000 := by decide
    rw [this]
    omega
  constructor
  · simp only [D.neat, decide_eq_true_eq]
    have h4 : i.natAbs < 2 ^ 1920 := Nat.lt_of_lt_of_le h3 (Nat.le_trans (show (10 : Nat) ^ 30 ≤ 2 ^ 100 by decide) (Nat.pow_le_pow_right (by decide) (by decide)))
    by_cases h0 : i.natAbs = 0
    · rw [h0]; decide
    · exact (Nat.log2_lt h0).mpr h4
  · simp only [D.dat, PyData.leavesShort, decide_eq_true_eq]
    have e := int_text_length_le10 (k := 30) (by decide) h3
    show (Str.ofString (toString i)).length ≤ 31
    rw [ofString_length]
    omega
theorem str_fine {s : Tx} (h : ∀ c ∈ s, c < 1000) : ((D.str s).dat).leavesShort 31 = true := by
  simp only [D.dat, PyData.leavesShort]
  simp
  intro c hc
  have := h c hc
  omega
structure RF (d : D) (b k : Nat) : Prop where
  ne : d.neat = true
  lv : d.dat.leavesShort 31 = true
  dp : d.dat.depth ≤ k
  bu : d.dat.bulk ≤ b
structure RFs (ds : List D) (b k : Nat) : Prop where
  ne : neatAll ds = true
  lv : PyData.leavesShortAll 31 (datAll ds) = true
  dp : PyData.depthAll (datAll ds) ≤ k
  bu : PyData.bulkAll (datAll ds) ≤ b
theorem RFs.nil {k : Nat} : RFs [] 0 k := ⟨rfl, rfl, by simp [datAll, PyData.depthAll], Nat.le_refl _⟩
theorem RFs.cons {d : D} {ds : List D} {a b k : Nat} (h1 : RF d a k) (h2 : RFs ds b k) : RFs (d :: ds) (a + 1 + b) k := by
  refine ⟨?_, ?_, ?_, ?_⟩
  · simp only [neatAll, h1.ne, h2.ne, Bool.and_self]
  · simp only [datAll, PyData.leavesShortAll, h1.lv, h2.lv, Bool.and_self]
  · have := h1.dp
    have := h2.dp
    simp only [datAll, PyData.depthAll]
    omega
  · have := h1.bu
    have := h2.bu
    simp only [datAll, PyData.bulkAll]
    omega
theorem RF.tup {ds : List D} {b k : Nat} (h : RFs ds b k) : RF (.tup ds) b (k + 1) := by
  refine ⟨?_, ?_, ?_, ?_⟩
  · simp only [D.neat, h.ne]
  · simp only [D.dat, PyData.leavesShort, h.lv]
  · have := h.dp
    simp only [D.dat, PyData.depth]
    omega
  · have := h.bu
    simp only [D.dat, PyData.bulk]
    omega
theorem RF.lst {ds : List D} {b k : Nat} (h : RFs ds b k) : RF (.lst ds) b (k + 1) := by
  refine ⟨?_, ?_, ?_, ?_⟩
  · simp only [D.neat, h.ne]
  · simp only [D.dat, PyData.leavesShort, h.lv]
  · have := h.dp
    simp only [D.dat, PyData.depth]
    omega
  · have := h.bu
    simp only [D.dat, PyData.bulk]
    omega
theorem RF.int {i : Int} {k : Nat} (h1 : -1000000000000000000000000000000 < i) (h2 : i < 1000000000000000000000000000000) (hk : 1 ≤ k) : RF (.int i) 0 k := by
  have := int_fine h1 h2
  refine ⟨this.1, this.2, ?_, by simp [D.dat, PyData.bulk]⟩
  simp [D.dat, PyData.depth]
  try omega
theorem RF.non {k : Nat} (hk : 1 ≤ k) : RF .non 0 k := ⟨rfl, rfl, by simp [D.dat, PyData.depth]; try omega, by simp [D.dat, PyData.bulk]⟩
theorem RF.bl {b : Bool} {k : Nat} (hk : 1 ≤ k) : RF (.bl b) 0 k := ⟨rfl, rfl, by simp [D.dat, PyData.depth]; try omega, by simp [D.dat, PyData.bulk]⟩
theorem RF.str {s : Tx} {b k : Nat} (h : ∀ c ∈ s, c < 1000) (hl : s.length ≤ b) (hk : 1 ≤ k) : RF (.str s) b k := ⟨rfl, str_fine h, by simp [D.dat, PyData.depth]; try omega, by simp [D.dat, PyData.bulk]; try omega⟩
theorem RF.up {d : D} {a b k : Nat} (h : RF d a k) (hb : a ≤ b) : RF d b k := ⟨h.ne, h.lv, h.dp, Nat.le_trans h.bu hb⟩
theorem RF.up2 {d : D} {b k j : Nat} (h : RF d b k) (hj : k ≤ j) : RF d b j := ⟨h.ne, h.lv, Nat.le_trans h.dp hj, h.bu⟩
theorem RFs.up {d : List D} {a b k : Nat} (h : RFs d a k) (hb : a ≤ b) : RFs d b k := ⟨h.ne, h.lv, h.dp, Nat.le_trans h.bu hb⟩
theorem RFs.same {α : Type} {f : α → D} {b k : Nat} : ∀ {xs : List α}, (∀ x ∈ xs, RF (f x) b k) → RFs (xs.map f) (xs.length * (b + 1)) k
  | [], _ => RFs.nil.up (by simp)
  | x :: xs, h => by
    rw [List.map_cons]
    refine (RFs.cons (h x List.mem_cons_self) (RFs.same fun y hy => h y (List.mem_cons_of_mem _ hy))).up ?_
    simp only [List.length_cons, Nat.succ_mul]
    omega
theorem RF.repr {d : D} {b k : Nat} (h : RF d b k) (hk : k ≤ 170) (hb : b ≤ 508000) (hr : ∀ n, d ≠ .ref n) (hh : Hh) : reprV hh d = some (.str (reprT d)) := by
  have l1 : line = 16777216 := Pl.line_eq
  have q5 : (reprT d).length ≤ line := by
    have := PyData.shown_le_bulk 31 (by decide) _ h.lv
    have e1 : (reprT d).length = d.dat.shown.length := by simp [reprT, Str.length]
    have := h.bu
    rw [e1, l1]
    omega
  have e0 : ownV hh d = some d := by
    cases d <;> first | rfl | exact absurd rfl (hr _)
  simp only [reprV, e0, Option.bind_some]
  rw [if_pos ⟨h.ne, by have := h.dp; omega, q5⟩]
theorem fourW_lt {w : Tx} (h : w ∈ fourW) : (∀ c ∈ w, c < 1000) ∧ w.length ≤ 8 := by
  simp only [fourW, List.mem_cons, List.not_mem_nil, or_false] at h
  rcases h with rfl | rfl | rfl | rfl <;> exact ⟨by decide, by decide⟩
theorem strT_lt {w : Tx} (h : w ∈ strT) : (∀ c ∈ w, c < 1000) ∧ w.length ≤ 10 := by
  simp only [strT, List.mem_cons, List.not_mem_nil, or_false] at h
  rcases h with rfl | rfl | rfl <;> exact ⟨by decide, by decide⟩
theorem pow4_pos (m : Nat) : 1 ≤ 4 ^ m := Nat.one_le_pow _ _ (by decide)
theorem fit_rf : ∀ {m : Nat} {v : Vl}, fit m v → RF v.d (100 * 4 ^ m) (3 * m + 3)
  | m, .non, h => (RF.non (by omega)).up (by omega)
  | m, .int i, h => by
    obtain rfl : i = 5 := by cases m <;> exact h
    exact (RF.int (by decide) (by decide) (by omega)).up (by omega)
  | m, .str s, h => by
    have h : FitS s := by cases m <;> exact h
    have := pow4_pos m
    exact RF.str (fun c hc => by have := h.2 c hc; omega) (by have := h.1; omega) (by omega)
  | m, .name s, h => by
    obtain rfl : s = wKids := by cases m <;> exact h
    have := pow4_pos m
    exact ((RF.tup (k := 3 * m + 2) (RFs.cons (RF.str (b := 8) (by decide) (by decide) (by omega)) (RFs.cons (RF.str (b := 8) (by decide) (by decide) (by omega)) RFs.nil)))).up (by omega)
  | m, .to k e, h => by
    have h : (1 ≤ k ∧ k ≤ 200) ∧ 0 ≤ e ∧ e ≤ 99 := by cases m <;> exact h
    have := pow4_pos m
    exact ((RF.tup (k := 3 * m + 2) (RFs.cons (RF.str (b := 8) (by decide) (by decide) (by omega)) (RFs.cons (RF.int (by omega) (by omega) (by omega)) (RFs.cons (RF.int (by omega) (by omega) (by omega)) RFs.nil))))).up (by omega)
  | m + 1, .row vs, h => by
    have p := pow4_pos m
    have q := RFs.same (f := Vl.d) (b := 100 * 4 ^ m) (k := 3 * m + 3) fun v hv => fit_rf (h.2 v hv)
    rw [← dAll_map] at q
    have hl := Nat.mul_le_mul_right (100 * 4 ^ m + 1) h.1
    refine ((RF.tup (k := 3 * m + 5) (RFs.cons (RF.str (b := 8) (by decide) (by decide) (by omega)) (RFs.cons ((RF.tup q).up2 (by omega)) RFs.nil)))).up ?_
    have : 4 ^ (m + 1) = 4 * 4 ^ m := by rw [Nat.pow_succ, Nat.mul_comm]
    omega
  | m + 1, .table es, h => by
    have p := pow4_pos m
    have q := RFs.same (f := fun e : Tx × Vl => D.tup [.str e.1, e.2.d]) (b := 100 * 4 ^ m + 10) (k := 3 * m + 4) (xs := es) fun e he => by
      obtain ⟨h1, h2⟩ := fourW_lt (h.2 e he).1
      exact (RF.tup (RFs.cons (RF.str (b := 8) h1 h2 (by omega)) (RFs.cons (fit_rf (h.2 e he).2) RFs.nil))).up (by omega)
    rw [← dEnt_map] at q
    have hl := Nat.mul_le_mul_right (100 * 4 ^ m + 10 + 1) h.1
    refine ((RF.tup (k := 3 * m + 5) (RFs.cons (RF.str (b := 8) (by decide) (by decide) (by omega)) (RFs.cons (RF.tup q) RFs.nil)))).up ?_
    have : 4 ^ (m + 1) = 4 * 4 ^ m := by rw [Nat.pow_succ, Nat.mul_comm]
    omega
  | m + 1, .stream es s, h => by
    have p := pow4_pos m
    have q := RFs.same (f := fun e : Tx × Vl => D.tup [.str e.1, e.2.d]) (b := 100 * 4 ^ m + 10) (k := 3 * m + 4) (xs := es) fun e he => by
      obtain ⟨h1, h2⟩ := fourW_lt (h.2.1 e he).1
      exact (RF.tup (RFs.cons (RF.str (b := 8) h1 h2 (by omega)) (RFs.cons (fit_rf (h.2.1 e he).2) RFs.nil))).up (by omega)
    rw [← dEnt_map] at q
    have hl := Nat.mul_le_mul_right (100 * 4 ^ m + 10 + 1) h.1
    obtain ⟨s1, s2⟩ := strT_lt h.2.2
    refine ((RF.tup (k := 3 * m + 5) (RFs.cons (RF.str (b := 8) (by decide) (by decide) (by omega)) (RFs.cons (RF.tup q) (RFs.cons (RF.str (b := 10) s1 s2 (by omega)) RFs.nil))))).up ?_
    have : 4 ^ (m + 1) = 4 * 4 ^ m := by rw [Nat.pow_succ, Nat.mul_comm]
    omega
  | 0, .row _, h => h.elim
  | 0, .table _, h => h.elim
  | 0, .stream _ _, h => h.elim
theorem v_noref (v : Vl) : ∀ n, v.d ≠ .ref n := fun n => by cases v <;> simp [Vl.d]
theorem repr_fit {m : Nat} {v : Vl} (hm : m ≤ 2) (h : fit m v) (hh : Hh) : reprV hh v.d = some (.str (reprT v.d)) := by
  have : 100 * 4 ^ m ≤ 1600 := by
    have : 4 ^ m ≤ 4 ^ 2 := Nat.pow_le_pow_right (by decide) hm
    omega
  exact (fit_rf h).repr (by omega) (by omega) (v_noref v) hh
end Lw
end
section
set_option linter.all false
set_option autoImplicit false
set_option maxRecDepth 100000
namespace Lw
open Fw Pl PySem
theorem cps_app (a b : Str) : (a ++ b).cps.toList = a.cps.toList ++ b.cps.toList := by
  show (a.cps ++ b.cps).toList = _
  simp
theorem s_open : (("(" : String) : Str).cps.toList = [40] := by decide +kernel
theorem s_comma : ((", " : String) : Str).cps.toList = [44, 32] := by decide +kernel
theorem reprT_tup2 (x y : D) (r : List D) : ∃ t, reprT (.tup (x :: y :: r)) = 40 :: (reprT x ++ 44 :: 32 :: t) := by
  refine ⟨(Str.join ", " (PyData.shownAll (datAll (y :: r)))).cps.toList ++ ((if (PyData.shownAll (datAll (x :: y :: r))).length == 1 then ",)" else ")" : String) : Str).cps.toList, ?_⟩
  show (tupleText (PyData.shownAll (datAll (x :: y :: r)))).cps.toList = _
  unfold tupleText
  have e : Str.join ", " (PyData.shownAll (datAll (x :: y :: r))) = x.dat.shown ++ (", " : Str) ++ Str.join ", " (PyData.shownAll (datAll (y :: r))) := rfl
  rw [e, cps_app, cps_app, cps_app, cps_app, s_open, s_comma]
  simp only [List.append_assoc, List.cons_append, List.nil_append]
  rfl
theorem foldl_app {f : Nat → Array Nat} : ∀ (l : List Nat) (acc : Array Nat), (l.foldl (fun out c => out ++ f c) acc).toList = acc.toList ++ l.flatMap fun c => (f c).toList
  | [], acc => by simp
  | c :: l, acc => by
    rw [List.foldl_cons, foldl_app l]
    simp
theorem reprText_list (x : Str) : (reprText x).cps.toList = reprQuote x :: ((x.cps.toList.flatMap fun c => Builtin.Str.reprChar (reprQuote x) c) ++ [reprQuote x]) := by
  have e : (reprText x).cps.toList = (Array.foldl (fun out c => out ++ (Builtin.Str.reprChar (reprQuote x) c).toArray) #[reprQuote x] x.cps).toList ++ [reprQuote x] := by
    unfold reprText
    exact Array.toList_push
  rw [e, ← Array.foldl_toList, foldl_app]
  simp
def esc1 (c : Nat) : List Nat := if c = 92 then [92, 92] else [c]
theorem char_fit : ∀ c, c < 127 → 32 ≤ c → c ≠ 39 → Builtin.Str.reprChar 39 c = esc1 c := by decide +kernel
theorem reprT_fitS {s : Tx} (h : FitS s) : reprT (.str s) = 39 :: (s.flatMap esc1 ++ [39]) := by
  show (reprText ⟨s.toArray⟩).cps.toList = _
  rw [reprText_list]
  have hq : reprQuote ⟨s.toArray⟩ = 39 := by
    unfold reprQuote
    rw [if_neg]
    simp
    intro h39
    exact absurd rfl (h.2 39 h39).2.2.2
  rw [hq]
  congr 2
  have : ∀ l : List Nat, (∀ c ∈ l, 32 ≤ c ∧ c ≤ 126 ∧ c ≠ 34 ∧ c ≠ 39) → l.flatMap (fun c => Builtin.Str.reprChar 39 c) = l.flatMap esc1 := by
    intro l hl
    induction l with
    | nil => rfl
    | cons c l ih =>
      rw [List.flatMap_cons, List.flatMap_cons, ih fun x hx => hl x (List.mem_cons_of_mem _ hx)]
      have := hl c List.mem_cons_self
      rw [char_fit c (by omega) this.1 this.2.2.2]
  exact this s h.2
theorem esc1_inj : ∀ {s t : Tx}, (s.flatMap esc1) = t.flatMap esc1 → s = t
  | [], [], _ => rfl
  | [], c :: t, h => by
    simp only [List.flatMap_nil, List.flatMap_cons] at h
    unfold esc1 at h
    split at h <;> simp at h
  | c :: s, [], h => by
    simp only [List.flatMap_nil, List.flatMap_cons] at h
    unfold esc1 at h
    split at h <;> simp at h
  | c :: s, d :: t, h => by
    simp only [List.flatMap_cons] at h
    have key : c = d ∧ s.flatMap esc1 = t.flatMap esc1 := by
      rw [show esc1 c = if c = 92 then [92, 92] else [c] from rfl, show esc1 d = if d = 92 then [92, 92] else [d] from rfl] at h
      by_cases hc : c = 92 <;> by_cases hd : d = 92
      · subst hc hd
        simpa using h
      · subst hc
        simp [hd] at h <;> exact absurd h.1.symm hd
      · subst hd
        simp [hc] at h <;> exact absurd h.1 hc
      · simpa [hc, hd] using h
    rw [key.1, esc1_inj key.2]
theorem repr_strs {s t : Tx} (hs : FitS s) (ht : FitS t) : reprT (.str s) = reprT (.str t) ↔ s = t := by
  refine ⟨fun h => ?_, fun h => by rw [h]⟩
  rw [reprT_fitS hs, reprT_fitS ht] at h
  simp only [List.cons.injEq, true_and] at h
  exact esc1_inj (List.append_cancel_right h)
def kind : Vl → Nat
  | .non => 0
  | .int _ => 1
  | .str _ => 2
  | .name _ => 3
  | .to _ _ => 4
  | .row _ => 5
  | .table _ => 6
  | .stream _ _ => 7
def preK : Nat → Tx
  | 0 => [78]
  | 1 => [53]
  | 2 => [39]
  | 3 => [40, 39, 110]
  | 4 => [40, 39, 116, 111]
  | 5 => [40, 39, 114]
  | 6 => [40, 39, 116, 97]
  | _ => [40, 39, 115]
theorem rW_name : reprT (.str wName) = [39, 110, 97, 109, 101, 39] := by decide +kernel
theorem rW_to : reprT (.str wTo) = [39, 116, 111, 39] := by decide +kernel
theorem rW_row : reprT (.str wRow) = [39, 114, 111, 119, 39] := by decide +kernel
theorem rW_table : reprT (.str wTable) = [39, 116, 97, 98, 108, 101, 39] := by decide +kernel
theorem rW_stream : reprT (.str wStream) = [39, 115, 116, 114, 101, 97, 109, 39] := by decide +kernel
theorem repr_pre {m : Nat} {v : Vl} (h : fit m v) : ∃ t, reprT v.d = preK (kind v) ++ t := by
  cases v with
  | non => exact ⟨[111, 110, 101], by decide +kernel⟩
  | int i =>
    obtain rfl : i = 5 := by cases m <;> exact h
    exact ⟨[], by decide +kernel⟩
  | str s =>
    have h : FitS s := by cases m <;> exact h
    exact ⟨_, reprT_fitS h⟩
  | name s =>
    obtain ⟨t, e⟩ := reprT_tup2 (.str wName) (.str s) []
    exact ⟨_, by simp only [Vl.d]; rw [e, rW_name]; rfl⟩
  | to k e =>
    obtain ⟨t, e⟩ := reprT_tup2 (.str wTo) (.int k) [.int e]
    exact ⟨_, by simp only [Vl.d]; rw [e, rW_to]; rfl⟩
  | row vs =>
    obtain ⟨t, e⟩ := reprT_tup2 (.str wRow) (.tup (dAll vs)) []
    exact ⟨_, by simp only [Vl.d]; rw [e, rW_row]; rfl⟩
  | table es =>
    obtain ⟨t, e⟩ := reprT_tup2 (.str wTable) (.tup (dEnt es)) []
    exact ⟨_, by simp only [Vl.d]; rw [e, rW_table]; rfl⟩
  | stream es s =>
    obtain ⟨t, e⟩ := reprT_tup2 (.str wStream) (.tup (dEnt es)) [.str s]
    exact ⟨_, by simp only [Vl.d]; rw [e, rW_stream]; rfl⟩
theorem repr_kind {m m' : Nat} {v w : Vl} (h : fit m v) (h' : fit m' w) (e : reprT v.d = reprT w.d) : kind v = kind w := by
  obtain ⟨t, e1⟩ := repr_pre h
  obtain ⟨u, e2⟩ := repr_pre h'
  rw [e1, e2] at e
  cases v <;> cases w <;> first | rfl | (simp [kind, preK] at e)
def Apart (v w : Vl) : Prop := kind v ≠ kind w ∨ kind v ≤ 3
theorem repr_apart {m m' : Nat} {v w : Vl} (h : fit m v) (h' : fit m' w) (a : Apart v w) : reprT v.d = reprT w.d ↔ v = w := by
  refine ⟨fun e => ?_, fun e => by rw [e]⟩
  have hk := repr_kind h h' e
  rcases a with a | a
  · exact absurd hk a
  · cases v <;> cases w <;> first | rfl | (simp [kind] at hk; done) | (simp [kind] at a; done) | skip
    · rename_i i j
      obtain rfl : i = 5 := by cases m <;> exact h
      obtain rfl : j = 5 := by cases m' <;> exact h'
      rfl
    · rename_i s t
      have h : FitS s := by cases m <;> exact h
      have h' : FitS t := by cases m' <;> exact h'
      rw [(repr_strs h h').mp e]
    · rename_i s t
      obtain rfl : s = wKids := by cases m <;> exact h
      obtain rfl : t = wKids := by cases m' <;> exact h'
      rfl
theorem flat_str {k : Nat} {s : Tx} (h : ∀ c ∈ s, c < 1000) : (D.str s).flat k = true := by
  have : s.all (· < 1114112) = true := by
    rw [List.all_eq_true]
    intro c hc
    have := h c hc
    simp
    omega
  cases k <;> simpa [D.flat] using this
theorem flat_int {k : Nat} (i : Int) : (D.int i).flat k = true := by cases k <;> rfl
theorem flat_tup {k : Nat} {xs : List D} (h : flatAll k xs = true) : (D.tup xs).flat (k + 1) = true := by simpa [D.flat] using h
theorem flat_cons {k : Nat} {x : D} {xs : List D} (h : x.flat k = true) (t : flatAll k xs = true) : flatAll k (x :: xs) = true := by simp [flatAll, h, t]
theorem flat_map {α : Type} {k : Nat} {f : α → D} : ∀ {xs : List α}, (∀ x ∈ xs, (f x).flat k = true) → flatAll k (xs.map f) = true
  | [], _ => rfl
  | x :: xs, h => flat_cons (h x List.mem_cons_self) (flat_map fun y hy => h y (List.mem_cons_of_mem _ hy))
theorem fit_flat : ∀ {m : Nat} {v : Vl} (j : Nat), fit m v → v.d.flat (3 * m + 3 + j) = true
  | m, .non, j, h => by simp [Vl.d, D.flat]
  | m, .int i, j, h => flat_int i
  | m, .str s, j, h => flat_str fun c hc => by
    have h : FitS s := by cases m <;> exact h
    have := h.2 c hc
    omega
  | m, .name s, j, h => by
    obtain rfl : s = wKids := by cases m <;> exact h
    rw [show 3 * m + 3 + j = (3 * m + 2 + j) + 1 by omega]
    exact flat_tup (flat_cons (flat_str (by decide)) (flat_cons (flat_str (by decide)) rfl))
  | m, .to k e, j, h => by
    rw [show 3 * m + 3 + j = (3 * m + 2 + j) + 1 by omega]
    exact flat_tup (flat_cons (flat_str (by decide)) (flat_cons (flat_int _) (flat_cons (flat_int _) rfl)))
  | m + 1, .row vs, j, h => by
    rw [show 3 * (m + 1) + 3 + j = (3 * m + 3 + (j + 1)) + 1 + 1 by omega]
    refine flat_tup (flat_cons (flat_str (by decide)) (flat_cons (flat_tup ?_) rfl))
    rw [dAll_map]
    exact flat_map fun v hv => fit_flat (j + 1) (h.2 v hv)
  | m + 1, .table es, j, h => by
    rw [show 3 * (m + 1) + 3 + j = (3 * m + 3 + j) + 1 + 1 + 1 by omega]
    refine flat_tup (flat_cons (flat_str (by decide)) (flat_cons (flat_tup ?_) rfl))
    rw [dEnt_map]
    exact flat_map fun e he => flat_tup (flat_cons (flat_str (fourW_lt (h.2 e he).1).1) (flat_cons (fit_flat j (h.2 e he).2) rfl))
  | m + 1, .stream es s, j, h => by
    rw [show 3 * (m + 1) + 3 + j = (3 * m + 3 + j) + 1 + 1 + 1 by omega]
    refine flat_tup (flat_cons (flat_str (by decide)) (flat_cons (flat_tup ?_) (flat_cons (flat_str (strT_lt h.2.2).1) rfl)))
    rw [dEnt_map]
    exact flat_map fun e he => flat_tup (flat_cons (flat_str (fourW_lt (h.2.1 e he).1).1) (flat_cons (fit_flat j (h.2.1 e he).2) rfl))
  | 0, .row _, _, h => h.elim
  | 0, .table _, _, h => h.elim
  | 0, .stream _ _, _, h => h.elim
theorem eqv_hd (a b : Tx) (xs ys : List D) : (D.tup (.str a :: xs)).eqv (.tup (.str b :: ys)) = (decide (a = b) && eqvAll xs ys) := by
  rw [eqv_tup', eqvAll, eqv_str']
  congr 1
  rw [Bool.eq_iff_iff]
  simp
def headW : Vl → Tx
  | .name _ => wName
  | .to _ _ => wTo
  | .row _ => wRow
  | .table _ => wTable
  | .stream _ _ => wStream
  | _ => []
def restD : Vl → List D
  | .name s => [.str s]
  | .to k e => [.int k, .int e]
  | .row vs => [.tup (dAll vs)]
  | .table es => [.tup (dEnt es)]
  | .stream es s => [.tup (dEnt es), .str s]
  | _ => []
theorem tup_form {v : Vl} (h : 3 ≤ kind v) : v.d = .tup (.str (headW v) :: restD v) := by
  cases v <;> first | rfl | (simp [kind] at h)
theorem head_kind {v w : Vl} (h : 3 ≤ kind v) (h' : 3 ≤ kind w) (e : headW v = headW w) : kind v = kind w := by
  cases v <;> first | (simp [kind] at h; done) | (cases w <;> first | rfl | (simp [kind] at h'; done) | (simp [headW] at e))
theorem eqv_kind {v w : Vl} (e : v.d.eqv w.d = true) : kind v = kind w := by
  by_cases h : 3 ≤ kind v
  · by_cases h' : 3 ≤ kind w
    · rw [tup_form h, tup_form h', eqv_hd] at e
      simp only [Bool.and_eq_true, decide_eq_true_eq] at e
      exact head_kind h h' e.1
    · rw [tup_form h] at e
      cases w <;> first | (exact Bool.noConfusion e) | (simp [kind] at h')
  · by_cases h' : 3 ≤ kind w
    · rw [tup_form h'] at e
      cases v <;> first | (exact Bool.noConfusion e) | (simp [kind] at h)
    · cases v <;> first | (simp [kind] at h; done) | (cases w <;> first | rfl | (simp [kind] at h'; done) | (exact Bool.noConfusion e))
theorem eqv_apart {m m' : Nat} {v w : Vl} (h : fit m v) (h' : fit m' w) (a : Apart v w) : v.d.eqv w.d = true ↔ v = w := by
  constructor
  · intro e
    have hk := eqv_kind e
    rcases a with a | a
    · exact absurd hk a
    · cases v with
      | non => cases w <;> first | rfl | (simp [kind] at hk)
      | int i =>
        cases w <;> first | (simp [kind] at hk; done) | skip
        rename_i j
        simp only [Vl.d, eqv_int', beq_iff_eq] at e
        rw [e]
      | str s =>
        cases w <;> first | (simp [kind] at hk; done) | skip
        rename_i t
        simp only [Vl.d, eqv_str', beq_iff_eq] at e
        rw [e]
      | name s =>
        cases w <;> first | (simp [kind] at hk; done) | skip
        rename_i t
        obtain rfl : s = wKids := by cases m <;> exact h
        obtain rfl : t = wKids := by cases m' <;> exact h'
        rfl
      | _ => simp [kind] at a
  · rintro rfl
    rcases a with a | a
    · exact absurd rfl a
    · cases v with
      | non => rfl
      | int i => simp only [Vl.d, eqv_int', beq_self_eq_true]
      | str s => simp only [Vl.d, eqv_str', beq_self_eq_true]
      | name s =>
        rw [tup_form (by simp [kind]), eqv_hd]
        simp [restD, eqvAll, eqv_str']
      | _ => simp [kind] at a
theorem eqD_fit {m m' : Nat} {v w : Vl} (hm : m ≤ 2) (hm' : m' ≤ 2) (h : fit m v) (h' : fit m' w) (hh : Hh) : eqD hh v.d w.d = some (v.d.eqv w.d) := by
  have f1 : v.d.flat 60 = true := by
    have := fit_flat (57 - 3 * m) h
    rwa [show 3 * m + 3 + (57 - 3 * m) = 60 by omega] at this
  have f2 : w.d.flat 60 = true := by
    have := fit_flat (57 - 3 * m') h'
    rwa [show 3 * m' + 3 + (57 - 3 * m') = 60 by omega] at this
  have s1 : seen hh 0 v.d = some v.d := by cases v <;> rfl
  have s2 : seen hh 0 w.d = some w.d := by cases w <;> rfl
  unfold eqD
  rw [s1, s2]
  split
  · rfl
  · dsimp only
    split
    · rfl
    · rw [f1, f2]
      rfl
end Lw
end
section
set_option linter.all false
set_option autoImplicit false
set_option maxRecDepth 100000
namespace Lw
open Fw Pl
def leadB (ts : Th) (q : Int × Int) : Bool := match findT q.1 ts with
  | some e => decide (e.1 = q.2)
  | none => false
def deadV (B : Th) : Vl → Prop
  | .non => True
  | .to k e => leadB B (k, e) = false
  | _ => False
def All2 {α β : Type} (R : α → β → Prop) : List α → List β → Prop
  | [], [] => True
  | x :: xs, y :: ys => R x y ∧ All2 R xs ys
  | _, _ => False
abbrev Rel := Int → Int → Prop
def words (es : List (Tx × Vl)) : List Tx := es.map (·.1)
def vals (es : List (Tx × Vl)) : List Vl := es.map (·.2)
def rowsR (w : Vl) : Option (List Vl) := match w with
  | .row ws => some ws
  | _ => none
def Al (A B : Th) (S : Rel) : Nat → Vl → Vl → Prop
  | _, .non, w => deadV B w
  | _, .to k e, w => (leadB A (k, e) = false ∧ deadV B w) ∨ (leadB A (k, e) = true ∧ ∃ k' e', w = .to k' e' ∧ leadB B (k', e') = true ∧ S k k')
  | _, .int i, w => w = .int i
  | _, .str s, w => w = .str s
  | _, .name s, w => w = .name s
  | m + 1, .row vs, w => ∃ ws, w = .row ws ∧ All2 (Al A B S m) vs ws
  | m + 1, .table es, w => ∃ fs, w = .table fs ∧ words es = words fs ∧ All2 (Al A B S m) (vals es) (vals fs)
  | m + 1, .stream es s, w => ∃ fs, w = .stream fs s ∧ words es = words fs ∧ All2 (Al A B S m) (vals es) (vals fs)
  | 0, .row _, _ => False
  | 0, .table _, _ => False
  | 0, .stream _ _, _ => False
theorem All2.mono {α β : Type} {R R' : α → β → Prop} (h : ∀ x y, R x y → R' x y) : ∀ {xs : List α} {ys : List β}, All2 R xs ys → All2 R' xs ys
  | [], [], _ => trivial
  | x :: xs, y :: ys, t => ⟨h x y t.1, All2.mono h t.2⟩
  | [], _ :: _, t => t.elim
  | _ :: _, [], t => t.elim
theorem All2.swap {α β : Type} {R : α → β → Prop} {R' : β → α → Prop} (h : ∀ x y, R x y → R' y x) : ∀ {xs : List α} {ys : List β}, All2 R xs ys → All2 R' ys xs
  | [], [], _ => trivial
  | x :: xs, y :: ys, t => ⟨h x y t.1, All2.swap h t.2⟩
  | [], _ :: _, t => t.elim
  | _ :: _, [], t => t.elim
theorem All2.len {α β : Type} {R : α → β → Prop} : ∀ {xs : List α} {ys : List β}, All2 R xs ys → xs.length = ys.length
  | [], [], _ => rfl
  | x :: xs, y :: ys, t => by simp [All2.len t.2]
  | [], _ :: _, t => t.elim
  | _ :: _, [], t => t.elim
theorem All2.map {α γ δ : Type} {R : γ → δ → Prop} {f : α → γ} {g : α → δ} : ∀ {xs : List α}, (∀ x ∈ xs, R (f x) (g x)) → All2 R (xs.map f) (xs.map g)
  | [], _ => trivial
  | x :: xs, h => ⟨h x List.mem_cons_self, All2.map fun y hy => h y (List.mem_cons_of_mem _ hy)⟩
section
variable {A B : Th} {S S' : Rel}
theorem Al.mono (h : ∀ x y, S x y → S' x y) : ∀ {m : Nat} {v w : Vl}, Al A B S m v w → Al A B S' m v w
  | m, .non, w, a => by cases m <;> exact a
  | m, .to k e, w, a => by
    have a : (leadB A (k, e) = false ∧ deadV B w) ∨ (leadB A (k, e) = true ∧ ∃ k' e', w = .to k' e' ∧ leadB B (k', e') = true ∧ S k k') := by cases m <;> exact a
    have b : (leadB A (k, e) = false ∧ deadV B w) ∨ (leadB A (k, e) = true ∧ ∃ k' e', w = .to k' e' ∧ leadB B (k', e') = true ∧ S' k k') := by
      rcases a with a | ⟨a, k', e', q1, q2, q3⟩
      · exact .inl a
      · exact .inr ⟨a, k', e', q1, q2, h _ _ q3⟩
    cases m <;> exact b
  | m, .int _, w, a => by cases m <;> exact a
  | m, .str _, w, a => by cases m <;> exact a
  | m, .name _, w, a => by cases m <;> exact a
  | m + 1, .row vs, w, ⟨ws, e, t⟩ => ⟨ws, e, t.mono fun x y => Al.mono h⟩
  | m + 1, .table es, w, ⟨fs, e, q, t⟩ => ⟨fs, e, q, t.mono fun x y => Al.mono h⟩
  | m + 1, .stream es s, w, ⟨fs, e, q, t⟩ => ⟨fs, e, q, t.mono fun x y => Al.mono h⟩
  | 0, .row _, _, a => a.elim
  | 0, .table _, _, a => a.elim
  | 0, .stream _ _, _, a => a.elim
theorem al_to {m : Nat} {k e : Int} {w : Vl} : Al A B S m (.to k e) w ↔ (leadB A (k, e) = false ∧ deadV B w) ∨ (leadB A (k, e) = true ∧ ∃ k' e', w = .to k' e' ∧ leadB B (k', e') = true ∧ S k k') := by cases m <;> exact Iff.rfl
theorem al_non {m : Nat} {w : Vl} : Al A B S m .non w ↔ deadV B w := by cases m <;> exact Iff.rfl
theorem al_dead {m : Nat} {v w : Vl} (h : deadV A v) (h' : deadV B w) : Al A B S m v w := by
  cases v with
  | non => exact al_non.mpr h'
  | to k e => exact al_to.mpr (.inl ⟨h, h'⟩)
  | _ => exact h.elim
theorem Al.swap (h : ∀ x y, S x y → S' y x) : ∀ {m : Nat} {v w : Vl}, Al A B S m v w → Al B A S' m w v
  | m, .non, w, a => by
    have a := al_non.mp a
    exact al_dead a (by trivial)
  | m, .to k e, w, a => by
    rcases al_to.mp a with ⟨a1, a2⟩ | ⟨a1, k', e', rfl, q2, q3⟩
    · exact al_dead a2 a1
    · exact al_to.mpr (.inr ⟨q2, k, e, rfl, a1, h _ _ q3⟩)
  | m, .int i, w, a => by
    obtain rfl : w = .int i := by cases m <;> exact a
    cases m <;> rfl
  | m, .str i, w, a => by
    obtain rfl : w = .str i := by cases m <;> exact a
    cases m <;> rfl
  | m, .name i, w, a => by
    obtain rfl : w = .name i := by cases m <;> exact a
    cases m <;> rfl
  | m + 1, .row vs, w, ⟨ws, e, t⟩ => by
    subst e
    exact ⟨vs, rfl, t.swap fun x y => Al.swap h⟩
  | m + 1, .table es, w, ⟨fs, e, q, t⟩ => by
    subst e
    exact ⟨es, rfl, q.symm, t.swap fun x y => Al.swap h⟩
  | m + 1, .stream es s, w, ⟨fs, e, q, t⟩ => by
    subst e
    exact ⟨es, rfl, q.symm, t.swap fun x y => Al.swap h⟩
  | 0, .row _, _, a => a.elim
  | 0, .table _, _, a => a.elim
  | 0, .stream _ _, _, a => a.elim
end
structure Bis (A : Th) (ra : Option (Int × Int)) (B : Th) (rb : Option (Int × Int)) (S : Rel) : Prop where
  fn : ∀ x y y', S x y → S x y' → y = y'
  inj : ∀ x x' y, S x y → S x' y → x = x'
  root : Al A B S 2 (rootV ra) (rootV rb)
  cl : ∀ x y, S x y → ∃ p q, findT x A = some p ∧ findT y B = some q ∧ Al A B S 2 p.2 q.2
def Alike (A : Th) (ra : Option (Int × Int)) (B : Th) (rb : Option (Int × Int)) : Prop := ∃ S, Bis A ra B rb S
theorem Alike.swap {A B : Th} {ra rb : Option (Int × Int)} (h : Alike A ra B rb) : Alike B rb A ra := by
  obtain ⟨S, h⟩ := h
  refine ⟨fun x y => S y x, fun x y y' h1 h2 => h.inj _ _ _ h1 h2, fun x x' y h1 h2 => h.fn _ _ _ h1 h2, h.root.swap fun _ _ q => q, fun x y q => ?_⟩
  obtain ⟨p, r, e1, e2, a⟩ := h.cl _ _ q
  exact ⟨r, p, e2, e1, a.swap fun _ _ q => q⟩
theorem Alike.comm {A B : Th} {ra rb : Option (Int × Int)} : Alike A ra B rb ↔ Alike B rb A ra := ⟨Alike.swap, Alike.swap⟩
abbrev Prs := List (Int × Int)
def relP (P : Prs) : Rel := fun x y => (x, y) ∈ P
def Lv (A B : Th) (p : Int × Int) : Prop := (∃ q, findT p.1 A = some q) ∧ ∃ q, findT p.2 B = some q
structure StepR (V : Int × Int → Prop) (G : Rel → Prop) (P P' : Prs) (R : Rel → Prop) (b : Bool) : Prop where
  pre : ∃ M, P' = P ++ M ∧ ∀ p ∈ M, V p
  yes : b = true → R (relP P')
  all : ∀ S : Rel, G S → (∀ p ∈ P, S p.1 p.2) → R S → b = true ∧ ∀ p ∈ P', S p.1 p.2
def Mono (R : Rel → Prop) : Prop := ∀ S S' : Rel, (∀ x y, S x y → S' x y) → R S → R S'
section
variable {V : Int × Int → Prop} {G : Rel → Prop} {P P1 P2 : Prs} {R R1 R2 : Rel → Prop} {b b1 b2 : Bool}
theorem relP_app {M : Prs} : ∀ x y, relP P x y → relP (P ++ M) x y := fun x y h => List.mem_append_left _ h
theorem StepR.both (h1 : StepR V G P P1 R1 b1) (h2 : StepR V G P1 P2 R2 b2) (m1 : Mono R1) : StepR V G P P2 (fun S => R1 S ∧ R2 S) (b1 && b2) := by
  obtain ⟨M1, e1, v1⟩ := h1.pre
  obtain ⟨M2, e2, v2⟩ := h2.pre
  refine ⟨⟨M1 ++ M2, by rw [e2, e1, List.append_assoc], fun p hp => (List.mem_append.mp hp).elim (v1 p) (v2 p)⟩, fun hb => ?_, fun S g hp hR => ?_⟩
  · rw [Bool.and_eq_true] at hb
    refine ⟨?_, h2.yes hb.2⟩
    have := h1.yes hb.1
    rw [e2]
    exact m1 _ _ relP_app this
  · obtain ⟨q1, q2⟩ := h1.all S g hp hR.1
    obtain ⟨q3, q4⟩ := h2.all S g q2 hR.2
    exact ⟨by rw [q1, q3]; rfl, q4⟩
theorem StepR.stop (h1 : StepR V G P P1 R1 false) : StepR V G P P1 (fun S => R1 S ∧ R2 S) false := by
  refine ⟨h1.pre, fun hb => (by cases hb), fun S g hp hR => ?_⟩
  obtain ⟨q1, _⟩ := h1.all S g hp hR.1
  cases q1
theorem StepR.pure (h : b = true → ∀ S, R S) (h' : ∀ S, R S → b = true) : StepR V G P P R b :=
  ⟨⟨[], by simp, by simp⟩, fun hb => h hb _, fun S g hp hR => ⟨h' S hR, hp⟩⟩
theorem StepR.iff {R' : Rel → Prop} (h : StepR V G P P1 R b) (e : ∀ S, R' S ↔ R S) : StepR V G P P1 R' b :=
  ⟨h.pre, fun hb => (e _).mpr (h.yes hb), fun S g hp hR => h.all S g hp ((e S).mp hR)⟩
theorem StepR.no (h : ∀ S, ¬ R S) : StepR V G P P R false := StepR.pure (fun h => (by cases h)) fun S hS => (h S hS).elim
theorem StepR.refl (h : ∀ S, R S) : StepR V G P P R true := StepR.pure (fun _ => h) fun _ _ => rfl
theorem StepR.const {Q : Prop} (hb : b = true ↔ Q) : StepR V G P P (fun _ => Q) b := StepR.pure (fun h _ => hb.mp h) fun _ h => hb.mpr h
end
theorem mono_al {A B : Th} {m : Nat} {v w : Vl} : Mono (fun S => Al A B S m v w) := fun _ _ h a => a.mono h
end Lw
end
section
set_option linter.all false
set_option autoImplicit false
set_option maxRecDepth 100000
namespace Lw
open Fw Pl
def thD (A : Th) : D := .dct (kvT A)
def bothD (A B : Th) : D := .tup [.dct (kvT A), .dct (kvT B)]
def prD (p : Int × Int) : D := .tup [.int p.1, .int p.2]
def liveB (A : Th) : Vl → Bool
  | .to k e => leadB A (k, e)
  | _ => false
def deadB (A : Th) : Vl → Bool
  | .non => true
  | .to k e => !leadB A (k, e)
  | _ => false
theorem lead_some {A : Th} {k e : Int} (h : leadB A (k, e) = true) : ∃ q, findT k A = some q := by
  unfold leadB at h
  cases hf : findT k A with
  | none => rw [hf] at h; cases h
  | some q => exact ⟨q, rfl⟩
theorem deadB_iff {A : Th} {v : Vl} : deadB A v = true ↔ deadV A v := by
  cases v <;> simp [deadB, deadV]
@[simp] theorem cl_prs (L : Prs) : closedAll (L.map prD) = true := Pl.cl_all.mpr fun d hd => by
  obtain ⟨p, _, rfl⟩ := List.mem_map.mp hd
  rfl
@[simp] theorem mem_int (h : Hh) (k : Int) (ts : Th) : cmpop h .notin (.int k) (.dct (kvT ts)) = some (!(findT k ts).isSome) := by
  show (isMem h (.int k) (.dct (kvT ts))).map (!·) = _
  simp [isMem, key1, any_kvT]
@[simp] theorem mem_int' (h : Hh) (k : Int) (ts : Th) : cmpop h .in_ (.int k) (.dct (kvT ts)) = some (findT k ts).isSome := by
  show isMem h (.int k) (.dct (kvT ts)) = _
  simp [isMem, key1, any_kvT]
@[simp] theorem index_dcti (h : Hh) (k : Int) (kvs : List (K1 × D)) : index h (.dct kvs) (.int k) = look (.inl k) kvs := by simp [index, asSeq]
theorem r_lleads (F n : Nat) (A : Th) {v : Vl} (h : Hh) (hv : kind v = 0 ∨ kind v = 4) : run F (n + 1) ix__law_leads [.dct (kvT A), v.d] h = .ok (.bl (liveB A v)) h := by
  rw [run__law_leads, own_closed (np := 2) (by simp [Vl.closed]) rfl]
  cases v with
  | non => simp [b__law_leads, startD, Vl.d, liveB]
  | to k e =>
    have x31 : ixn 3 1 = some 1 := rfl
    have x32 : ixn 3 2 = some 2 := rfl
    have x20 : ixn 2 0 = some 0 := rfl
    cases hf : findT k A with
    | none => simp [b__law_leads, startD, Vl.d, liveB, leadB, hf, x31, x32]
    | some p => simp [b__law_leads, startD, Vl.d, liveB, leadB, hf, x31, x32, x20, look_kvT]
  | _ => simp [kind] at hv
theorem own_four {np N : Nat} {b : SM} {d1 d2 d3 : D} {r : Nat} {o : O} {h : Hh} (c1 : d1.closed = true) (c2 : d2.closed = true) (c3 : d3.closed = true) (ho : h[r]? = some o) (co : o.closed = true) (hl : 4 = np) :
    own np N b [d1, d2, d3, .ref r] h = back [r] h (b (startD N [d1, d2, d3, .ref 0]) [o]) := by
  subst hl
  simp [own, lent, lend_cl c1, lend_cl c2, lend_cl c3, lend, lentO, ho, co]
def Turn2 (body : D → Sg → Hh → SR) (enc : Option D → Option D → Sg) (hh : Prs → Hh) (P P' : Prs) (x : D) (c6 c7 : Option D) (b : Bool) : Prop :=
  (b = true → ∃ d6 d7, body x (enc c6 c7) (hh P) = .nx (enc d6 d7) (hh P')) ∧ (b = false → body x (enc c6 c7) (hh P) = .rt (.bl false) (hh P'))
theorem loop_steps {α : Type} {body : D → Sg → Hh → SR} {enc : Option D → Option D → Sg} {f : α → D} {R : α → Rel → Prop} {hh : Prs → Hh} {V : Int × Int → Prop} {G : Rel → Prop} {c N : Nat} (mono : ∀ z, Mono (R z)) : ∀ (zs : List α) (P : Prs) (c6 c7 : Option D),
    (∀ z ∈ zs, ∀ P c6 c7, P.length + c ≤ N → ∃ b P', Turn2 body enc hh P P' (f z) c6 c7 b ∧ StepR V G P P' (R z) b ∧ P'.length ≤ P.length + c) → P.length + zs.length * c ≤ N →
    ∃ b P', ((b = true → ∃ d6 d7, forL body (zs.map f) (enc c6 c7) (hh P) = .nx (enc d6 d7) (hh P')) ∧ (b = false → forL body (zs.map f) (enc c6 c7) (hh P) = .rt (.bl false) (hh P'))) ∧ StepR V G P P' (fun S => ∀ z ∈ zs, R z S) b ∧ P'.length ≤ P.length + zs.length * c
  | [], P, c6, c7, hb, hN => ⟨true, P, ⟨fun _ => ⟨c6, c7, rfl⟩, fun h => (by cases h)⟩, StepR.refl (by simp), by simp⟩
  | z :: zs, P, c6, c7, hb, hN => by
    simp only [List.length_cons, Nat.succ_mul] at hN
    obtain ⟨b1, P1, ⟨t1, t2⟩, s1, l1⟩ := hb z List.mem_cons_self P c6 c7 (by omega)
    cases b1 with
    | false =>
      refine ⟨false, P1, ⟨fun h => (by cases h), fun _ => ?_⟩, ?_, by simp only [List.length_cons, Nat.succ_mul]; omega⟩
      · rw [List.map_cons, forL_cons, t2 rfl, forK_rt]
      · exact (StepR.stop (R2 := fun S => ∀ y ∈ zs, R y S) s1).iff fun S => by simp
    | true =>
      obtain ⟨d6, d7, e1⟩ := t1 rfl
      obtain ⟨b2, P2, ⟨u1, u2⟩, s2, l2⟩ := loop_steps mono zs P1 d6 d7 (fun y hy => hb y (List.mem_cons_of_mem _ hy)) (by omega)
      refine ⟨b2, P2, ⟨fun h => ?_, fun h => ?_⟩, ?_, by simp only [List.length_cons, Nat.succ_mul]; omega⟩
      · obtain ⟨f6, f7, e2⟩ := u1 h
        exact ⟨f6, f7, by rw [List.map_cons, forL_cons, e1, forK_nx, e2]⟩
      · rw [List.map_cons, forL_cons, e1, forK_nx, u2 h]
      · have := (s1.both s2 (mono z)).iff (R' := fun S => ∀ y ∈ z :: zs, R y S) fun S => by simp
        simpa using this
theorem loop_stepsR {α : Type} {body : D → Sg → Hh → SR} {xs : List D} {σ : Sg} {h : Hh} {rr : SR} (hR : forL body xs σ h = rr) (enc : Option D → Option D → Sg) (f : α → D) (R : α → Rel → Prop) (hh : Prs → Hh) (V : Int × Int → Prop) (G : Rel → Prop) (c N : Nat) (zs : List α) (P : Prs) (c6 c7 : Option D)
    (hx : xs = zs.map f) (hσ : σ = enc c6 c7) (h0 : h = hh P) (mono : ∀ z, Mono (R z))
    (hb : ∀ z ∈ zs, ∀ P c6 c7, P.length + c ≤ N → ∃ b P', Turn2 body enc hh P P' (f z) c6 c7 b ∧ StepR V G P P' (R z) b ∧ P'.length ≤ P.length + c) (hN : P.length + zs.length * c ≤ N) :
    ∃ b P', ((b = true → ∃ d6 d7, rr = .nx (enc d6 d7) (hh P')) ∧ (b = false → rr = .rt (.bl false) (hh P'))) ∧ StepR V G P P' (fun S => ∀ z ∈ zs, R z S) b ∧ P'.length ≤ P.length + zs.length * c := by
  subst hR hx hσ h0
  exact loop_steps mono zs P c6 c7 hb hN
theorem strT_repr : ∀ s ∈ strT, ∀ t ∈ strT, (reprT (.tup [.str s]) = reprT (.tup [.str t]) ↔ s = t) := by
  intro s hs t ht
  simp only [strT, List.mem_cons, List.not_mem_nil, or_false] at hs ht
  rcases hs with rfl | rfl | rfl <;> rcases ht with rfl | rfl | rfl <;> decide +kernel
theorem al_apart {A B : Th} {S : Rel} {m : Nat} {v w : Vl} (hd : ¬ deadV A v) (hl : ¬ ∃ k e, v = .to k e) (a : Apart v w) : Al A B S m v w ↔ v = w := by
  cases v with
  | non => exact absurd trivial hd
  | to k e => exact absurd ⟨k, e, rfl⟩ hl
  | int i => cases m <;> exact eq_comm
  | str i => cases m <;> exact eq_comm
  | name i => cases m <;> exact eq_comm
  | row vs =>
    have hk : kind w ≠ 5 := by
      rcases a with a | a
      · exact fun h => a h.symm
      · simp [kind] at a
    cases m with
    | zero => exact ⟨fun h => h.elim, fun h => by subst h; exact absurd rfl hk⟩
    | succ m => exact ⟨fun ⟨ws, e, _⟩ => by subst e; exact absurd rfl hk, fun h => by subst h; exact absurd rfl hk⟩
  | table vs =>
    have hk : kind w ≠ 6 := by
      rcases a with a | a
      · exact fun h => a h.symm
      · simp [kind] at a
    cases m with
    | zero => exact ⟨fun h => h.elim, fun h => by subst h; exact absurd rfl hk⟩
    | succ m => exact ⟨fun ⟨ws, e, _⟩ => by subst e; exact absurd rfl hk, fun h => by subst h; exact absurd rfl hk⟩
  | stream vs s =>
    have hk : kind w ≠ 7 := by
      rcases a with a | a
      · exact fun h => a h.symm
      · simp [kind] at a
    cases m with
    | zero => exact ⟨fun h => h.elim, fun h => by subst h; exact absurd rfl hk⟩
    | succ m => exact ⟨fun ⟨ws, e, _⟩ => by subst e; exact absurd rfl hk, fun h => by subst h; exact absurd rfl hk⟩
theorem all2_zip {α β : Type} {R : α → β → Prop} : ∀ {xs : List α} {ys : List β}, xs.length = ys.length → (All2 R xs ys ↔ ∀ z ∈ xs.zip ys, R z.1 z.2)
  | [], [], _ => by simp [All2]
  | x :: xs, y :: ys, h => by
    have := all2_zip (R := R) (xs := xs) (ys := ys) (by simpa using h)
    simp [All2, this]
  | [], _ :: _, h => by simp at h
  | _ :: _, [], h => by simp at h
theorem ent_zip {R : Vl → Vl → Prop} : ∀ {es fs : List (Tx × Vl)}, es.length = fs.length → ((words es = words fs ∧ All2 R (vals es) (vals fs)) ↔ ∀ z ∈ es.zip fs, z.1.1 = z.2.1 ∧ R z.1.2 z.2.2)
  | [], [], _ => by simp [All2, words, vals]
  | e :: es, f :: fs, h => by
    have := ent_zip (R := R) (es := es) (fs := fs) (by simpa using h)
    simp only [words, vals] at this ⊢
    simp only [List.map_cons, List.cons.injEq, All2, List.zip_cons_cons, List.forall_mem_cons, ← this]
    constructor
    · rintro ⟨⟨a, b⟩, c, d⟩; exact ⟨⟨a, c⟩, b, d⟩
    · rintro ⟨⟨a, c⟩, b, d⟩; exact ⟨⟨a, b⟩, c, d⟩
  | [], _ :: _, h => by simp at h
  | _ :: _, [], h => by simp at h
def SameSpec (F m : Nat) (A B : Th) : Prop := ∀ (n : Nat) (v w : Vl) (h : Hh) (r : Nat) (L : Prs), fit m v → fit m w → h[r]? = some (.lst (L.map prD)) → L.length + 4 ^ m ≤ 100000 →
  ∃ b L', run F (n + m + 2) ix__law_same [v.d, w.d, bothD A B, .ref r] h = .ok (.bl b) (h.set r (.lst (L'.map prD))) ∧ StepR (Lv A B) (fun _ => True) L L' (fun S => Al A B S m v w) b ∧ L'.length ≤ L.length + 4 ^ m
theorem same_step (F m : Nat) (A B : Th) (hm : m ≤ 2) (ih : ∀ j, m = j + 1 → SameSpec F j A B) : SameSpec F m A B := by
  intro n v w h r L fv fw hr hL
  have p4 := pow4_pos m
  have co : (Fw.O.lst (L.map prD)).closed = true := by simp [O.closed]
  have cb : (bothD A B).closed = true := by simp [bothD]
  rw [run__law_same, own_four (np := 4) (Vl.closed v) (Vl.closed w) cb hr co rfl]
  have x20 : ixn 2 0 = some 0 := rfl
  have x21 : ixn 2 1 = some 1 := rfl
  have x30 : ixn 3 0 = some 0 := rfl
  have x31 : ixn 3 1 = some 1 := rfl
  have x32 : ixn 3 2 = some 2 := rfl
  have ll : line = 16777216 := Pl.line_eq
  have eA := fun (v : Vl) (hv : kind v = 0 ∨ kind v = 4) hh => r_lleads F (n + m) A (v := v) hh hv
  have eB := fun (v : Vl) (hv : kind v = 0 ∨ kind v = 4) hh => r_lleads F (n + m) B (v := v) hh hv
  simp only [Nat.add_assoc, Nat.reduceAdd] at eA eB
  have eA0 := eA .non (.inl rfl)
  have eB0 := eB .non (.inl rfl)
  have eA4 := fun k e => eA (.to k e) (.inr rfl)
  have eB4 := fun k e => eB (.to k e) (.inr rfl)
  simp only [Vl.d, liveB] at eA0 eB0 eA4 eB4
  have same : h.set r (.lst (L.map prD)) = h := set_same hr
  have tell : ∀ (b : Bool) (R : Rel → Prop), back [r] h (b__law_same (run F (n + m + 1)) F (startD 8 [v.d, w.d, bothD A B, .ref 0]) [.lst (L.map prD)]) = .ok (.bl b) h → StepR (Lv A B) (fun _ => True) L L (fun S => Al A B S m v w) b →
      ∃ b L', back [r] h (b__law_same (run F (n + m + 1)) F (startD 8 [v.d, w.d, bothD A B, .ref 0]) [.lst (L.map prD)]) = .ok (.bl b) (h.set r (.lst (L'.map prD))) ∧ StepR (Lv A B) (fun _ => True) L L' (fun S => Al A B S m v w) b ∧ L'.length ≤ L.length + 4 ^ m :=
    fun b R e st => ⟨b, L, by rw [same]; exact e, st, by omega⟩
  by_cases hd : deadV A v
  · -- it leads nowhere
    refine tell (deadB B w) (fun S => True) ?_ ((StepR.const (deadB_iff (A := B) (v := w))).iff fun S => ⟨fun a => ?_, fun a => al_dead hd a⟩)
    · cases v with
      | non =>
        cases w <;> simp [b__law_same, startD, Vl.d, bothD, bindGs, bindG, eA0, eB0, eB4, deadB, co, same, x20, x21, x30, x31, x32, Nat.add_assoc, isT, ty1, isOf]
      | to k e =>
        have hd' : leadB A (k, e) = false := hd
        cases w <;> simp [b__law_same, startD, Vl.d, bothD, bindGs, bindG, eA4, eB0, eB4, deadB, co, same, x20, x21, x30, x31, x32, Nat.add_assoc, isT, ty1, isOf, hd']
      | _ => exact hd.elim
    · cases v with
      | non => exact al_non.mp a
      | to k e =>
        rcases al_to.mp a with ⟨_, a⟩ | ⟨a1, _⟩
        · exact a
        · have hd' : leadB A (k, e) = false := hd
          rw [hd'] at a1
          cases a1
      | _ => exact hd.elim
  by_cases hl : ∃ k e, v = .to k e
  · obtain ⟨k, e, rfl⟩ := hl
    have hk : leadB A (k, e) = true := by simpa [deadV] using hd
    by_cases hw : ∃ k' e', w = .to k' e' ∧ leadB B (k', e') = true
    · obtain ⟨k', e', rfl, hk'⟩ := hw
      have hlt : L.length < 16777216 := by omega
      refine ⟨true, L ++ [(k, k')], ?_, ⟨⟨_, rfl, fun p hp => by
        simp at hp
        subst hp
        exact ⟨lead_some hk, lead_some hk'⟩⟩, fun _ => al_to.mpr (.inr ⟨hk, k', e', rfl, hk', by simp [relP]⟩), fun S _ hp a => ⟨rfl, fun p hp' => ?_⟩⟩, by simp; omega⟩
      · have co2 : (Fw.O.lst (L.map prD ++ [D.tup [.int k, .int k']])).closed = true := by
          have := cl_prs (L ++ [(k, k')])
          simpa [O.closed, prD] using this
        have isl : isLst [Fw.O.lst (L.map prD)] (.ref 0) = true := rfl
        have ap : appD [Fw.O.lst (L.map prD)] (.ref 0) (.tup [.int k, .int k']) = some (.non, some (0, .lst (L.map prD ++ [.tup [.int k, .int k']]))) := by simp [appD, hlt]
        simp [b__law_same, startD, Vl.d, bothD, bindGs, bindG, eA4, eB4, x20, x21, x30, x31, x32, Nat.add_assoc, isT, ty1, isOf, hk, hk', isl, ap, wr, co2, prD]
      · rcases List.mem_append.mp hp' with h | h
        · exact hp p h
        · simp at h
          subst h
          rcases al_to.mp a with ⟨a1, _⟩ | ⟨_, k2, e2, q1, q2, q3⟩
          · rw [hk] at a1; cases a1
          · cases q1
            exact q3
    · refine tell false (fun S => True) ?_ (StepR.no fun S a => ?_)
      · cases w with
        | to k' e' =>
          have hk' : leadB B (k', e') = false := by
            cases q : leadB B (k', e') with
            | false => rfl
            | true => exact absurd ⟨k', e', rfl, q⟩ hw
          simp [b__law_same, startD, Vl.d, bothD, bindGs, bindG, eA4, eB4, co, same, x20, x21, x30, x31, x32, Nat.add_assoc, isT, ty1, isOf, hk, hk']
        | _ => simp [b__law_same, startD, Vl.d, bothD, bindGs, bindG, eA4, eB4, co, same, x20, x21, x30, x31, x32, Nat.add_assoc, isT, ty1, isOf, hk]
      · rcases al_to.mp a with ⟨a1, _⟩ | ⟨_, k2, e2, q1, q2, q3⟩
        · rw [hk] at a1; cases a1
        · exact hw ⟨k2, e2, q1, q2⟩
  by_cases hap : Apart v w
  · have hv := fun hh => repr_fit hm fv hh
    have hw := fun hh => repr_fit hm fw hh
    have hq := repr_apart fv fw hap
    generalize reprT v.d = Rv at hv hq
    generalize reprT w.d = Rw at hw hq
    refine tell (decide (Rv = Rw)) (fun S => True) ?_ ((StepR.const (Q := v = w) (by rw [decide_eq_true_eq]; exact hq)).iff fun S => al_apart hd hl hap)
    cases v <;> first | (exact absurd trivial hd) | (exact absurd ⟨_, _, rfl⟩ hl) | skip
    all_goals cases w <;> first | (exfalso; rcases hap with a | a <;> simp [kind] at a; done) | (simp only [Vl.d] at hv hw; simp [b__law_same, startD, Vl.d, bothD, bindGs, bindG, co, same, x20, x21, x30, x31, x32, Nat.add_assoc, isT, ty1, isOf, hv, hw])
  · have hk : kind v = kind w ∧ 5 ≤ kind v := by
      refine ⟨Decidable.byContradiction fun h => hap (.inl h), ?_⟩
      have h3 : ¬ kind v ≤ 3 := fun h => hap (.inr h)
      have h4 : kind v ≠ 4 := fun h => by
        cases v <;> first | (simp [kind] at h; done) | exact hl ⟨_, _, rfl⟩
      omega
    have r0 : ∀ hh : Hh, reprV hh (.tup []) = some (.str (reprT (.tup []))) := fun hh => (RF.tup (k := 1) RFs.nil).repr (by decide) (by decide) (by simp) hh
    have r1 : ∀ (s : Tx), s ∈ strT → ∀ hh : Hh, reprV hh (.tup [.str s]) = some (.str (reprT (.tup [.str s]))) := fun s hs hh => (RF.tup (k := 1) (RFs.cons (RF.str (b := 10) (strT_lt hs).1 (strT_lt hs).2 (by decide)) RFs.nil)).repr (by decide) (by decide) (by simp) hh
    have sl2 : ∀ (hh : Hh) (a b : D), slice hh (.tup [a, b]) (some 2) none = some (.tup []) := fun hh a b => by simp [slice, cut, six]
    have sl3 : ∀ (hh : Hh) (a b c : D), slice hh (.tup [a, b, c]) (some 2) none = some (.tup [c]) := fun hh a b c => by simp [slice, cut, six]
    have lt2 : ∀ (hh : Hh) (xs : List D), lenD hh (.tup xs) = some (.int xs.length) := fun hh xs => rfl
    have cll : ∀ L : Prs, (Fw.O.lst (L.map prD)).closed = true := fun L => by simp [O.closed]
    have hj : ∃ j, m = j + 1 := by
      cases m with
      | zero => cases v <;> first | (simp [kind] at hk; done) | exact fv.elim
      | succ j => exact ⟨j, rfl⟩
    obtain ⟨j, rfl⟩ := hj
    have IH := ih j rfl
    have p4' : 4 ^ (j + 1) = 4 * 4 ^ j := by rw [Nat.pow_succ, Nat.mul_comm]
    clear tell hap hd
    generalize hE : back [r] h (b__law_same (run F (n + (j + 1) + 1)) F (startD 8 [v.d, w.d, bothD A B, .ref 0]) [.lst (L.map prD)]) = E
    cases v with
    | row vs =>
      cases w with
      | row ws =>
        obtain ⟨fl, fv⟩ := fv
        obtain ⟨_, fw⟩ := fw
        by_cases hlen : vs.length = ws.length
        · simp [b__law_same, startD, Vl.d, bothD, bindGs, bindG, x20, x21, lt2, sl2, r0, Nat.add_assoc, isT, ty1, isOf, dAll_map, hlen] at hE
          generalize hR : forL _ _ _ _ = rr at hE
          obtain ⟨b, L', ⟨t1, t2⟩, st, ln⟩ := loop_stepsR hR (fun c6 c7 => [some (.tup [.str wRow, .tup (vs.map Vl.d)]), some (.tup [.str wRow, .tup (ws.map Vl.d)]), some (bothD A B), some (.ref 0), some (.dct (kvT A)), some (.dct (kvT B)), c6, c7]) (fun z : Vl × Vl => .tup [z.1.d, z.2.d]) (fun z S => Al A B S j z.1 z.2) (fun P => [.lst (P.map prD)]) (Lv A B) (fun _ => True) (4 ^ j) 100000 (vs.zip ws) L none none (by rw [zipD_map]) rfl rfl (fun z => mono_al) (by
            intro z hz P c6 c7 hP
            obtain ⟨b, P', e, st, ln⟩ := IH n z.1 z.2 [.lst (P.map prD)] 0 P (fv _ (List.of_mem_zip hz).1) (fw _ (List.of_mem_zip hz).2) rfl hP
            simp only [Nat.add_assoc, Nat.reduceAdd, bothD] at e
            refine ⟨b, P', ⟨fun hb => ⟨some z.1.d, some z.2.d, ?_⟩, fun hb => ?_⟩, st, ln⟩
            · subst hb
              simp [bindGs, bindG, x20, x21, bothD, e]
            · subst hb
              simp [bindGs, bindG, x20, x21, bothD, e]) (by
            simp only [List.length_zip]
            have : min vs.length ws.length * 4 ^ j ≤ 3 * 4 ^ j := Nat.mul_le_mul_right _ (by omega)
            omega)
          clear hR
          have hlz : L'.length ≤ L.length + 4 ^ (j + 1) := by
            simp only [List.length_zip] at ln
            have : min vs.length ws.length * 4 ^ j ≤ 3 * 4 ^ j := Nat.mul_le_mul_right _ (by omega)
            omega
          have st' : StepR (Lv A B) (fun _ => True) L L' (fun S => Al A B S (j + 1) (.row vs) (.row ws)) b := st.iff fun S => ⟨fun ⟨ws', e, a⟩ => by
            cases e
            exact (all2_zip hlen).mp a, fun a => ⟨ws, rfl, (all2_zip hlen).mpr a⟩⟩
          refine ⟨b, L', ?_, st', hlz⟩
          rw [← hE]
          cases b with
          | true =>
            obtain ⟨d6, d7, e⟩ := t1 rfl
            rw [e]
            simp [cll]
          | false =>
            rw [t2 rfl]
            simp [cll]
        · have hlen' : ¬ ((vs.length : Int) = ws.length) := by omega
          refine ⟨false, L, ?_, StepR.no fun S ⟨ws', e, a⟩ => ?_, by omega⟩
          · rw [← hE]
            simp [b__law_same, startD, Vl.d, bothD, bindGs, bindG, x20, x21, lt2, sl2, r0, Nat.add_assoc, isT, ty1, isOf, dAll_map, hlen, hlen', co, same]
          · cases e
            exact hlen a.len
      | _ => exact absurd hk.1 (by simp [kind])
    | table es =>
      cases w with
      | table fs =>
        obtain ⟨fl, fv⟩ := fv
        obtain ⟨_, fw⟩ := fw
        by_cases hlen : es.length = fs.length
        · simp [b__law_same, startD, Vl.d, bothD, bindGs, bindG, x20, x21, x30, x31, x32, lt2, sl2, r0, Nat.add_assoc, isT, ty1, isOf, dEnt_map, hlen] at hE
          generalize hR : forL _ _ _ _ = rr at hE
          obtain ⟨b, L', ⟨t1, t2⟩, st, ln⟩ := loop_stepsR hR (fun c6 c7 => [some (.tup [.str wTable, .tup (es.map fun e => .tup [.str e.1, e.2.d])]), some (.tup [.str wTable, .tup (fs.map fun e => .tup [.str e.1, e.2.d])]), some (bothD A B), some (.ref 0), some (.dct (kvT A)), some (.dct (kvT B)), c6, c7]) (fun z : (Tx × Vl) × (Tx × Vl) => .tup [.tup [.str z.1.1, z.1.2.d], .tup [.str z.2.1, z.2.2.d]]) (fun z S => z.1.1 = z.2.1 ∧ Al A B S j z.1.2 z.2.2) (fun P => [.lst (P.map prD)]) (Lv A B) (fun _ => True) (4 ^ j) 100000 (es.zip fs) L none none (by rw [zipD_map]) rfl rfl (fun z S S' h a => ⟨a.1, a.2.mono h⟩) (by
            intro z hz P c6 c7 hP
            have hzz := List.of_mem_zip hz
            by_cases hw : z.1.1 = z.2.1
            · obtain ⟨b, P', e, st, ln⟩ := IH n z.1.2 z.2.2 [.lst (P.map prD)] 0 P (fv _ hzz.1).2 (fw _ hzz.2).2 rfl hP
              simp only [Nat.add_assoc, Nat.reduceAdd, bothD] at e
              refine ⟨b, P', ⟨fun hb => ⟨some z.1.2.d, some z.2.2.d, ?_⟩, fun hb => ?_⟩, st.iff fun S => ⟨fun a => a.2, fun a => ⟨hw, a⟩⟩, ln⟩
              · subst hb
                simp [bindGs, bindG, x20, x21, x30, bothD, e, hw, par2]
              · subst hb
                simp [bindGs, bindG, x20, x21, x30, bothD, e, hw, par2]
            · refine ⟨false, P, ⟨fun hb => (by cases hb), fun _ => ?_⟩, StepR.no fun S a => hw a.1, by omega⟩
              simp [bindGs, bindG, x20, x21, x30, bothD, hw]) (by
            simp only [List.length_zip]
            have : min es.length fs.length * 4 ^ j ≤ 3 * 4 ^ j := Nat.mul_le_mul_right _ (by omega)
            omega)
          clear hR
          have hlz : L'.length ≤ L.length + 4 ^ (j + 1) := by
            simp only [List.length_zip] at ln
            have : min es.length fs.length * 4 ^ j ≤ 3 * 4 ^ j := Nat.mul_le_mul_right _ (by omega)
            omega
          have st' : StepR (Lv A B) (fun _ => True) L L' (fun S => Al A B S (j + 1) (.table es) (.table fs)) b := st.iff fun S => ⟨fun ⟨fs', e, a⟩ => by
            cases e
            exact (ent_zip hlen).mp a, fun a => ⟨fs, rfl, (ent_zip hlen).mpr a⟩⟩
          refine ⟨b, L', ?_, st', hlz⟩
          rw [← hE]
          cases b with
          | true =>
            obtain ⟨d6, d7, e⟩ := t1 rfl
            rw [e]
            simp [cll]
          | false =>
            rw [t2 rfl]
            simp [cll]
        · refine ⟨false, L, ?_, StepR.no fun S ⟨fs', e, a⟩ => ?_, by omega⟩
          · rw [← hE]
            have hlen' : ¬ ((es.length : Int) = fs.length) := by omega
            simp [b__law_same, startD, Vl.d, bothD, bindGs, bindG, x20, x21, x30, x31, x32, lt2, sl2, r0, Nat.add_assoc, isT, ty1, isOf, dEnt_map, co, same, hlen, hlen']
          · cases e
            exact hlen (by simpa [vals] using a.2.len)
      | _ => exact absurd hk.1 (by simp [kind])
    | stream es s =>
      cases w with
      | stream fs t =>
        obtain ⟨fl, fv, hs⟩ := fv
        obtain ⟨_, fw, ht⟩ := fw
        by_cases hlen : es.length = fs.length ∧ s = t
        · obtain ⟨hlen, rfl⟩ := hlen
          have rs := r1 s hs
          have rt := rs
          simp [b__law_same, startD, Vl.d, bothD, bindGs, bindG, x20, x21, x30, x31, x32, lt2, sl3, rs, rt, Nat.add_assoc, isT, ty1, isOf, dEnt_map, hlen] at hE
          generalize hR : forL _ _ _ _ = rr at hE
          obtain ⟨b, L', ⟨t1, t2⟩, st, ln⟩ := loop_stepsR hR (fun c6 c7 => [some (.tup [.str wStream, .tup (es.map fun e => .tup [.str e.1, e.2.d]), .str s]), some (.tup [.str wStream, .tup (fs.map fun e => .tup [.str e.1, e.2.d]), .str s]), some (bothD A B), some (.ref 0), some (.dct (kvT A)), some (.dct (kvT B)), c6, c7]) (fun z : (Tx × Vl) × (Tx × Vl) => .tup [.tup [.str z.1.1, z.1.2.d], .tup [.str z.2.1, z.2.2.d]]) (fun z S => z.1.1 = z.2.1 ∧ Al A B S j z.1.2 z.2.2) (fun P => [.lst (P.map prD)]) (Lv A B) (fun _ => True) (4 ^ j) 100000 (es.zip fs) L none none (by rw [zipD_map]) rfl rfl (fun z S S' h a => ⟨a.1, a.2.mono h⟩) (by
            intro z hz P c6 c7 hP
            have hzz := List.of_mem_zip hz
            by_cases hw : z.1.1 = z.2.1
            · obtain ⟨b, P', e, st, ln⟩ := IH n z.1.2 z.2.2 [.lst (P.map prD)] 0 P (fv _ hzz.1).2 (fw _ hzz.2).2 rfl hP
              simp only [Nat.add_assoc, Nat.reduceAdd, bothD] at e
              refine ⟨b, P', ⟨fun hb => ⟨some z.1.2.d, some z.2.2.d, ?_⟩, fun hb => ?_⟩, st.iff fun S => ⟨fun a => a.2, fun a => ⟨hw, a⟩⟩, ln⟩
              · subst hb
                simp [bindGs, bindG, x20, x21, x30, bothD, e, hw, par2]
              · subst hb
                simp [bindGs, bindG, x20, x21, x30, bothD, e, hw, par2]
            · refine ⟨false, P, ⟨fun hb => (by cases hb), fun _ => ?_⟩, StepR.no fun S a => hw a.1, by omega⟩
              simp [bindGs, bindG, x20, x21, x30, bothD, hw]) (by
            simp only [List.length_zip]
            have : min es.length fs.length * 4 ^ j ≤ 3 * 4 ^ j := Nat.mul_le_mul_right _ (by omega)
            omega)
          clear hR
          have hlz : L'.length ≤ L.length + 4 ^ (j + 1) := by
            simp only [List.length_zip] at ln
            have : min es.length fs.length * 4 ^ j ≤ 3 * 4 ^ j := Nat.mul_le_mul_right _ (by omega)
            omega
          have st' : StepR (Lv A B) (fun _ => True) L L' (fun S => Al A B S (j + 1) (.stream es s) (.stream fs s)) b := st.iff fun S => ⟨fun ⟨fs', e, a⟩ => by
            cases e
            exact (ent_zip hlen).mp a, fun a => ⟨fs, rfl, (ent_zip hlen).mpr a⟩⟩
          refine ⟨b, L', ?_, st', hlz⟩
          rw [← hE]
          cases b with
          | true =>
            obtain ⟨d6, d7, e⟩ := t1 rfl
            rw [e]
            simp [cll]
          | false =>
            rw [t2 rfl]
            simp [cll]
        · refine ⟨false, L, ?_, StepR.no fun S ⟨fs', e, a⟩ => ?_, by omega⟩
          · rw [← hE]
            have rs := r1 s hs
            have rt := r1 t ht
            by_cases hlen2 : es.length = fs.length
            · have hne : ¬ reprT (.tup [.str s]) = reprT (.tup [.str t]) := fun e => hlen ⟨hlen2, (strT_repr s hs t ht).mp e⟩
              generalize reprT (.tup [.str s]) = Rs at rs hne
              generalize reprT (.tup [.str t]) = Rt at rt hne
              simp [b__law_same, startD, Vl.d, bothD, bindGs, bindG, x20, x21, x30, x31, x32, lt2, sl3, rs, rt, Nat.add_assoc, isT, ty1, isOf, dEnt_map, co, same, hlen2, hne]
            · have hlen' : ¬ ((es.length : Int) = fs.length) := by omega
              simp [b__law_same, startD, Vl.d, bothD, bindGs, bindG, x20, x21, x30, x31, x32, lt2, sl3, rs, rt, Nat.add_assoc, isT, ty1, isOf, dEnt_map, co, same, hlen2, hlen']
          · cases e
            exact hlen ⟨by simpa [vals] using a.2.len, rfl⟩
      | _ => exact absurd hk.1 (by simp [kind])
    | _ => exact absurd hk.2 (by simp [kind])
theorem same_spec (F : Nat) (A B : Th) : ∀ m, m ≤ 2 → SameSpec F m A B
  | 0, _ => same_step F 0 A B (by decide) (by omega)
  | m + 1, h => same_step F (m + 1) A B h fun j e => by
    obtain rfl : j = m := by omega
    exact same_spec F A B j (by omega)
end Lw
end
section
set_option linter.all false
set_option autoImplicit false
set_option maxRecDepth 100000
namespace Lw
open Fw Pl
theorem nodup_len : ∀ {l k : List Int}, l.Nodup → (∀ x ∈ l, x ∈ k) → l.length ≤ k.length
  | [], k, _, _ => by simp
  | x :: l, k, h, hk => by
    rw [List.nodup_cons] at h
    have := nodup_len (l := l) (k := k.erase x) h.2 fun y hy => (List.mem_erase_of_ne (fun e => h.1 (by rw [← e]; exact hy))).mpr (hk y (List.mem_cons_of_mem _ hy))
    have hx := hk x List.mem_cons_self
    rw [List.length_erase_of_mem hx] at this
    have := List.length_pos_of_mem hx
    simp only [List.length_cons]
    omega
theorem look_loop {body : D → Sg → Hh → SR} {enc : Option D → Option D → Sg} {h : Hh} {p : Int × Int}
    (hb : ∀ (y : Int × Int) c8 c9, ((y.1 = p.1 ↔ y.2 = p.2) → body (prD y) (enc c8 c9) h = .nx (enc (some (.int y.1)) (some (.int y.2))) h) ∧ (¬ (y.1 = p.1 ↔ y.2 = p.2) → body (prD y) (enc c8 c9) h = .rt (.bl false) h)) :
    ∀ (ys : Prs) (c8 c9 : Option D), (∃ d8 d9, forL body (ys.map prD) (enc c8 c9) h = .nx (enc d8 d9) h ∧ ∀ y ∈ ys, (y.1 = p.1 ↔ y.2 = p.2)) ∨ (forL body (ys.map prD) (enc c8 c9) h = .rt (.bl false) h ∧ ∃ y ∈ ys, ¬ (y.1 = p.1 ↔ y.2 = p.2))
  | [], c8, c9 => .inl ⟨c8, c9, rfl, by simp⟩
  | y :: ys, c8, c9 => by
    by_cases hy : (y.1 = p.1 ↔ y.2 = p.2)
    · rw [List.map_cons, forL_cons, (hb y c8 c9).1 hy, forK_nx]
      rcases look_loop hb ys (some (.int y.1)) (some (.int y.2)) with ⟨d8, d9, e, q⟩ | ⟨e, z, hz, q⟩
      · exact .inl ⟨d8, d9, e, fun z hz => (List.mem_cons.mp hz).elim (fun e => by rw [e]; exact hy) (q z)⟩
      · exact .inr ⟨e, z, List.mem_cons_of_mem _ hz, q⟩
    · refine .inr ⟨?_, y, List.mem_cons_self, hy⟩
      rw [List.map_cons, forL_cons, (hb y c8 c9).2 hy, forK_rt]
theorem prD_flat (p : Int × Int) (k : Nat) : (prD p).flat (k + 1) = true := flat_tup (flat_cons (flat_int _) (flat_cons (flat_int _) rfl))
theorem prD_eqv (y p : Int × Int) : (prD y).eqv (prD p) = decide (y = p) := by
  rw [Bool.eq_iff_iff]
  obtain ⟨a, b⟩ := y
  obtain ⟨c, d⟩ := p
  simp [prD, eqvAll, eqv_int']
theorem in_prs (h : Hh) (p : Int × Int) (ys : Prs) : inD h (prD p) (.lst (ys.map prD)) = some (decide (p ∈ ys)) := by
  have f1 : (prD p).flat 60 = true := prD_flat p 59
  have f2 : (D.lst (ys.map prD)).flat 60 = true := by simpa [D.flat] using flat_map (k := 59) (f := prD) (xs := ys) fun y _ => prD_flat y 58
  simp only [inD, asLst, Option.bind_some, f1, f2, Bool.and_self, if_true, Option.some.injEq]
  rw [Bool.eq_iff_iff, decide_eq_true_eq, List.any_eq_true]
  constructor
  · rintro ⟨d, hd, e⟩
    obtain ⟨y, hy, rfl⟩ := List.mem_map.mp hd
    rw [prD_eqv, decide_eq_true_eq] at e
    rw [← e]
    exact hy
  · intro hp
    exact ⟨prD p, List.mem_map_of_mem hp, by rw [prD_eqv]; simp⟩
structure WSt where
  L : Prs
  at_ : Nat
  c6 : Option D
  c7 : Option D
  c8 : Option D
  c9 : Option D
structure WInv (A : Th) (ra : Option (Int × Int)) (B : Th) (rb : Option (Int × Int)) (L : Prs) (at_ : Nat) : Prop where
  le : at_ ≤ L.length
  liv : ∀ p ∈ L, Lv A B p
  one : ∀ y ∈ L.take at_, ∀ z ∈ L.take at_, (y.1 = z.1 ↔ y.2 = z.2)
  cl : ∀ p ∈ L.take at_, ∀ a b, findT p.1 A = some a → findT p.2 B = some b → Al A B (relP L) 2 a.2 b.2
  root : Al A B (relP L) 2 (rootV ra) (rootV rb)
  all : ∀ S, Bis A ra B rb S → ∀ p ∈ L, S p.1 p.2
  few : ∃ ks : List Int, ks.Nodup ∧ (∀ k ∈ ks, ∃ y ∈ L.take at_, y.1 = k) ∧ L.length ≤ 16 + 16 * ks.length
theorem WInv.len {A : Th} {ra : Option (Int × Int)} {B : Th} {rb : Option (Int × Int)} {L : Prs} {at_ : Nat} (w : WInv A ra B rb L at_) (hA : TOk A) : L.length ≤ 176 := by
  obtain ⟨ks, nd, hk, hl⟩ := w.few
  have := nodup_len (k := A.map (·.1)) nd fun k hk' => by
    obtain ⟨y, hy, rfl⟩ := hk k hk'
    obtain ⟨q, hq⟩ := (w.liv y (List.mem_of_mem_take hy)).1
    exact List.mem_map_of_mem (findT_mem hq)
  have := hA.len
  simp only [List.length_map] at *
  omega
theorem WInv.alike {A : Th} {ra : Option (Int × Int)} {B : Th} {rb : Option (Int × Int)} {L : Prs} (w : WInv A ra B rb L L.length) : Alike A ra B rb := by
  have one := w.one
  have cl := w.cl
  rw [List.take_length] at one cl
  refine ⟨relP L, fun x y y' h1 h2 => (one _ h1 _ h2).mp rfl, fun x x' y h1 h2 => (one _ h1 _ h2).mpr rfl, w.root, fun x y h => ?_⟩
  obtain ⟨⟨p, hp⟩, q, hq⟩ := w.liv _ h
  exact ⟨p, q, hp, hq, cl _ h _ _ hp hq⟩
theorem take_snoc {L : Prs} {at_ : Nat} {p : Int × Int} (h : L[at_]? = some p) : L.take (at_ + 1) = L.take at_ ++ [p] := by
  obtain ⟨hl, rfl⟩ := List.getElem?_eq_some_iff.mp h
  rw [List.take_succ, h]
  rfl
theorem WInv.next {A : Th} {ra : Option (Int × Int)} {B : Th} {rb : Option (Int × Int)} {L L' : Prs} {at_ : Nat} {p : Int × Int} (w : WInv A ra B rb L at_) (hp : L[at_]? = some p) (h1 : ∀ y ∈ L.take at_, (y.1 = p.1 ↔ y.2 = p.2))
    (hL : ∃ M, L' = L ++ M ∧ ∀ p ∈ M, Lv A B p) (hc : ∀ a b, findT p.1 A = some a → findT p.2 B = some b → Al A B (relP L') 2 a.2 b.2) (ha : ∀ S, Bis A ra B rb S → ∀ p ∈ L', S p.1 p.2)
    (hn : (p ∈ L.take at_ ∧ L' = L) ∨ (p ∉ L.take at_ ∧ L'.length ≤ L.length + 16)) : WInv A ra B rb L' (at_ + 1) := by
  obtain ⟨M, eL, hM⟩ := hL
  have hat := (List.getElem?_eq_some_iff.mp hp).1
  have et : L'.take (at_ + 1) = L.take at_ ++ [p] := by rw [eL, List.take_append_of_le_length (by omega), take_snoc hp]
  have mono : ∀ x y, relP L x y → relP L' x y := fun x y h => by
    show (x, y) ∈ L'
    rw [eL]
    exact List.mem_append_left _ h
  refine ⟨by rw [eL, List.length_append]; omega, fun q hq => ?_, ?_, ?_, w.root.mono mono, ha, ?_⟩
  · rw [eL] at hq
    exact (List.mem_append.mp hq).elim (w.liv q) (hM q)
  · rw [et]
    intro y hy z hz
    rcases List.mem_append.mp hy with hy1 | hy1 <;> rcases List.mem_append.mp hz with hz1 | hz1
    · exact w.one y hy1 z hz1
    · simp at hz1
      rw [hz1]
      exact h1 y hy1
    · simp at hy1
      have := h1 z hz1
      rw [hy1]
      exact ⟨fun e => (this.mp e.symm).symm, fun e => (this.mpr e.symm).symm⟩
    · simp at hy1 hz1
      rw [hy1, hz1]
      simp
  · rw [et]
    intro q hq a b e1 e2
    rcases List.mem_append.mp hq with hq | hq
    · exact (w.cl q hq a b e1 e2).mono mono
    · simp at hq; subst hq; exact hc a b e1 e2
  · obtain ⟨ks, nd, hk, hl⟩ := w.few
    rcases hn with ⟨_, e⟩ | ⟨hn, hl'⟩
    · refine ⟨ks, nd, fun k hk' => ?_, by rw [e]; exact hl⟩
      obtain ⟨y, hy, e'⟩ := hk k hk'
      exact ⟨y, by rw [et]; exact List.mem_append_left _ hy, e'⟩
    · refine ⟨ks ++ [p.1], ?_, fun k hk' => ?_, by simp only [List.length_append, List.length_cons, List.length_nil]; omega⟩
      · rw [List.nodup_append]
        refine ⟨nd, by simp, fun a ha b hb e => hn ?_⟩
        simp at hb
        subst hb
        obtain ⟨y, hy, e'⟩ := hk a ha
        have := (h1 y hy).mp (e'.trans e)
        obtain ⟨y1, y2⟩ := y
        obtain ⟨p1, p2⟩ := p
        simp at e' this e
        subst this
        rw [← e, ← e']
        exact hy
      · rcases List.mem_append.mp hk' with hk' | hk'
        · obtain ⟨y, hy, e'⟩ := hk k hk'
          exact ⟨y, by rw [et]; exact List.mem_append_left _ hy, e'⟩
        · simp at hk'
          exact ⟨p, by rw [et]; simp, hk'.symm⟩
theorem r_lalike (F n : Nat) {A B : Th} {ra rb : Option (Int × Int)} (hA : TOk A) (hB : TOk B) (qa : QOk ra) (qb : QOk rb) (hF : 1000 ≤ F) (h : Hh) :
    ∃ b, run F (n + 5) ix__law_alike [.dct (kvT A), rootD ra, .dct (kvT B), rootD rb] h = .ok (.bl b) h ∧ (b = true ↔ Alike A ra B rb) := by
  have ll : line = 16777216 := Pl.line_eq
  rw [run__law_alike, own_closed (np := 4) (by simp) rfl]
  obtain ⟨b1, L1, e1, st1, ln1⟩ := same_spec F A B 2 (by decide) n (rootV ra) (rootV rb) [.lst []] 0 [] (fit_leaf qa) (fit_leaf qb) rfl (by decide)
  simp only [Nat.add_assoc, Nat.reduceAdd, bothD, rootV_d] at e1
  cases b1 with
  | false =>
    refine ⟨false, by simp [b__law_alike, startD, e1], ⟨fun h => (by cases h), fun ⟨S, q⟩ => ?_⟩⟩
    have := (st1.all S trivial (by simp) q.root).1
    cases this
  | true =>
    obtain ⟨M1, eM1, hM1⟩ := st1.pre
    generalize hE : back [] h (b__law_alike (run F (n + 4)) F (startD 10 [.dct (kvT A), rootD ra, .dct (kvT B), rootD rb]) []) = E
    simp [b__law_alike, startD, e1, sWh_eq] at hE
    generalize hR : whL _ _ _ _ _ = rr at hE
    have key := wh_rel hR (fun a : WSt => [some (.dct (kvT A)), some (rootD ra), some (.dct (kvT B)), some (rootD rb), some (.ref 0), some (.int a.at_), a.c6, a.c7, a.c8, a.c9]) (fun a => [.lst (a.L.map prD)])
      (fun _ r => (∃ h', r = .rt (.bl false) h' ∧ ¬ Alike A ra B rb) ∨ (∃ σ h', r = .nx σ h' ∧ Alike A ra B rb)) (fun a => WInv A ra B rb a.L a.at_) (fun a => 200 - a.at_) (by
      rintro ⟨L, at_, c6, c7, c8, c9⟩ w
      dsimp only at w
      have hlen := w.len hA
      have hle := w.le
      have lr : lenD [Fw.O.lst (L.map prD)] (.ref 0) = some (.int L.length) := by simp [lenD, asSeq]
      by_cases hat : at_ < L.length
      · obtain ⟨p, hp⟩ : ∃ p, L[at_]? = some p := ⟨L[at_], List.getElem?_eq_getElem hat⟩
        obtain ⟨⟨a, ha⟩, b, hb⟩ := w.liv p (List.mem_of_getElem? hp)
        have fa := (hA.ok _ (findT_mem ha)).2.2
        have fb := (hB.ok _ (findT_mem hb)).2.2
        have x21 : ixn 2 1 = some 1 := rfl
        have hixn : ixn L.length (at_ : Int) = some at_ := by
          simp only [ixn]
          rw [if_pos (by omega), if_pos (by omega)]
          simp
        have ix : index [Fw.O.lst (L.map prD)] (.ref 0) (.int (at_ : Int)) = some (.tup [.int p.1, .int p.2]) := by
          simp [index, asSeq, hixn, hp, prD]
        have sl : slice [Fw.O.lst (L.map prD)] (.ref 0) none (some (at_ : Int)) = some (.lst ((L.take at_).map prD)) := by
          simp only [slice, asLst, List.getElem?_cons_zero, Option.map_some, cut, six]
          rw [if_neg (by omega)]
          have : min ((at_ : Int)).toNat (L.map prD).length = at_ := by
            rw [List.length_map]
            omega
          rw [this, List.drop_zero, Nat.sub_zero, List.map_take]
        have inp := in_prs [Fw.O.lst (L.map prD)] p (L.take at_)
        simp only [prD] at inp
        have lka : (look (.inl p.1) (kvT A)) = some (.tup [.int a.1, a.2.d]) := by rw [look_kvT, ha]; rfl
        have lkb : (look (.inl p.2) (kvT B)) = some (.tup [.int b.1, b.2.d]) := by rw [look_kvT, hb]; rfl
        have h200 : (at_ : Int) < 18446744073709551616 := by omega
        have lk := look_loop (body := forB (.tp [(.nm 8), (.nm 9)]) (sCons (sIf (bCmp .ne (eCmp .eq (eV 8) (eV 6)) (eCmp .eq (eV 9) (eV 7))) (sCons (sRet (eC (.bl false))) sNil) sNil) sNil))
          (enc := fun c8 c9 => [some (.dct (kvT A)), some (rootD ra), some (.dct (kvT B)), some (rootD rb), some (.ref 0), some (.int at_), some (.int p.1), some (.int p.2), c8, c9]) (h := [.lst (L.map prD)]) (p := p) (by
          intro y c8 c9
          constructor
          · intro hy
            by_cases h1 : y.1 = p.1
            · have h2 := hy.mp h1
              simp [prD, bindGs, bindG, h1, h2]
            · have h2 : ¬ y.2 = p.2 := fun h => h1 (hy.mpr h)
              simp [prD, bindGs, bindG, h1, h2]
          · intro hy
            by_cases h1 : y.1 = p.1
            · have h2 : ¬ y.2 = p.2 := fun h => hy ⟨fun _ => h, fun _ => h1⟩
              simp [prD, bindGs, bindG, h1, h2]
            · have h2 : y.2 = p.2 := Decidable.byContradiction fun h => hy ⟨fun h' => absurd h' h1, fun h' => absurd h' h⟩
              simp [prD, bindGs, bindG, h1, h2]) (L.take at_) c8 c9
        obtain ⟨T, hT⟩ : ∃ T, (L.take at_).map prD = T := ⟨_, rfl⟩
        rw [hT] at lk sl inp
        rcases lk with ⟨d8, d9, el, hcon⟩ | ⟨el, y, hy, hno⟩
        · by_cases hin : p ∈ L.take at_
          · have inp' : inD [Fw.O.lst (L.map prD)] (.tup [.int p.1, .int p.2]) (.lst T) = some true := by rw [inp]; simp [hin]
            refine .next ⟨L, at_ + 1, some (.int p.1), some (.int p.2), d8, d9⟩ (by simp [lr, hat]) ?_ (w.next hp hcon ⟨[], by simp, by simp⟩ (fun a b e1 e2 => w.cl p hin a b e1 e2) w.all (.inl ⟨hin, rfl⟩)) (by dsimp only; omega) (fun r q => q)
            simp [ix, sl, bindGs, bindG, el, inp', h200]
          · have inp' : inD [Fw.O.lst (L.map prD)] (.tup [.int p.1, .int p.2]) (.lst T) = some false := by rw [inp]; simp [hin]
            obtain ⟨b2, L2, e2, st2, ln2⟩ := same_spec F A B 2 (by decide) n a.2 b.2 [.lst (L.map prD)] 0 L fa fb rfl (by omega)
            simp only [Nat.add_assoc, Nat.reduceAdd, bothD] at e2
            have want : ∀ S, Bis A ra B rb S → Al A B S 2 a.2 b.2 := fun S q => by
              obtain ⟨a', b', f1, f2, al⟩ := q.cl _ _ (w.all S q p (List.mem_of_getElem? hp))
              rw [ha] at f1
              rw [hb] at f2
              cases f1
              cases f2
              exact al
            cases b2 with
            | true =>
              refine .next ⟨L2, at_ + 1, some (.int p.1), some (.int p.2), d8, d9⟩ (by simp [lr, hat]) ?_ (w.next hp hcon st2.pre (fun a' b' e1 e2 => ?_) (fun S q => (st2.all S trivial (w.all S q) (want S q)).2) (.inr ⟨hin, ln2⟩)) (by dsimp only; omega) (fun r q => q)
              · simp [ix, sl, bindGs, bindG, el, inp', h200, lka, lkb, x21, e2]
              · rw [ha] at e1
                rw [hb] at e2
                cases e1
                cases e2
                exact st2.yes rfl
            | false =>
              refine .ret (.bl false) [.lst (L2.map prD)] (by simp [lr, hat]) ?_ (.inl ⟨_, rfl, fun ⟨S, q⟩ => ?_⟩)
              · simp [ix, sl, bindGs, bindG, el, inp', h200, lka, lkb, x21, e2]
              · have := (st2.all S trivial (w.all S q) (want S q)).1
                cases this
        · refine .ret (.bl false) [.lst (L.map prD)] (by simp [lr, hat]) ?_ (.inl ⟨_, rfl, fun ⟨S, q⟩ => hno ?_⟩)
          · simp [ix, sl, bindGs, bindG, el]
          · have s1 := w.all S q y (List.mem_of_mem_take hy)
            have s2 := w.all S q p (List.mem_of_getElem? hp)
            exact ⟨fun e => q.fn _ _ _ (by rw [← e]; exact s1) s2, fun e => q.inj _ _ _ (by rw [← e]; exact s1) s2⟩
      · have : at_ = L.length := by omega
        subst this
        exact .stop (by simp [lr]) (.inr ⟨_, _, rfl, w.alike⟩)) ⟨L1, 0, none, none, none, none⟩ rfl rfl ⟨Nat.zero_le _, fun p hp => hM1 p (by rw [eM1] at hp; simpa using hp), by simp, by simp, st1.yes rfl, fun S q => (st1.all S trivial (by simp) q.root).2, ⟨[], by simp, by simp, by simpa using ln1⟩⟩ (by omega)
    clear hR
    rcases key with ⟨h', e, ne⟩ | ⟨σ, h', e, ya⟩
    · refine ⟨false, ?_, ⟨fun h => (by cases h), fun q => absurd q ne⟩⟩
      rw [← hE, e]
      simp
    · refine ⟨true, ?_, ⟨fun _ => ya, fun _ => rfl⟩⟩
      rw [← hE, e]
      simp
end Lw
end
section
set_option linter.all false
set_option autoImplicit false
set_option maxRecDepth 100000
namespace Lw
open Fw Pl
theorem r_whole (F n : Nat) (d : D) (h : Hh) (p : D.pure d = true) : run F (n + 1) ix_is_whole [d] h = .ok (.bl (wholeD d)) h := by
  rw [run_is_whole, own_closed (np := 1) (by simp [pure_closed p]) rfl]
  cases d <;> first | (simp [D.pure] at p; done) | simp [b_is_whole, startD, isT, ty1, isOf, wholeD]
theorem r_from (F n : Nat) (d : D) (a b : Int) (h : Hh) (p : D.pure d = true) : run F (n + 2) ix_is_from [d, .int a, .int b] h = .ok (.bl (fromD a b d)) h := by
  rw [run_is_from, own_closed (np := 3) (by simp [pure_closed p]) rfl]
  cases d with
  | int i =>
    by_cases h1 : a ≤ i <;> simp [b_is_from, startD, r_whole, wholeD, fromD, h1]
  | _ => first | (simp [D.pure] at p; done) | simp [b_is_from, startD, r_whole _ _ _ _ p, wholeD, fromD]
theorem r_number (F n : Nat) (d : D) (h : Hh) (p : D.pure d = true) : run F (n + 3) ix_is_number [d] h = .ok (.bl (fromD 1 200 d)) h := by
  rw [run_is_number, own_closed (np := 1) (by simp [pure_closed p]) rfl]
  simp [b_is_number, startD, r_from _ _ _ _ _ _ p]
theorem r_edition (F n : Nat) (d : D) (h : Hh) (p : D.pure d = true) : run F (n + 3) ix_is_edition [d] h = .ok (.bl (fromD 0 99 d)) h := by
  rw [run_is_edition, own_closed (np := 1) (by simp [pure_closed p]) rfl]
  simp [b_is_edition, startD, r_from _ _ _ _ _ _ p]
def kindD (t : Tx) : D → Bool
  | .str w => decide (w = t)
  | _ => false
theorem r_kind (F n : Nat) (d : D) (t : Tx) (ds : List D) (h : Hh) (p : D.pure d = true) (q : pureAll ds = true) : run F (n + 1) ix_is_kind [.tup (d :: ds), .str t] h = .ok (.bl (kindD t d)) h := by
  rw [run_is_kind, own_closed (np := 2) (by simp [pure_closed p, pureAll_closed q]) rfl]
  cases d <;> first | (simp [D.pure] at p; done) | simp [b_is_kind, startD, isT, ty1, isOf, kindD, ixn]
def isTo : D → Bool
  | .tup [w, k, e] => kindD wTo w && (fromD 1 200 k && fromD 0 99 e)
  | _ => false
theorem r_isref (F n : Nat) (d : D) (h : Hh) (p : D.pure d = true) : run F (n + 4) ix_is_reference [d] h = .ok (.bl (isTo d)) h := by
  rw [run_is_reference, own_closed (np := 1) (by simp [pure_closed p]) rfl]
  have nt : isTupD d = false → isTo d = false := by
    intro q
    cases d <;> first | rfl | simp [isTupD] at q
  by_cases ht : isTupD d = true
  · obtain ⟨ds, rfl⟩ : ∃ ds, d = .tup ds := by cases d <;> first | exact ⟨_, rfl⟩ | simp [isTupD] at ht
    match ds, p with
    | [w, k, e], p =>
      simp at p
      have h1 := r_kind F (n + 2) w wTo [k, e] [] p.1 (by simp [p.2.1, p.2.2])
      have h2 := r_number F n k [] p.2.1
      have h3 := r_edition F n e [] p.2.2
      by_cases c1 : kindD wTo w = true
      · by_cases c2 : fromD 1 200 k = true
        · simp [b_is_reference, startD, isT_tup, p, h1, h2, h3, isTo, c1, c2, ixn]
        · simp [b_is_reference, startD, isT_tup, p, h1, h2, h3, isTo, c1, c2, ixn]
      · simp [b_is_reference, startD, isT_tup, p, h1, h2, h3, isTo, c1, ixn]
    | [], p => simp [b_is_reference, startD, isT_tup, isTo]
    | [_], p => simp [b_is_reference, startD, isT_tup p, isTo]
    | [_, _], p => simp [b_is_reference, startD, isT_tup p, isTo]
    | _ :: _ :: _ :: _ :: l, p =>
      have : ¬ (l.length + 1 + 1 + 1 + 1 : Int) = 3 := by omega
      simp [b_is_reference, startD, isT_tup p, isTo, this]
  · simp [b_is_reference, startD, isT_tup p, nt, ht]
end Lw
end
section
set_option linter.all false
set_option autoImplicit false
set_option maxRecDepth 100000
namespace Lw
open Fw Pl
def bookD (ts : Th) (q : Option (Int × Int)) (fr : D) : D := .obj 0 [(0, .dct (kvT ts)), (1, fr), (2, rootD q)]
section
variable {A B : Th} {ra rb : Option (Int × Int)} {fa fb : D}
theorem bookD_cl (ca : fa.closed = true) : (bookD A ra fa).closed = true := by simp [bookD, D.closed, closedF, ca]
@[simp] theorem asObj_bookD (h : Hh) : asObj h (bookD A ra fa) = some (0, [(0, .dct (kvT A)), (1, fa), (2, rootD ra)]) := rfl
theorem r_broot (F n : Nat) (ca : fa.closed = true) (h : Hh) : run F (n + 1) ix_Book_root [bookD A ra fa] h = .ok (rootD ra) h := by
  rw [run_Book_root, own_closed (np := 1) (by simp [bookD_cl ca]) rfl]
  simp [b_Book_root, startD, List.lookup]
theorem r_bedition (F n : Nat) (ca : fa.closed = true) (hA : TOk A) (k : Int) (h : Hh) : run F (n + 4) ix_Book_edition [bookD A ra fa, .int k] h = .ok (match findT k A with
    | some q => .int q.1
    | none => .non) h := by
  rw [run_Book_edition, own_closed (np := 2) (by simp [bookD_cl ca]) rfl]
  have e1 := r_number F n (.int k) [] (by simp)
  have x20 : ixn 2 0 = some 0 := rfl
  cases e : findT k A with
  | none =>
    by_cases c : fromD 1 200 (.int k) = true
    · simp [b_Book_edition, startD, e1, c, e, List.lookup]
    · simp [b_Book_edition, startD, e1, c, e, List.lookup]
  | some q =>
    have m := hA.ok _ (findT_mem e)
    have c : fromD 1 200 (.int k) = true := by simp [fromD]; omega
    simp [b_Book_edition, startD, e1, c, e, look_kvT, x20, List.lookup]
theorem isTo_fit {m : Nat} {v : Vl} (h : fit m v) : isTo v.d = decide (kind v = 4) := by
  cases v with
  | to k e =>
    have h : (1 ≤ k ∧ k ≤ 200) ∧ 0 ≤ e ∧ e ≤ 99 := by cases m <;> exact h
    simp [isTo, Vl.d, kindD, fromD, kind]
    omega
  | name s => simp [isTo, Vl.d, kind]
  | stream es s => simp [isTo, Vl.d, kind, kindD]
  | _ => simp [isTo, Vl.d, kind]
theorem r_bleads (F n : Nat) (ca : fa.closed = true) (hA : TOk A) {m : Nat} {v : Vl} (hv : fit m v) (h : Hh) : run F (n + 5) ix_Book_leads [bookD A ra fa, v.d] h = .ok (.bl (liveB A v)) h := by
  rw [run_Book_leads, own_closed (np := 2) (by simp [bookD_cl ca, Vl.closed]) rfl]
  have e1 := r_isref F n v.d [] (Vl.dpure v)
  rw [isTo_fit hv] at e1
  have x31 : ixn 3 1 = some 1 := rfl
  have x32 : ixn 3 2 = some 2 := rfl
  cases v with
  | to k e =>
    have e2 := r_bedition (ra := ra) F n ca hA k []
    simp [kind, Vl.d] at e1
    cases hf : findT k A with
    | none =>
      rw [hf] at e2
      simp [b_Book_leads, startD, Vl.d, e1, e2, liveB, leadB, hf, x31, x32]
    | some p =>
      rw [hf] at e2
      simp [b_Book_leads, startD, Vl.d, e1, e2, liveB, leadB, hf, x31, x32]
  | _ =>
    simp [kind] at e1
    simp [b_Book_leads, startD, e1, liveB]
def valD (A : Th) (k : Int) : D := match findT k A with
  | some q => q.2.d
  | none => .non
theorem r_bat (F n : Nat) (ca : fa.closed = true) (hA : TOk A) {k e : Int} (hk : leadB A (k, e) = true) (h : Hh) : run F (n + 6) ix_Book_at [bookD A ra fa, .tup [.str wTo, .int k, .int e]] h = .ok (valD A k) h := by
  rw [run_Book_at, own_closed (np := 2) (by simp [bookD_cl ca]) rfl]
  obtain ⟨q, hq⟩ := lead_some hk
  have m := hA.ok _ (findT_mem hq)
  have he : q.1 = e := by
    unfold leadB at hk
    rw [hq] at hk
    simpa using hk
  have e1 := r_bleads (ra := ra) F n ca hA (m := 0) (v := .to k e) (by
    obtain ⟨m1, m2, _⟩ := m
    dsimp only at m1 m2
    exact ⟨m1, by omega⟩) []
  simp only [Vl.d, liveB, hk] at e1
  have x31 : ixn 3 1 = some 1 := rfl
  have x21 : ixn 2 1 = some 1 := rfl
  simp [b_Book_at, startD, e1, x31, x21, look_kvT, hq, valD, List.lookup, Vl.closed]
end
def thereK (P : Prs) : List (K1 × D) := P.map fun p => (.inl p.1, .int p.2)
def backK (P : Prs) : List (K1 × D) := P.map fun p => (.inl p.2, .int p.1)
def waitK (A B : Th) (P : Prs) : List D := P.map fun p => .tup [valD A p.1, valD B p.2]
structure Bks where
  A : Th
  ra : Option (Int × Int)
  fa : D
  B : Th
  rb : Option (Int × Int)
  fb : D
structure Bks.Ok (X : Bks) : Prop where
  a : TOk X.A
  b : TOk X.B
  ca : X.fa.closed = true
  cb : X.fb.closed = true
  qa : QOk X.ra
  qb : QOk X.rb
def HB (X : Bks) (P : Prs) : Hh := [.ins 1 [(3, .tup [bookD X.A X.ra X.fa, bookD X.B X.rb X.fb]), (4, .ref 1), (5, .ref 2), (6, .ref 3)], .dct (thereK P), .dct (backK P), .lst (waitK X.A X.B P)]
def OneP (P : Prs) : Prop := (P.map (·.1)).Nodup ∧ (P.map (·.2)).Nodup
def OneS (S : Rel) : Prop := (∀ x y y', S x y → S x y' → y = y') ∧ ∀ x x' y, S x y → S x' y → x = x'
theorem any_there (k : Int) (P : Prs) : ((thereK P).any fun q => decide (q.1 = .inl k)) = decide (k ∈ P.map (·.1)) := by
  rw [Bool.eq_iff_iff, List.any_eq_true, decide_eq_true_eq]
  simp only [thereK, List.mem_map]
  constructor
  · rintro ⟨_, ⟨p, hp, rfl⟩, e⟩
    exact ⟨p, hp, by simpa using e⟩
  · rintro ⟨p, hp, rfl⟩
    exact ⟨_, ⟨p, hp, rfl⟩, by simp⟩
theorem any_back (k : Int) (P : Prs) : ((backK P).any fun q => decide (q.1 = .inl k)) = decide (k ∈ P.map (·.2)) := by
  rw [Bool.eq_iff_iff, List.any_eq_true, decide_eq_true_eq]
  simp only [backK, List.mem_map]
  constructor
  · rintro ⟨_, ⟨p, hp, rfl⟩, e⟩
    exact ⟨p, hp, by simpa using e⟩
  · rintro ⟨p, hp, rfl⟩
    exact ⟨_, ⟨p, hp, rfl⟩, by simp⟩
theorem look_there (k : Int) : ∀ P : Prs, (∃ y, look (.inl k) (thereK P) = some (.int y) ∧ (k, y) ∈ P) ∨ (look (.inl k) (thereK P) = none ∧ k ∉ P.map (·.1))
  | [] => .inr ⟨rfl, by simp⟩
  | p :: P => by
    by_cases h : p.1 = k
    · refine .inl ⟨p.2, by simp [thereK, look, h], ?_⟩
      rw [← h]
      exact List.mem_cons_self
    · rcases look_there k P with ⟨y, e, hy⟩ | ⟨e, hn⟩
      · exact .inl ⟨y, by simpa [thereK, look, h] using e, List.mem_cons_of_mem _ hy⟩
      · refine .inr ⟨by simpa [thereK, look, h] using e, ?_⟩
        simp only [List.map_cons, List.mem_cons, not_or]
        exact ⟨fun e => h e.symm, hn⟩
theorem put_there {P : Prs} {k k' : Int} (h : k ∉ P.map (·.1)) : put (.inl k) (.int k') (thereK P) = thereK (P ++ [(k, k')]) := by
  unfold put
  rw [any_there]
  simp [h, thereK]
theorem put_back {P : Prs} {k k' : Int} (h : k' ∉ P.map (·.2)) : put (.inl k') (.int k) (backK P) = backK (P ++ [(k, k')]) := by
  unfold put
  rw [any_back]
  simp [h, backK]
theorem deadB_kind (B : Th) (w : Vl) : deadB B w = (decide (kind w = 0) || (decide (kind w = 4) && !liveB B w)) := by
  cases w <;> simp [deadB, kind, liveB]
theorem is_none (w : Vl) : w.d.isNon = decide (kind w = 0) := by
  cases w <;> rfl
theorem notin_ref {h : Hh} {n : Nat} {kvs : List (K1 × D)} (e : h[n]? = some (.dct kvs)) (k : Int) : cmpop h .notin (.int k) (.ref n) = some (!(kvs.any fun q => decide (q.1 = .inl k))) := by
  show (isMem h (.int k) (.ref n)).map (!·) = _
  simp [isMem, e, key1, asDct]
theorem r_is_met (F n : Nat) {X : Bks} (hX : X.Ok) {P : Prs} {m : Nat} {v w : Vl} (hv : fit 2 v) (hw : fit 2 w) (hk : kind v = 0 ∨ kind v = 4) (hP : P.length ≤ 1000) :
    ∃ b P', run F (n + 7) ix_Beside_is_met [.ref 0, v.d, w.d] (HB X P) = .ok (.bl b) (HB X P') ∧ StepR (Lv X.A X.B) OneS P P' (fun S => Al X.A X.B S m v w) b ∧ (OneP P → OneP P') ∧ P'.length ≤ P.length + 1 := by
  have eA := fun hh => r_isref F (n + 2) v.d hh (Vl.dpure v)
  have eB := fun hh => r_isref F (n + 2) w.d hh (Vl.dpure w)
  rw [isTo_fit hv] at eA
  rw [isTo_fit hw] at eB
  have lA := fun hh => r_bleads (ra := X.ra) F (n + 1) hX.ca hX.a hv hh
  have lB := fun hh => r_bleads (ra := X.rb) F (n + 1) hX.cb hX.b hw hh
  simp only [Nat.add_assoc, Nat.reduceAdd] at eA eB lA lB
  have ao : asObj (HB X P) (.ref 0) = some (1, [(3, .tup [bookD X.A X.ra X.fa, bookD X.B X.rb X.fb]), (4, .ref 1), (5, .ref 2), (6, .ref 3)]) := rfl
  rw [run_Beside_is_met]
  by_cases hd : deadV X.A v
  · have hl : liveB X.A v = false := by
      cases v with
      | non => rfl
      | to k e => exact hd
      | _ => rfl
    refine ⟨deadB X.B w, P, ?_, (StepR.const (deadB_iff (A := X.B) (v := w))).iff fun S => ⟨fun a => ?_, fun a => al_dead hd a⟩, id, by omega⟩
    · rw [hl] at lA
      have hb := deadB_kind X.B w
      by_cases h0 : kind w = 0
      · have h4 : ¬ kind w = 4 := by omega
        rw [hb]
        by_cases hv4 : kind v = 4 <;> simp [full, b_Beside_is_met, startD, ao, List.lookup, bindGs, bindG, eA, lA, SR.out, is_none, h0, h4, hv4]
      · by_cases h4 : kind w = 4
        · rw [hb]
          by_cases hv4 : kind v = 4 <;> simp [full, b_Beside_is_met, startD, ao, List.lookup, bindGs, bindG, eA, eB, lA, lB, SR.out, is_none, h0, h4, hv4]
        · rw [hb]
          by_cases hv4 : kind v = 4 <;> simp [full, b_Beside_is_met, startD, ao, List.lookup, bindGs, bindG, eA, eB, lA, lB, SR.out, is_none, h0, h4, hv4]
    · cases v with
      | non => exact al_non.mp a
      | to k e =>
        rcases al_to.mp a with ⟨_, a⟩ | ⟨a1, _⟩
        · exact a
        · have hd' : leadB X.A (k, e) = false := hd
          rw [hd'] at a1
          cases a1
      | _ => exact hd.elim
  · obtain ⟨k, e, rfl⟩ : ∃ k e, v = .to k e := by
      rcases hk with hk | hk
      · cases v <;> first | (exact absurd trivial hd) | (simp [kind] at hk)
      · cases v <;> first | (exact ⟨_, _, rfl⟩) | (simp [kind] at hk)
    have hl : leadB X.A (k, e) = true := by simpa [deadV] using hd
    have hlv : liveB X.A (.to k e) = true := hl
    rw [hlv] at lA
    simp only [kind, decide_true] at eA
    by_cases hwl : ∃ k' e', w = .to k' e' ∧ leadB X.B (k', e') = true
    · obtain ⟨k', e', rfl, hl'⟩ := hwl
      have hlv' : liveB X.B (.to k' e') = true := hl'
      rw [hlv'] at lB
      simp only [kind, decide_true] at eB
      have atA := fun hh => r_bat (ra := X.ra) F n hX.ca hX.a hl hh
      have atB := fun hh => r_bat (ra := X.rb) F n hX.cb hX.b hl' hh
      have x31 : ixn 3 1 = some 1 := rfl
      simp only [Vl.d] at eA eB lA lB
      have al : ∀ S : Rel, Al X.A X.B S m (.to k e) (.to k' e') ↔ S k k' := fun S => by
        rw [al_to]
        constructor
        · rintro (⟨a, _⟩ | ⟨_, k2, e2, q1, q2, q3⟩)
          · rw [hl] at a; cases a
          · cases q1; exact q3
        · exact fun h => .inr ⟨hl, k', e', rfl, hl', h⟩
      have nt := fun (Q : Prs) => notin_ref (h := HB X Q) (n := 1) rfl k
      have nb := fun (Q : Prs) => notin_ref (h := HB X Q) (n := 2) rfl k'
      simp only [any_there, any_back] at nt nb
      have hlt : (thereK P).length < 16777216 := by simp [thereK]; omega
      by_cases hnew : k ∉ P.map (·.1) ∧ k' ∉ P.map (·.2)
      · refine ⟨true, P ++ [(k, k')], ?_, ⟨⟨_, rfl, fun p hp => by
          simp at hp
          subst hp
          exact ⟨lead_some hl, lead_some hl'⟩⟩, fun _ => (al _).mpr (by simp [relP]), fun S g hp a => ⟨rfl, fun p hp' => (List.mem_append.mp hp').elim (hp p) fun h => by
          simp at h
          subst h
          exact (al S).mp a⟩⟩, fun ⟨o1, o2⟩ => ⟨?_, ?_⟩, by simp⟩
        · have n1 : cmpop (HB X P) .notin (.int k) (.ref 1) = some true := by rw [nt]; simp [hnew.1]
          have n2 : cmpop (HB X P) .notin (.int k') (.ref 2) = some true := by rw [nb]; simp [hnew.2]
          have hltb : (backK P).length < 16777216 := by simp [backK]; omega
          have hltw : (waitK X.A X.B P).length < 16777216 := by simp [waitK]; omega
          have e1 := put_there (k' := k') hnew.1
          have e2 := put_back (k := k) hnew.2
          have e3 : waitK X.A X.B P ++ [.tup [valD X.A k, valD X.B k']] = waitK X.A X.B (P ++ [(k, k')]) := by simp [waitK]
          have lk : look (.inl k) (thereK (P ++ [(k, k')])) = some (.int k') := by
            rcases look_there k (P ++ [(k, k')]) with ⟨y, e, hy⟩ | ⟨_, hn⟩
            · rcases List.mem_append.mp hy with hy | hy
              · exact absurd (List.mem_map_of_mem hy) hnew.1
              · simp at hy
                rw [e, hy]
            · simp at hn
          have ao' : ∀ (hh : Hh) fs, hh[0]? = some (.ins 1 fs) → asObj hh (.ref 0) = some (1, fs) := fun hh fs e => by simp [asObj, e]
          have n1' : ∀ hh : Hh, hh[1]? = some (.dct (thereK P)) → cmpop hh .notin (.int k) (.ref 1) = some true := fun hh e => by
            rw [notin_ref e, any_there]; simp [hnew.1]
          have n2' : ∀ hh : Hh, hh[2]? = some (.dct (backK P)) → cmpop hh .notin (.int k') (.ref 2) = some true := fun hh e => by
            rw [notin_ref e, any_back]; simp [hnew.2]
          simp only [HB] at ao ⊢
          simp [full, b_Beside_is_met, startD, ao', List.lookup, bindGs, bindG, eA, eB, lA, lB, SR.out, x31, n1', n2', Vl.d, setIx, key1, e1, e2, e3, hlt, hltb, hltw, isLst, asLst, appD, atA, atB, wr, isDct, asDct, dgetD, lk]
        · have := o1
          rw [List.map_append, List.nodup_append]
          exact ⟨o1, by simp, fun a ha b hb e => hnew.1 (by simp at hb; rw [← hb, ← e]; exact ha)⟩
        · rw [List.map_append, List.nodup_append]
          exact ⟨o2, by simp, fun a ha b hb e => hnew.2 (by simp at hb; rw [← hb, ← e]; exact ha)⟩
      · have hcond : (decide (k ∉ P.map (·.1)) && decide (k' ∉ P.map (·.2))) = false := by
          rw [← Bool.not_eq_true]
          simpa using hnew
        have n1 : cmpop (HB X P) .notin (.int k) (.ref 1) = some (decide (k ∉ P.map (·.1))) := by rw [nt]; simp
        have n2 : cmpop (HB X P) .notin (.int k') (.ref 2) = some (decide (k' ∉ P.map (·.2))) := by rw [nb]; simp
        have dg : isDct (HB X P) (.ref 1) = true := rfl
        have dgv : dgetD (HB X P) (.ref 1) (.int k) = some ((look (.inl k) (thereK P)).getD .non, none) := rfl
        generalize (decide (k ∉ P.map (·.1))) = c1 at n1 hcond
        generalize (decide (k' ∉ P.map (·.2))) = c2 at n2 hcond
        rcases look_there k P with ⟨y, ey, hy⟩ | ⟨en, hn⟩
        · rw [ey] at dgv
          refine ⟨decide (y = k'), P, ?_, ⟨⟨[], by simp, by simp⟩, fun h => ?_, fun S g hp a => ⟨?_, hp⟩⟩, id, by omega⟩
          · cases c1 with
            | false => simp [full, b_Beside_is_met, startD, ao, List.lookup, bindGs, bindG, eA, eB, lA, lB, SR.out, x31, n1, n2, Vl.d, dg, dgv, wr]
            | true =>
              cases c2 with
              | false => simp [full, b_Beside_is_met, startD, ao, List.lookup, bindGs, bindG, eA, eB, lA, lB, SR.out, x31, n1, n2, Vl.d, dg, dgv, wr]
              | true => simp at hcond
          · rw [decide_eq_true_eq] at h
            rw [h] at hy
            exact (al _).mpr hy
          · have s1 := (al S).mp a
            have s2 := hp _ hy
            exact decide_eq_true (g.1 _ _ _ s2 s1)
        · rw [en] at dgv
          refine ⟨false, P, ?_, ⟨⟨[], by simp, by simp⟩, fun h => (by cases h), fun S g hp a => ?_⟩, id, by omega⟩
          · cases c1 with
            | false => simp [full, b_Beside_is_met, startD, ao, List.lookup, bindGs, bindG, eA, eB, lA, lB, SR.out, x31, n1, n2, Vl.d, dg, dgv, wr]
            | true =>
              cases c2 with
              | false => simp [full, b_Beside_is_met, startD, ao, List.lookup, bindGs, bindG, eA, eB, lA, lB, SR.out, x31, n1, n2, Vl.d, dg, dgv, wr]
              | true => simp at hcond
          · have hk2 : k' ∈ P.map (·.2) := Decidable.byContradiction fun h => hnew ⟨hn, h⟩
            obtain ⟨p, hp', e2⟩ := List.mem_map.mp hk2
            have s1 := (al S).mp a
            have s2 := hp _ hp'
            rw [e2] at s2
            exact absurd (List.mem_map.mpr ⟨p, hp', g.2 _ _ _ s2 s1⟩) hn
    · refine ⟨false, P, ?_, StepR.no fun S a => ?_, id, by omega⟩
      · have hlw : kind w = 4 → liveB X.B w = false := fun h => by
          cases w <;> first | (simp [kind] at h; done) | skip
          rename_i k' e'
          cases q : leadB X.B (k', e') with
          | false => exact q
          | true => exact absurd ⟨k', e', rfl, q⟩ hwl
        by_cases h4 : kind w = 4
        · have h5 := hlw h4
          rw [h5] at lB
          simp [full, b_Beside_is_met, startD, ao, List.lookup, bindGs, bindG, eA, eB, lA, lB, SR.out, is_none, h4]
        · simp [full, b_Beside_is_met, startD, ao, List.lookup, bindGs, bindG, eA, eB, lA, lB, SR.out, is_none, h4]
      · rcases al_to.mp a with ⟨a1, _⟩ | ⟨_, k2, e2, q1, q2, q3⟩
        · rw [hl] at a1; cases a1
        · exact hwl ⟨k2, e2, q1, q2⟩
end Lw
end
section
set_option linter.all false
set_option autoImplicit false
set_option maxRecDepth 100000
namespace Lw
open Fw Pl
theorem fit_le {m k : Nat} {v : Vl} (h : fit m v) (hk : m ≤ k) : fit k v := by
  induction k with
  | zero =>
    obtain rfl : m = 0 := by omega
    exact h
  | succ k ih =>
    by_cases e : m = k + 1
    · rw [← e]; exact h
    · exact fit_up (ih (by omega))
theorem all_bls (h : Hh) (bs : List Bool) : allD h (.lst (bs.map D.bl)) = some (.bl (bs.all id)) := by
  have : asBools (bs.map D.bl) = some bs := by
    induction bs with
    | nil => rfl
    | cons b bs ih => simp [asBools, ih]
  simp [allD, asLst, this]
theorem lc_steps {α : Type} {step : D → Hh → R (Option D)} {f : α → D} {R : α → Rel → Prop} {hh : Prs → Hh} {V : Int × Int → Prop} {G : Rel → Prop} {c N : Nat} (mono : ∀ z, Mono (R z)) : ∀ (zs : List α) (P : Prs) (acc : List D),
    (∀ z ∈ zs, ∀ P, P.length + c ≤ N → ∃ b P', step (f z) (hh P) = .ok (some (.bl b)) (hh P') ∧ StepR V G P P' (R z) b ∧ (OneP P → OneP P') ∧ P'.length ≤ P.length + c) → P.length + zs.length * c ≤ N → acc.length + zs.length ≤ 1000 →
    ∃ (bs : List Bool) (P' : Prs), lcL step (zs.map f) acc (hh P) = .ok (acc ++ bs.map D.bl) (hh P') ∧ StepR V G P P' (fun S => ∀ z ∈ zs, R z S) (bs.all id) ∧ (OneP P → OneP P') ∧ P'.length ≤ P.length + zs.length * c
  | [], P, acc, hb, hN, ha => ⟨[], P, by simp, StepR.refl (by simp), id, by simp⟩
  | z :: zs, P, acc, hb, hN, ha => by
    have ll : line = 16777216 := Pl.line_eq
    simp only [List.length_cons, Nat.succ_mul] at hN ha
    obtain ⟨b1, P1, e1, s1, o1, l1⟩ := hb z List.mem_cons_self P (by omega)
    obtain ⟨bs, P2, e2, s2, o2, l2⟩ := lc_steps mono zs P1 (acc ++ [.bl b1]) (fun y hy => hb y (List.mem_cons_of_mem _ hy)) (by omega) (by simp only [List.length_append, List.length_cons, List.length_nil]; omega)
    refine ⟨b1 :: bs, P2, ?_, ?_, fun h => o2 (o1 h), by simp only [List.length_cons, Nat.succ_mul]; omega⟩
    · rw [List.map_cons, lcL_cons, e1]
      have : acc.length < line := by omega
      rw [lcK_some, if_pos this, e2]
      simp
    · have := (s1.both s2 (mono z)).iff (R' := fun S => ∀ y ∈ z :: zs, R y S) fun S => by simp
      simpa using this
theorem lc_stepsR {α : Type} {step : D → Hh → R (Option D)} {xs : List D} {h : Hh} {rr : R (List D)} (hR : lcL step xs [] h = rr) (f : α → D) (R : α → Rel → Prop) (hh : Prs → Hh) (V : Int × Int → Prop) (G : Rel → Prop) (c N : Nat) (zs : List α) (P : Prs)
    (hx : xs = zs.map f) (h0 : h = hh P) (mono : ∀ z, Mono (R z))
    (hb : ∀ z ∈ zs, ∀ P, P.length + c ≤ N → ∃ b P', step (f z) (hh P) = .ok (some (.bl b)) (hh P') ∧ StepR V G P P' (R z) b ∧ (OneP P → OneP P') ∧ P'.length ≤ P.length + c) (hN : P.length + zs.length * c ≤ N) (hl : zs.length ≤ 1000) :
    ∃ (bs : List Bool) (P' : Prs), rr = .ok (bs.map D.bl) (hh P') ∧ StepR V G P P' (fun S => ∀ z ∈ zs, R z S) (bs.all id) ∧ (OneP P → OneP P') ∧ P'.length ≤ P.length + zs.length * c := by
  subst hR hx h0
  have := lc_steps mono zs P [] hb hN (by simpa using hl)
  simpa using this
def AlkSpec (F m : Nat) (X : Bks) : Prop := ∀ (n : Nat) (v w : Vl) (P : Prs), fit m v → fit m w → P.length + 4 ^ m ≤ 1000 →
  ∃ b P', run F (n + 2 * m + 8) ix_Beside_are_alike [.ref 0, v.d, w.d] (HB X P) = .ok (.bl b) (HB X P') ∧ StepR (Lv X.A X.B) OneS P P' (fun S => Al X.A X.B S m v w) b ∧ (OneP P → OneP P') ∧ P'.length ≤ P.length + 4 ^ m
theorem r_rows (F j n : Nat) {X : Bks} (hX : X.Ok) (IH : AlkSpec F j X) {vs ws : List Vl} (fv : ∀ v ∈ vs, fit j v) (fw : ∀ v ∈ ws, fit j v) (fl : vs.length ≤ 3) {P : Prs} (hP : P.length + 4 ^ (j + 1) ≤ 1000) :
    ∃ b P', run F (n + 2 * j + 9) ix_Beside_are_rows_alike [.ref 0, .tup (dAll vs), .tup (dAll ws)] (HB X P) = .ok (.bl b) (HB X P') ∧ StepR (Lv X.A X.B) OneS P P' (fun S => All2 (Al X.A X.B S j) vs ws) b ∧ (OneP P → OneP P') ∧ P'.length ≤ P.length + 4 ^ (j + 1) := by
  have lt2 : ∀ (hh : Hh) (xs : List D), lenD hh (.tup xs) = some (.int xs.length) := fun hh xs => rfl
  have p4 : 4 ^ (j + 1) = 4 * 4 ^ j := by rw [Nat.pow_succ, Nat.mul_comm]
  have ao : asObj (HB X P) (.ref 0) = some (1, [(3, .tup [bookD X.A X.ra X.fa, bookD X.B X.rb X.fb]), (4, .ref 1), (5, .ref 2), (6, .ref 3)]) := rfl
  rw [run_Beside_are_rows_alike]
  by_cases hlen : vs.length = ws.length
  · generalize hE : full 3 5 (b_Beside_are_rows_alike (run F (n + 2 * j + 8)) F) [.ref 0, .tup (dAll vs), .tup (dAll ws)] (HB X P) = E
    simp [full, b_Beside_are_rows_alike, startD, lt2, dAll_map, hlen] at hE
    generalize hR : lcL _ _ _ _ = rr at hE
    obtain ⟨bs, P', er, st, on, ln⟩ := lc_stepsR hR (fun z : Vl × Vl => .tup [z.1.d, z.2.d]) (fun z S => Al X.A X.B S j z.1 z.2) (HB X) (Lv X.A X.B) OneS (4 ^ j) 1000 (vs.zip ws) P (by rw [zipD_map]) rfl (fun z => mono_al) (by
      intro z hz P hP
      obtain ⟨b, P', e, st, on, ln⟩ := IH n z.1 z.2 P (fv _ (List.of_mem_zip hz).1) (fw _ (List.of_mem_zip hz).2) hP
      have ao : asObj (HB X P) (.ref 0) = some (1, [(3, .tup [bookD X.A X.ra X.fa, bookD X.B X.rb X.fb]), (4, .ref 1), (5, .ref 2), (6, .ref 3)]) := rfl
      exact ⟨b, P', by simp [bindGs, bindG, ao, e], st, on, ln⟩) (by
      simp only [List.length_zip]
      have : min vs.length ws.length * 4 ^ j ≤ 3 * 4 ^ j := Nat.mul_le_mul_right _ (by omega)
      omega) (by simp only [List.length_zip]; omega)
    clear hR
    refine ⟨bs.all id, P', ?_, st.iff fun S => all2_zip hlen, on, ?_⟩
    · rw [← hE, er]
      simp [all_bls, SR.out]
    · simp only [List.length_zip] at ln
      have : min vs.length ws.length * 4 ^ j ≤ 3 * 4 ^ j := Nat.mul_le_mul_right _ (by omega)
      omega
  · refine ⟨false, P, ?_, StepR.no fun S a => hlen a.len, id, by omega⟩
    have hlen' : ¬ ((vs.length : Int) = ws.length) := by omega
    simp [full, b_Beside_are_rows_alike, startD, lt2, dAll_map, hlen, hlen', SR.out]
theorem eq_words (hh : Hh) {es fs : List (Tx × Vl)} (he : ∀ e ∈ es, e.1 ∈ fourW) (hf : ∀ e ∈ fs, e.1 ∈ fourW) : eqD hh (.lst (es.map fun e => .str e.1)) (.lst (fs.map fun e => .str e.1)) = some (decide (words es = words fs)) := by
  have fl : ∀ ts : List (Tx × Vl), (∀ e ∈ ts, e.1 ∈ fourW) → (D.lst (ts.map fun e => .str e.1)).flat 60 = true := fun ts h => by
    have : flatAll 59 (ts.map fun e => D.str e.1) = true := flat_map fun e he => flat_str (fourW_lt (h e he)).1
    simpa [D.flat] using this
  have ev : ∀ es fs : List (Tx × Vl), eqvAll (es.map fun e => .str e.1) (fs.map fun e => .str e.1) = decide (words es = words fs) := by
    intro es
    induction es with
    | nil => intro fs; cases fs <;> simp [eqvAll, words]
    | cons e es ih =>
      intro fs
      cases fs with
      | nil => simp [eqvAll, words]
      | cons f fs =>
        simp only [List.map_cons, eqvAll, eqv_str', ih]
        rw [Bool.eq_iff_iff]
        simp only [Bool.and_eq_true, beq_iff_eq, words, List.map_cons]
        constructor
        · rintro ⟨a, b⟩
          have b := of_decide_eq_true b
          exact decide_eq_true (by rw [a, b])
        · intro h
          have h := of_decide_eq_true h
          simp only [List.cons.injEq] at h
          exact ⟨h.1, decide_eq_true h.2⟩
  have s1 := fl es he
  have s2 := fl fs hf
  unfold eqD
  have h1 : scalPair (.lst (es.map fun e => .str e.1)) (.lst (fs.map fun e => .str e.1)) = false := rfl
  rw [h1]
  simp only [seen, Bool.false_eq_true, if_false, s1, s2, Bool.and_self, if_true, eqv_lst', ev, ite_self]
theorem alk_step (F m : Nat) {X : Bks} (hX : X.Ok) (hm : m ≤ 2) (ih : ∀ j, m = j + 1 → AlkSpec F j X) : AlkSpec F m X := by
  intro n v w P fv fw hP
  have p4 := pow4_pos m
  have ll : line = 16777216 := Pl.line_eq
  have x20 : ixn 2 0 = some 0 := rfl
  have x21 : ixn 2 1 = some 1 := rfl
  have x30 : ixn 3 0 = some 0 := rfl
  have x31 : ixn 3 1 = some 1 := rfl
  have x32 : ixn 3 2 = some 2 := rfl
  have lt2 : ∀ (hh : Hh) (xs : List D), lenD hh (.tup xs) = some (.int xs.length) := fun hh xs => rfl
  have fv2 := fit_le fv hm
  have fw2 := fit_le fw hm
  have eA := fun hh => r_isref F (n + 2 * m + 3) v.d hh (Vl.dpure v)
  rw [isTo_fit fv] at eA
  have ao : asObj (HB X P) (.ref 0) = some (1, [(3, .tup [bookD X.A X.ra X.fa, bookD X.B X.rb X.fb]), (4, .ref 1), (5, .ref 2), (6, .ref 3)]) := rfl
  rw [run_Beside_are_alike]
  by_cases hk : kind v = 0 ∨ kind v = 4
  · obtain ⟨b, P', e1, st, on, ln⟩ := r_is_met F (n + 2 * m) hX (m := m) fv2 fw2 hk (by omega : P.length ≤ 1000)
    refine ⟨b, P', ?_, st, on, by omega⟩
    have hn : v.d.isNon = decide (kind v = 0) := is_none v
    by_cases h0 : kind v = 0
    · simp [full, b_Beside_are_alike, startD, hn, h0, ao, e1, SR.out]
    · have h4 : kind v = 4 := by omega
      simp [full, b_Beside_are_alike, startD, hn, h4, eA, ao, e1, SR.out]
  have hd : ¬ deadV X.A v := fun h => by
    cases v <;> first | (exact hk (.inl rfl)) | (exact hk (.inr rfl)) | exact h.elim
  have hl : ¬ ∃ k e, v = .to k e := by
    rintro ⟨k, e, rfl⟩
    exact hk (.inr rfl)
  have k0 : ¬ kind v = 0 := fun h => hk (.inl h)
  have k4 : ¬ kind v = 4 := fun h => hk (.inr h)
  have eA : ∀ hh, run F (n + 2 * m + 7) ix_is_reference [v.d] hh = .ok (.bl false) hh := fun hh => by
    have := eA hh
    rw [this]
    simp [k4]
  by_cases hap : Apart v w
  · have hq := fun hh => eqD_fit hm hm fv fw hh
    refine ⟨v.d.eqv w.d, P, ?_, (StepR.const (Q := v = w) (eqv_apart fv fw hap)).iff fun S => al_apart hd hl hap, id, by omega⟩
    generalize v.d.eqv w.d = b at hq
    cases v <;> first | (exact absurd rfl k0) | (exact absurd rfl k4) | skip
    all_goals cases w <;> first | (exfalso; rcases hap with a | a <;> simp [kind] at a; done) | (simp only [Vl.d] at hq eA; simp [full, b_Beside_are_alike, startD, Vl.d, eA, x20, x21, x30, x31, x32, lt2, isT, ty1, isOf, hq, SR.out])
  · have hk : kind v = kind w ∧ 5 ≤ kind v := by
      refine ⟨Decidable.byContradiction fun h => hap (.inl h), ?_⟩
      have h3 : ¬ kind v ≤ 3 := fun h => hap (.inr h)
      omega
    have sl2 : ∀ (hh : Hh) (a b : D), slice hh (.tup [a, b]) (some 2) none = some (.tup []) := fun hh a b => by simp [slice, cut, six]
    have sl3 : ∀ (hh : Hh) (a b c : D), slice hh (.tup [a, b, c]) (some 2) none = some (.tup [c]) := fun hh a b c => by simp [slice, cut, six]
    have hj : ∃ j, m = j + 1 := by
      cases m with
      | zero => cases v <;> first | (simp [kind] at hk; done) | exact fv.elim
      | succ j => exact ⟨j, rfl⟩
    obtain ⟨j, rfl⟩ := hj
    have IH := ih j rfl
    have p4' : 4 ^ (j + 1) = 4 * 4 ^ j := by rw [Nat.pow_succ, Nat.mul_comm]
    have hN : n + 2 * (j + 1) + 7 = n + 1 + 2 * j + 8 := by omega
    rw [hN] at eA ⊢
    clear hap hd
    cases v with
    | row vs =>
      cases w with
      | row ws =>
        obtain ⟨fl, fv⟩ := fv
        obtain ⟨_, fw⟩ := fw
        simp only [Vl.d] at eA
        obtain ⟨b, P', e1, st, on, ln⟩ := r_rows F j n hX IH fv fw fl hP
        have e1' : run F (n + 1 + 2 * j + 8) ix_Beside_are_rows_alike [.ref 0, .tup (dAll vs), .tup (dAll ws)] (HB X P) = .ok (.bl b) (HB X P') := by
          rw [show n + 1 + 2 * j + 8 = n + 2 * j + 9 by omega]
          exact e1
        refine ⟨b, P', ?_, st.iff fun S => ⟨fun ⟨ws', e, a⟩ => (by cases e; exact a), fun a => ⟨ws, rfl, a⟩⟩, on, ln⟩
        simp [full, b_Beside_are_alike, startD, Vl.d, eA, x20, x21, x30, x31, x32, lt2, isT, ty1, isOf, ao, e1', SR.out]
      | _ => exact absurd hk.1 (by simp [kind])
    | table es =>
      cases w with
      | table fs =>
        obtain ⟨fl, fv⟩ := fv
        obtain ⟨fl2, fw⟩ := fw
        have we : ∀ hh : Hh, eqD hh (.lst (es.map fun e => .str e.1)) (.lst (fs.map fun e => .str e.1)) = some (decide (words es = words fs)) := fun hh => eq_words hh (fun e he => (fv e he).1) (fun e he => (fw e he).1)
        simp only [Vl.d, dEnt_map] at eA
        have hll : es.length ≤ line ∧ fs.length ≤ line := by omega
        generalize hE : full 3 7 (b_Beside_are_alike (run F (n + 1 + 2 * j + 8)) F) [.ref 0, (Vl.table es).d, (Vl.table fs).d] (HB X P) = E
        simp [full, b_Beside_are_alike, startD, Vl.d, eA, x20, x21, x30, x31, x32, lt2, sl2, isT, ty1, isOf, dEnt_map] at hE
        generalize hR : lcL _ _ _ _ = rr at hE
        have hR2 := lc_mapM (f := fun e : Tx × Vl => .str e.1) hR (by
          intro e he
          simp [bindGs, bindG]) hll.1
        clear hR
        subst hR2
        simp [x21, x31] at hE
        generalize hR : lcL _ _ _ _ = rr at hE
        have hR2 := lc_mapM (f := fun e : Tx × Vl => .str e.1) hR (by
          intro e he
          simp [bindGs, bindG]) hll.2
        clear hR
        subst hR2
        by_cases hw : words es = words fs
        · have hlen : es.length = fs.length := by have := congrArg List.length hw; simpa [words] using this
          simp [we, hw, x21, x31, sl2] at hE
          generalize hR : lcL _ _ _ _ = rr at hE
          obtain ⟨bs, P', er, st, on, ln⟩ := lc_stepsR hR (fun z : (Tx × Vl) × (Tx × Vl) => .tup [.tup [.str z.1.1, z.1.2.d], .tup [.str z.2.1, z.2.2.d]]) (fun z S => Al X.A X.B S j z.1.2 z.2.2) (HB X) (Lv X.A X.B) OneS (4 ^ j) 1000 (es.zip fs) P (by rw [zipD_map]) rfl (fun z => mono_al) (by
            intro z hz P hP
            obtain ⟨b, P', e, st, on, ln⟩ := IH (n + 1) z.1.2 z.2.2 P (fv _ (List.of_mem_zip hz).1).2 (fw _ (List.of_mem_zip hz).2).2 hP
            have ao : asObj (HB X P) (.ref 0) = some (1, [(3, .tup [bookD X.A X.ra X.fa, bookD X.B X.rb X.fb]), (4, .ref 1), (5, .ref 2), (6, .ref 3)]) := rfl
            exact ⟨b, P', by simp [bindGs, bindG, ao, e], st, on, ln⟩) (by
            simp only [List.length_zip]
            have : min es.length fs.length * 4 ^ j ≤ 3 * 4 ^ j := Nat.mul_le_mul_right _ (by omega)
            omega) (by simp only [List.length_zip]; omega)
          refine ⟨bs.all id, P', ?_, st.iff fun S => ⟨fun ⟨fs', e, a⟩ => ?_, fun a => ⟨fs, rfl, hw, ?_⟩⟩, on, ?_⟩
          · rw [← hE, er]
            simp [all_bls, SR.out]
          · cases e
            exact fun z hz => ((ent_zip hlen).mp a z hz).2
          · have := (all2_zip (R := Al X.A X.B S j) (xs := vals es) (ys := vals fs) (by simpa [vals] using hlen)).mpr (by
              intro z hz
              simp only [vals, List.zip_map] at hz
              obtain ⟨y, hy, rfl⟩ := List.mem_map.mp hz
              exact a y hy)
            exact this
          · simp only [List.length_zip] at ln
            have : min es.length fs.length * 4 ^ j ≤ 3 * 4 ^ j := Nat.mul_le_mul_right _ (by omega)
            omega
        · refine ⟨false, P, ?_, StepR.no fun S ⟨fs', e, a⟩ => ?_, id, by omega⟩
          · rw [← hE]
            simp [we, hw, SR.out, x21, x31, sl2]
          · cases e
            exact hw a.1
      | _ => exact absurd hk.1 (by simp [kind])
    | stream es s =>
      cases w with
      | stream fs t =>
        obtain ⟨fl, fv, hs⟩ := fv
        obtain ⟨fl2, fw, ht⟩ := fw
        have we : ∀ hh : Hh, eqD hh (.lst (es.map fun e => .str e.1)) (.lst (fs.map fun e => .str e.1)) = some (decide (words es = words fs)) := fun hh => eq_words hh (fun e he => (fv e he).1) (fun e he => (fw e he).1)
        simp only [Vl.d, dEnt_map] at eA
        have hll : es.length ≤ line ∧ fs.length ≤ line := by omega
        have et : ∀ hh : Hh, eqD hh (.tup [.str s]) (.tup [.str t]) = some (decide (s = t)) := fun hh => by
          have f1 : (D.tup [.str s]).flat 60 = true := flat_tup (k := 59) (flat_cons (flat_str (strT_lt hs).1) rfl)
          have f2 : (D.tup [.str t]).flat 60 = true := flat_tup (k := 59) (flat_cons (flat_str (strT_lt ht).1) rfl)
          unfold eqD
          have h1 : scalPair (.tup [.str s]) (.tup [.str t]) = false := rfl
          rw [h1]
          simp only [seen, Bool.false_eq_true, if_false, f1, f2, Bool.and_self, if_true, eqv_hd, eqvAll, Bool.and_true, ite_self]
        generalize hE : full 3 7 (b_Beside_are_alike (run F (n + 1 + 2 * j + 8)) F) [.ref 0, (Vl.stream es s).d, (Vl.stream fs t).d] (HB X P) = E
        simp [full, b_Beside_are_alike, startD, Vl.d, eA, x20, x21, x30, x31, x32, lt2, sl3, isT, ty1, isOf, dEnt_map] at hE
        generalize hR : lcL _ _ _ _ = rr at hE
        have hR2 := lc_mapM (f := fun e : Tx × Vl => .str e.1) hR (by
          intro e he
          simp [bindGs, bindG]) hll.1
        clear hR
        subst hR2
        simp [x21, x31] at hE
        generalize hR : lcL _ _ _ _ = rr at hE
        have hR2 := lc_mapM (f := fun e : Tx × Vl => .str e.1) hR (by
          intro e he
          simp [bindGs, bindG]) hll.2
        clear hR
        subst hR2
        by_cases hw : words es = words fs ∧ s = t
        · obtain ⟨hw, rfl⟩ := hw
          have hlen : es.length = fs.length := by have := congrArg List.length hw; simpa [words] using this
          simp [we, hw, et, x21, x31, sl3] at hE
          generalize hR : lcL _ _ _ _ = rr at hE
          obtain ⟨bs, P', er, st, on, ln⟩ := lc_stepsR hR (fun z : (Tx × Vl) × (Tx × Vl) => .tup [.tup [.str z.1.1, z.1.2.d], .tup [.str z.2.1, z.2.2.d]]) (fun z S => Al X.A X.B S j z.1.2 z.2.2) (HB X) (Lv X.A X.B) OneS (4 ^ j) 1000 (es.zip fs) P (by rw [zipD_map]) rfl (fun z => mono_al) (by
            intro z hz P hP
            obtain ⟨b, P', e, st, on, ln⟩ := IH (n + 1) z.1.2 z.2.2 P (fv _ (List.of_mem_zip hz).1).2 (fw _ (List.of_mem_zip hz).2).2 hP
            have ao : asObj (HB X P) (.ref 0) = some (1, [(3, .tup [bookD X.A X.ra X.fa, bookD X.B X.rb X.fb]), (4, .ref 1), (5, .ref 2), (6, .ref 3)]) := rfl
            exact ⟨b, P', by simp [bindGs, bindG, ao, e], st, on, ln⟩) (by
            simp only [List.length_zip]
            have : min es.length fs.length * 4 ^ j ≤ 3 * 4 ^ j := Nat.mul_le_mul_right _ (by omega)
            omega) (by simp only [List.length_zip]; omega)
          refine ⟨bs.all id, P', ?_, st.iff fun S => ⟨fun ⟨fs', e, a⟩ => ?_, fun a => ⟨fs, rfl, hw, ?_⟩⟩, on, ?_⟩
          · rw [← hE, er]
            simp [all_bls, SR.out]
          · cases e
            exact fun z hz => ((ent_zip hlen).mp a z hz).2
          · have := (all2_zip (R := Al X.A X.B S j) (xs := vals es) (ys := vals fs) (by simpa [vals] using hlen)).mpr (by
              intro z hz
              simp only [vals, List.zip_map] at hz
              obtain ⟨y, hy, rfl⟩ := List.mem_map.mp hz
              exact a y hy)
            exact this
          · simp only [List.length_zip] at ln
            have : min es.length fs.length * 4 ^ j ≤ 3 * 4 ^ j := Nat.mul_le_mul_right _ (by omega)
            omega
        · refine ⟨false, P, ?_, StepR.no fun S ⟨fs', e, a⟩ => ?_, id, by omega⟩
          · rw [← hE]
            by_cases hw1 : words es = words fs
            · have hst : ¬ s = t := fun h => hw ⟨hw1, h⟩
              simp [we, hw1, et, hst, SR.out, x21, x31, sl3]
            · simp [we, hw1, SR.out, x21, x31, sl3]
          · cases e
            exact hw ⟨a.1, rfl⟩
      | _ => exact absurd hk.1 (by simp [kind])
    | _ => exact absurd hk.2 (by simp [kind])
theorem alk_spec (F : Nat) {X : Bks} (hX : X.Ok) : ∀ m, m ≤ 2 → AlkSpec F m X
  | 0, _ => alk_step F 0 hX (by decide) (by omega)
  | m + 1, h => alk_step F (m + 1) hX h fun j e => by
    obtain rfl : j = m := by omega
    exact alk_spec F hX j (by omega)
end Lw
end
section
set_option linter.all false
set_option autoImplicit false
set_option maxRecDepth 100000
namespace Lw
open Fw Pl
theorem r_beside (F n : Nat) {X : Bks} (hX : X.Ok) : run F (n + 1) ix_Beside_init [bookD X.A X.ra X.fa, bookD X.B X.rb X.fb] [] = .ok (.ref 0) (HB X []) := by
  rw [run_Beside_init]
  simp [makeF, b_Beside_init, startD, setFld, putF, HB, thereK, backK, waitK]
structure PInv (A : Th) (ra : Option (Int × Int)) (B : Th) (rb : Option (Int × Int)) (P : Prs) (at_ : Nat) : Prop where
  le : at_ ≤ P.length
  one : OneP P
  liv : ∀ p ∈ P, Lv A B p
  cl : ∀ p ∈ P.take at_, ∀ a b, findT p.1 A = some a → findT p.2 B = some b → Al A B (relP P) 2 a.2 b.2
  root : Al A B (relP P) 2 (rootV ra) (rootV rb)
  all : ∀ S, Bis A ra B rb S → ∀ p ∈ P, S p.1 p.2
theorem PInv.len {A : Th} {ra : Option (Int × Int)} {B : Th} {rb : Option (Int × Int)} {P : Prs} {at_ : Nat} (w : PInv A ra B rb P at_) (hA : TOk A) : P.length ≤ 10 := by
  have := nodup_len (k := A.map (·.1)) w.one.1 fun k hk' => by
    obtain ⟨y, hy, rfl⟩ := List.mem_map.mp hk'
    obtain ⟨q, hq⟩ := (w.liv y hy).1
    exact List.mem_map_of_mem (findT_mem hq)
  have := hA.len
  simp only [List.length_map] at *
  omega
theorem one_fst {P : Prs} (h : (P.map (·.1)).Nodup) {x y y' : Int} (h1 : (x, y) ∈ P) (h2 : (x, y') ∈ P) : y = y' := by
  induction P with
  | nil => cases h1
  | cons p P ih =>
    rw [List.map_cons, List.nodup_cons] at h
    rcases List.mem_cons.mp h1 with e1 | h1 <;> rcases List.mem_cons.mp h2 with e2 | h2
    · rw [← e1] at e2
      cases e2
      rfl
    · exact absurd (List.mem_map.mpr ⟨_, h2, by rw [← e1]⟩) h.1
    · exact absurd (List.mem_map.mpr ⟨_, h1, by rw [← e2]⟩) h.1
    · exact ih h.2 h1 h2
theorem one_snd {P : Prs} (h : (P.map (·.2)).Nodup) {x x' y : Int} (h1 : (x, y) ∈ P) (h2 : (x', y) ∈ P) : x = x' := by
  induction P with
  | nil => cases h1
  | cons p P ih =>
    rw [List.map_cons, List.nodup_cons] at h
    rcases List.mem_cons.mp h1 with e1 | h1 <;> rcases List.mem_cons.mp h2 with e2 | h2
    · rw [← e1] at e2
      cases e2
      rfl
    · exact absurd (List.mem_map.mpr ⟨_, h2, by rw [← e1]⟩) h.1
    · exact absurd (List.mem_map.mpr ⟨_, h1, by rw [← e2]⟩) h.1
    · exact ih h.2 h1 h2
theorem PInv.alike {A : Th} {ra : Option (Int × Int)} {B : Th} {rb : Option (Int × Int)} {P : Prs} (w : PInv A ra B rb P P.length) : Alike A ra B rb := by
  have cl := w.cl
  rw [List.take_length] at cl
  refine ⟨relP P, fun x y y' h1 h2 => one_fst w.one.1 h1 h2, fun x x' y h1 h2 => one_snd w.one.2 h1 h2, w.root, fun x y h => ?_⟩
  obtain ⟨⟨p, hp⟩, q, hq⟩ := w.liv _ h
  exact ⟨p, q, hp, hq, cl _ h _ _ hp hq⟩
theorem bis_one {A : Th} {ra : Option (Int × Int)} {B : Th} {rb : Option (Int × Int)} {S : Rel} (h : Bis A ra B rb S) : OneS S := ⟨h.fn, h.inj⟩
structure RSt where
  P : Prs
  at_ : Nat
  c4 : Option D
  c5 : Option D
theorem r_read_alike (F n : Nat) {X : Bks} (hX : X.Ok) (hF : 1000 ≤ F) (h : Hh) :
    ∃ b, run F (n + 13) ix_read_alike [bookD X.A X.ra X.fa, bookD X.B X.rb X.fb] h = .ok (.bl b) h ∧ (b = true ↔ Alike X.A X.ra X.B X.rb) := by
  have ll : line = 16777216 := Pl.line_eq
  rw [run_read_alike, own_closed (np := 2) (by simp [bookD_cl hX.ca, bookD_cl hX.cb]) rfl]
  have e0 := r_beside F (n + 11) hX
  have ea := fun hh => r_broot (A := X.A) (ra := X.ra) F (n + 11) hX.ca hh
  have eb := fun hh => r_broot (A := X.B) (ra := X.rb) F (n + 11) hX.cb hh
  have hka : kind (rootV X.ra) = 0 ∨ kind (rootV X.ra) = 4 := by cases X.ra <;> simp [rootV, kind]
  obtain ⟨b1, P1, e1, st1, on1, ln1⟩ := r_is_met F (n + 5) hX (m := 2) (P := []) (fit_leaf (k := 2) hX.qa) (fit_leaf (k := 2) hX.qb) hka (by simp)
  simp only [Nat.add_assoc, Nat.reduceAdd, rootV_d] at e0 ea eb e1
  have ao : ∀ P, asObj (HB X P) (.ref 0) = some (1, [(3, .tup [bookD X.A X.ra X.fa, bookD X.B X.rb X.fb]), (4, .ref 1), (5, .ref 2), (6, .ref 3)]) := fun P => rfl
  cases b1 with
  | false =>
    refine ⟨false, by simp [b_read_alike, startD, df_Beside_init, e0, ea, eb, ao, e1], ⟨fun h => (by cases h), fun ⟨S, q⟩ => ?_⟩⟩
    have := (st1.all S (bis_one q) (by simp) q.root).1
    cases this
  | true =>
    obtain ⟨M1, eM1, hM1⟩ := st1.pre
    generalize hE : back [] h (b_read_alike (run F (n + 12)) F (startD 6 [bookD X.A X.ra X.fa, bookD X.B X.rb X.fb]) []) = E
    simp [b_read_alike, startD, df_Beside_init, e0, ea, eb, ao, e1, sWh_eq] at hE
    generalize hR : whL _ _ _ _ _ = rr at hE
    have key := wh_rel hR (fun a : RSt => [some (bookD X.A X.ra X.fa), some (bookD X.B X.rb X.fb), some (.ref 0), some (.int a.at_), a.c4, a.c5]) (fun a => HB X a.P)
      (fun _ r => (∃ h', r = .rt (.bl false) h' ∧ ¬ Alike X.A X.ra X.B X.rb) ∨ (∃ σ h', r = .nx σ h' ∧ Alike X.A X.ra X.B X.rb)) (fun a => PInv X.A X.ra X.B X.rb a.P a.at_) (fun a => 20 - a.at_) (by
      rintro ⟨P, at_, c4, c5⟩ w
      dsimp only at w
      have hlen := w.len hX.a
      have hle := w.le
      have lr : lenD (HB X P) (.ref 3) = some (.int P.length) := by simp [lenD, asSeq, HB, waitK]
      by_cases hat : at_ < P.length
      · obtain ⟨p, hp⟩ : ∃ p, P[at_]? = some p := ⟨P[at_], List.getElem?_eq_getElem hat⟩
        obtain ⟨⟨a, ha⟩, b, hb⟩ := w.liv p (List.mem_of_getElem? hp)
        have fa := (hX.a.ok _ (findT_mem ha)).2.2
        have fb := (hX.b.ok _ (findT_mem hb)).2.2
        have hixn : ixn P.length (at_ : Int) = some at_ := by
          simp only [ixn]
          rw [if_pos (by omega), if_pos (by omega)]
          simp
        have ix : index (HB X P) (.ref 3) (.int (at_ : Int)) = some (.tup [a.2.d, b.2.d]) := by
          have : (waitK X.A X.B P)[at_]? = some (.tup [a.2.d, b.2.d]) := by simp [waitK, hp, valD, ha, hb]
          have hl : (waitK X.A X.B P).length = P.length := by simp [waitK]
          simp [index, asSeq, HB, hl, hixn, this]
        obtain ⟨b2, P2, e2, st2, on2, ln2⟩ := alk_spec F hX 2 (by decide) n a.2 b.2 P fa fb (by omega)
        simp only [Nat.add_assoc, Nat.reduceAdd, Nat.reduceMul] at e2
        have want : ∀ S, Bis X.A X.ra X.B X.rb S → Al X.A X.B S 2 a.2 b.2 := fun S q => by
          obtain ⟨a', b', f1, f2, al⟩ := q.cl _ _ (w.all S q p (List.mem_of_getElem? hp))
          rw [ha] at f1
          rw [hb] at f2
          cases f1
          cases f2
          exact al
        cases b2 with
        | true =>
          obtain ⟨M, eM, hM⟩ := st2.pre
          have mono : ∀ x y, relP P x y → relP P2 x y := fun x y h => by
            show (x, y) ∈ P2
            rw [eM]
            exact List.mem_append_left _ h
          have et : P2.take (at_ + 1) = P.take at_ ++ [p] := by rw [eM, List.take_append_of_le_length (by omega), take_snoc hp]
          refine .next ⟨P2, at_ + 1, some a.2.d, some b.2.d⟩ (by simp [lr, hat, ao, List.lookup]) ?_ ⟨by dsimp only; rw [eM, List.length_append]; omega, on2 w.one, fun q hq => ?_, ?_, w.root.mono mono, fun S q => (st2.all S (bis_one q) (w.all S q) (want S q)).2⟩ (by dsimp only; omega) (fun r q => q)
          · have h200 : (at_ : Int) < 18446744073709551616 := by omega
            simp [ao, List.lookup, ix, bindGs, bindG, e2, h200]
          · dsimp only at hq
            rw [eM] at hq
            exact (List.mem_append.mp hq).elim (w.liv q) (hM q)
          · dsimp only
            rw [et]
            intro q hq a' b' e1 e2
            rcases List.mem_append.mp hq with hq | hq
            · exact (w.cl q hq a' b' e1 e2).mono mono
            · simp at hq
              subst hq
              rw [ha] at e1
              rw [hb] at e2
              cases e1
              cases e2
              exact st2.yes rfl
        | false =>
          refine .ret (.bl false) (HB X P2) (by simp [lr, hat, ao, List.lookup]) ?_ (.inl ⟨_, rfl, fun ⟨S, q⟩ => ?_⟩)
          · simp [ao, List.lookup, ix, bindGs, bindG, e2]
          · have := (st2.all S (bis_one q) (w.all S q) (want S q)).1
            cases this
      · have : at_ = P.length := by omega
        subst this
        exact .stop (by simp [lr, ao, List.lookup]) (.inr ⟨_, _, rfl, w.alike⟩)) ⟨P1, 0, none, none⟩ rfl rfl ⟨Nat.zero_le _, on1 ⟨by simp, by simp⟩, fun p hp => hM1 p (by rw [eM1] at hp; simpa using hp), by simp, st1.yes rfl, fun S q => (st1.all S (bis_one q) (by simp) q.root).2⟩ (by omega)
    clear hR
    rcases key with ⟨h', e, ne⟩ | ⟨σ, h', e, ya⟩
    · refine ⟨false, ?_, ⟨fun h => (by cases h), fun q => absurd q ne⟩⟩
      rw [← hE, e]
      simp
    · refine ⟨true, ?_, ⟨fun _ => ya, fun _ => rfl⟩⟩
      rw [← hE, e]
      simp
end Lw
end
section
set_option linter.all false
set_option autoImplicit false
set_option maxRecDepth 100000
namespace Lw
open Fw Pl
abbrev Nms := List (Int × Int × Int)
def nmK (N : Nms) : List (K1 × D) := N.map fun x => (.inl x.1, .tup [.int x.2.1, .int x.2.2])
@[simp] theorem nmK_cl (N : Nms) : closedK (nmK N) = true := by
  induction N with
  | nil => simp [nmK]
  | cons t ts ih => simp only [nmK, List.map_cons, cl_kcons] at ih ⊢; simp [ih]
def nmL (k : Int) (N : Nms) : Option (Int × Int) := (N.find? fun x => decide (x.1 = k)).map (·.2)
theorem look_nmK (k : Int) (N : Nms) : look (.inl k) (nmK N) = (nmL k N).map fun q => .tup [.int q.1, .int q.2] := by
  induction N with
  | nil => rfl
  | cons t ts ih =>
    simp only [nmK, List.map_cons, look, nmL, List.find?_cons] at ih ⊢
    by_cases q : t.1 = k
    · simp [q]
    · simp only [q, decide_false, Sum.inl.injEq, if_false, ih]
theorem nmL_mem {k : Int} {N : Nms} {q : Int × Int} (h : nmL k N = some q) : (k, q) ∈ N := by
  unfold nmL at h
  cases e : N.find? fun t => decide (t.1 = k) with
  | none => rw [e] at h; cases h
  | some t =>
    rw [e] at h
    have h1 := List.find?_some e
    have h2 := List.mem_of_find?_eq_some e
    simp at h h1
    subst h1; subst h
    exact h2
theorem nmL_has {k : Int} {N : Nms} (h : k ∈ N.map (·.1)) : ∃ q, nmL k N = some q := by
  unfold nmL
  cases e : N.find? fun t => decide (t.1 = k) with
  | none =>
    obtain ⟨t, ht, rfl⟩ := List.mem_map.mp h
    have := List.find?_eq_none.mp e t ht
    simp at this
  | some t => exact ⟨_, rfl⟩
structure NOk (A : Th) (N : Nms) : Prop where
  keys : N.map (·.1) = A.map (·.1)
  new : (N.map (·.2.1)).Nodup
  rng : ∀ x ∈ N, (1 ≤ x.2.1 ∧ x.2.1 ≤ 29) ∧ 0 ≤ x.2.2 ∧ x.2.2 ≤ 2
def callR (A : Th) (N : Nms) (k e : Int) : Vl := if leadB A (k, e) = true then (match nmL k N with
  | some q => .to q.1 q.2
  | none => .non) else if k % 2 = 0 then .non else .to 150 3
def callV (A : Th) (N : Nms) : Nat → Vl → Vl
  | _, .to k e => callR A N k e
  | m + 1, .row vs => .row (vs.map (callV A N m))
  | m + 1, .table es => .table (es.map fun e => (e.1, callV A N m e.2))
  | m + 1, .stream es s => .stream (es.map fun e => (e.1, callV A N m e.2)) s
  | _, v => v
theorem callR_fit {A : Th} {N : Nms} (hN : NOk A N) (k e : Int) : fit 0 (callR A N k e) := by
  unfold callR
  split
  · cases h : nmL k N with
    | none => trivial
    | some q =>
      have := hN.rng _ (nmL_mem h)
      dsimp only at this ⊢
      exact ⟨by omega, by omega⟩
  · split
    · trivial
    · exact ⟨by decide, by decide⟩
theorem callV_fit {A : Th} {N : Nms} (hN : NOk A N) : ∀ {m : Nat} {v : Vl}, fit m v → fit m (callV A N m v)
  | m, .to k e, h => by cases m <;> exact fit_leaf (callR_fit hN k e)
  | m, .non, h => by cases m <;> exact h
  | m, .int _, h => by cases m <;> exact h
  | m, .str _, h => by cases m <;> exact h
  | m, .name _, h => by cases m <;> exact h
  | m + 1, .row vs, h => ⟨by simpa using h.1, fun v hv => by
      obtain ⟨u, hu, rfl⟩ := List.mem_map.mp hv
      exact callV_fit hN (h.2 u hu)⟩
  | m + 1, .table es, h => ⟨by simpa using h.1, fun e he => by
      obtain ⟨u, hu, rfl⟩ := List.mem_map.mp he
      exact ⟨(h.2 u hu).1, callV_fit hN (h.2 u hu).2⟩⟩
  | m + 1, .stream es s, h => ⟨by simpa using h.1, fun e he => by
      obtain ⟨u, hu, rfl⟩ := List.mem_map.mp he
      exact ⟨(h.2.1 u hu).1, callV_fit hN (h.2.1 u hu).2⟩, h.2.2⟩
  | 0, .row _, h => h.elim
  | 0, .table _, h => h.elim
  | 0, .stream _ _, h => h.elim
theorem dead_name {A : Th} {k e : Int} {N : Nms} (hN : NOk A N) (h : leadB A (k, e) = true) : ∃ q, nmL k N = some q := by
  obtain ⟨p, hp⟩ := lead_some h
  refine nmL_has ?_
  rw [hN.keys]
  exact List.mem_map_of_mem (findT_mem hp)
def CalledSpec (F m : Nat) (A : Th) (N : Nms) : Prop := ∀ (n : Nat) (v : Vl) (h : Hh) (r : Nat), fit m v → h[r]? = some (.dct (nmK N)) →
    run F (n + m + 2) ix__law_called [v.d, .dct (kvT A), .ref r] h = .ok (callV A N m v).d h
theorem call_step (F m : Nat) {A : Th} {N : Nms} (hN : NOk A N) (ih : ∀ j, m = j + 1 → CalledSpec F j A N) : CalledSpec F m A N := by
  intro n v h r fv hr
  have ll : line = 16777216 := Pl.line_eq
  have x20 : ixn 2 0 = some 0 := rfl
  have x21 : ixn 2 1 = some 1 := rfl
  have x30 : ixn 3 0 = some 0 := rfl
  have x31 : ixn 3 1 = some 1 := rfl
  have co : (Fw.O.dct (nmK N)).closed = true := by simp [O.closed]
  have same : h.set r (.dct (nmK N)) = h := set_same hr
  rw [run__law_called, own_three (np := 3) (Vl.closed v) (by simp) hr co rfl]
  have sl2 : ∀ (hh : Hh) (a b : D), slice hh (.tup [a, b]) (some 2) none = some (.tup []) := fun hh a b => by simp [slice, cut, six]
  have sl3 : ∀ (hh : Hh) (a b c : D), slice hh (.tup [a, b, c]) (some 2) none = some (.tup [c]) := fun hh a b c => by simp [slice, cut, six]
  cases v with
  | non => cases m <;> simp [b__law_called, startD, Vl.d, isT, ty1, isOf, callV, co, same]
  | int i => cases m <;> simp [b__law_called, startD, Vl.d, isT, ty1, isOf, callV, co, same]
  | str i => cases m <;> simp [b__law_called, startD, Vl.d, isT, ty1, isOf, callV, co, same]
  | name i => cases m <;> simp [b__law_called, startD, Vl.d, isT, ty1, isOf, callV, co, same, x20]
  | to k e =>
    have ec : callV A N m (.to k e) = callR A N k e := by cases m <;> rfl
    rw [ec]
    have e1 := fun hh => r_lleads F (n + m) A (v := .to k e) hh (.inr rfl)
    simp only [Nat.add_assoc, Nat.reduceAdd, Vl.d, liveB] at e1
    by_cases hl : leadB A (k, e) = true
    · obtain ⟨q, hq⟩ := dead_name hN hl
      rw [hl] at e1
      have lk : look (.inl k) (nmK N) = some (.tup [.int q.1, .int q.2]) := by rw [look_nmK, hq]; rfl
      have ix : index [Fw.O.dct (nmK N)] (.ref 0) (.int k) = some (.tup [.int q.1, .int q.2]) := by simp [index, asSeq, asDct, lk]
      have er : callR A N k e = .to q.1 q.2 := by simp [callR, hl, hq]
      rw [er]
      simp [b__law_called, startD, Vl.d, isT, ty1, isOf, co, same, x30, x31, e1, ix, ll, Nat.add_assoc]
    · have hl' : leadB A (k, e) = false := by simpa using hl
      rw [hl'] at e1
      by_cases hk : k % 2 = 0
      · have er : callR A N k e = .non := by simp [callR, hl', hk]
        rw [er]
        simp [b__law_called, startD, Vl.d, isT, ty1, isOf, co, same, x30, x31, e1, ll, Nat.add_assoc, hk, x20]
      · have er : callR A N k e = .to 150 3 := by simp [callR, hl', hk]
        have hk1 : k % 2 = 1 := by omega
        rw [er]
        simp [b__law_called, startD, Vl.d, isT, ty1, isOf, co, same, x30, x31, e1, ll, Nat.add_assoc, hk1, x21]
  | row vs =>
    cases m with
    | zero => exact fv.elim
    | succ j =>
      have IH := ih j rfl
      obtain ⟨fl, fv⟩ := fv
      simp [b__law_called, startD, Vl.d, isT, ty1, isOf, co, same, x20, x21, dAll_map]
      generalize hR : lcL _ _ _ _ = rr
      have hR2 := lc_mapM (f := fun v : Vl => (callV A N j v).d) hR (by
        intro v hv
        have e := IH n v [.dct (nmK N)] 0 (fv v hv) rfl
        simp only [Nat.add_assoc, Nat.reduceAdd] at e
        rw [show n + (j + 1) + 1 = n + (j + 2) by omega]
        simp [bindGs, bindG, e]) (by omega)
      clear hR
      subst hR2
      have hcl : closedAll (vs.map fun v => (callV A N j v).d) = true := Pl.cl_all.mpr fun d hd => by
        obtain ⟨u, _, rfl⟩ := List.mem_map.mp hd
        exact Vl.closed _
      simp [callV, Vl.d, dAll_map, Function.comp_def, co, same, hcl, ll]
  | table es =>
    cases m with
    | zero => exact fv.elim
    | succ j =>
      have IH := ih j rfl
      obtain ⟨fl, fv⟩ := fv
      simp [b__law_called, startD, Vl.d, isT, ty1, isOf, co, same, x20, x21, dEnt_map]
      generalize hR : lcL _ _ _ _ = rr
      have hR2 := lc_mapM (f := fun e : Tx × Vl => .tup [.str e.1, (callV A N j e.2).d]) hR (by
        intro v hv
        have e := IH n v.2 [.dct (nmK N)] 0 (fv v hv).2 rfl
        simp only [Nat.add_assoc, Nat.reduceAdd] at e
        rw [show n + (j + 1) + 1 = n + (j + 2) by omega]
        simp [bindGs, bindG, e]) (by omega)
      clear hR
      subst hR2
      have hcl : closedAll (es.map fun e => D.tup [.str e.1, (callV A N j e.2).d]) = true := Pl.cl_all.mpr fun d hd => by
        obtain ⟨u, _, rfl⟩ := List.mem_map.mp hd
        simp [Vl.closed]
      simp [callV, Vl.d, dEnt_map, Function.comp_def, co, same, hcl, ll, x20, x21, sl2]
  | stream es s =>
    cases m with
    | zero => exact fv.elim
    | succ j =>
      have IH := ih j rfl
      obtain ⟨fl, fv, hs⟩ := fv
      simp [b__law_called, startD, Vl.d, isT, ty1, isOf, co, same, x20, x21, x30, x31, dEnt_map]
      generalize hR : lcL _ _ _ _ = rr
      have hR2 := lc_mapM (f := fun e : Tx × Vl => .tup [.str e.1, (callV A N j e.2).d]) hR (by
        intro v hv
        have e := IH n v.2 [.dct (nmK N)] 0 (fv v hv).2 rfl
        simp only [Nat.add_assoc, Nat.reduceAdd] at e
        rw [show n + (j + 1) + 1 = n + (j + 2) by omega]
        simp [bindGs, bindG, e]) (by omega)
      clear hR
      subst hR2
      have hcl : closedAll (es.map fun e => D.tup [.str e.1, (callV A N j e.2).d]) = true := Pl.cl_all.mpr fun d hd => by
        obtain ⟨u, _, rfl⟩ := List.mem_map.mp hd
        simp [Vl.closed]
      simp [callV, Vl.d, dEnt_map, Function.comp_def, co, same, hcl, ll, x30, x31, sl3]
theorem called_spec (F : Nat) {A : Th} {N : Nms} (hN : NOk A N) : ∀ m, CalledSpec F m A N
  | 0 => call_step F 0 hN (by omega)
  | m + 1 => call_step F (m + 1) hN fun j e => by
    obtain rfl : j = m := by omega
    exact called_spec F hN j
end Lw
end
section
set_option linter.all false
set_option autoImplicit false
set_option maxRecDepth 100000
namespace Lw
open Fw Pl
theorem map_erase : ∀ (ls : List Int) (j : Nat), (ls.map D.int).eraseIdx j = (ls.eraseIdx j).map D.int
  | [], _ => rfl
  | x :: ls, 0 => rfl
  | x :: ls, j + 1 => by
    simp only [List.map_cons, List.eraseIdx_cons_succ, map_erase ls j]
theorem erase_facts : ∀ {ls : List Int} {j : Nat} {y : Int}, ls.Nodup → ls[j]? = some y → (ls.eraseIdx j).Nodup ∧ y ∉ ls.eraseIdx j ∧ (∀ x ∈ ls.eraseIdx j, x ∈ ls) ∧ (ls.eraseIdx j).length + 1 = ls.length
  | [], j, y, _, h => by simp at h
  | x :: ls, 0, y, nd, h => by
    simp at h
    subst h
    rw [List.nodup_cons] at nd
    exact ⟨nd.2, nd.1, fun z hz => List.mem_cons_of_mem _ hz, rfl⟩
  | x :: ls, j + 1, y, nd, h => by
    rw [List.nodup_cons] at nd
    rw [List.getElem?_cons_succ] at h
    obtain ⟨a, b, c, d⟩ := erase_facts nd.2 h
    rw [List.eraseIdx_cons_succ]
    refine ⟨List.nodup_cons.mpr ⟨fun hx => nd.1 (c x hx), a⟩, ?_, ?_, by simp only [List.length_cons]; omega⟩
    · intro hy
      rcases List.mem_cons.mp hy with rfl | hy
      · exact nd.1 (List.mem_of_getElem? h)
      · exact b hy
    · intro z hz
      rcases List.mem_cons.mp hz with rfl | hz
      · exact List.mem_cons_self
      · exact List.mem_cons_of_mem _ (c z hz)
theorem put_nmK {N : Nms} {k y z : Int} (h : k ∉ N.map (·.1)) : put (.inl k) (.tup [.int y, .int z]) (nmK N) = nmK (N ++ [(k, y, z)]) := by
  unfold put
  rw [if_neg]
  · simp [nmK]
  · simp only [nmK, List.any_map, List.any_eq_true, Function.comp, decide_eq_true_eq, Sum.inl.injEq, not_exists, not_and]
    intro x hx e
    exact h (List.mem_map.mpr ⟨x, hx, e⟩)
theorem putT_new {k e : Int} {v : Vl} {ts : Th} (h : k ∉ ts.map (·.1)) : putT k e v ts = ts ++ [(k, e, v)] := by
  unfold putT
  rw [if_neg]
  simp only [List.any_eq_true, decide_eq_true_eq, not_exists, not_and]
  intro x hx e
  exact h (List.mem_map.mpr ⟨x, hx, e⟩)
def newT (A : Th) (N : Nms) (t : Int × Int × Vl) : Int × Int × Vl := match nmL t.1 N with
  | some q => (q.1, q.2, callV A N 2 t.2.2)
  | none => (0, 0, .non)
def newB (A : Th) (N : Nms) : Th := A.map (newT A N) ++ [(199, 0, .to 199 0)]
theorem back_td3 {h hc : Hh} {r : Nat} {o o1 o2 : O} {kvs : List (K1 × D)} {d : D} (co : o.closed = true) (ck : closedK kvs = true) (cd : d.closed = true) : back [r] h (.rt (.tup [.ref 3, d]) (o :: o1 :: o2 :: .dct kvs :: hc)) = .ok (.tup [.dct kvs, d]) (h.set r o) := by
  simp [back, tell, giveBack, D.map_, mapAll, frz, mapK_closed _ ck, map_closed _ cd, frzO_closed co]
theorem nmL_of {N : Nms} (nd : (N.map (·.1)).Nodup) {x : Int × Int × Int} (h : x ∈ N) : nmL x.1 N = some x.2 := by
  induction N with
  | nil => cases h
  | cons u ts ih =>
    simp only [List.map_cons, List.nodup_cons] at nd
    unfold nmL
    rw [List.find?_cons]
    rcases List.mem_cons.mp h with rfl | h
    · simp
    · have hne : u.1 ≠ x.1 := fun e => nd.1 (e ▸ List.mem_map_of_mem h)
      simp only [hne, decide_false]
      exact ih nd.2 h
section
variable {A : Th} {N : Nms} (hA : TOk A) (hN : NOk A N)
include hA hN
theorem new_keys : (A.map (newT A N)).map (·.1) = N.map (·.2.1) := by
  have nd : (N.map (·.1)).Nodup := by rw [hN.keys]; exact hA.nd
  have key : ∀ (T : Th) (M : Nms), M.map (·.1) = T.map (·.1) → (∀ x ∈ M, x ∈ N) → (T.map (newT A N)).map (·.1) = M.map (·.2.1) := by
    intro T
    induction T with
    | nil => intro M h _; cases M with
      | nil => rfl
      | cons x M => simp at h
    | cons t T ih =>
      intro M h hM
      cases M with
      | nil => simp at h
      | cons x M =>
        simp only [List.map_cons, List.cons.injEq] at h ⊢
        refine ⟨?_, ih M h.2 fun y hy => hM y (List.mem_cons_of_mem _ hy)⟩
        have := nmL_of nd (hM x List.mem_cons_self)
        rw [h.1] at this
        simp [newT, this]
  exact key A N hN.keys fun x hx => hx
theorem newB_ok (hl : A.length ≤ 9) : TOk (newB A N) := by
  have hk := new_keys hA hN
  have nd : (N.map (·.1)).Nodup := by rw [hN.keys]; exact hA.nd
  refine ⟨by simp [newB]; omega, ?_, ?_⟩
  · unfold newB
    rw [List.map_append, hk, List.nodup_append]
    refine ⟨hN.new, by simp, fun a ha b hb e => ?_⟩
    obtain ⟨x, hx, rfl⟩ := List.mem_map.mp ha
    have := hN.rng x hx
    simp at hb
    omega
  · intro t ht
    rcases List.mem_append.mp ht with ht | ht
    · obtain ⟨u, hu, rfl⟩ := List.mem_map.mp ht
      obtain ⟨q, hq⟩ := nmL_has (N := N) (k := u.1) (by rw [hN.keys]; exact List.mem_map_of_mem hu)
      have hr := hN.rng _ (nmL_mem hq)
      have hf := (hA.ok u hu).2.2
      simp only [newT, hq]
      dsimp only at hr ⊢
      exact ⟨by omega, by omega, callV_fit hN hf⟩
    · simp at ht
      subst ht
      exact ⟨by decide, by decide, ⟨by decide, by decide⟩⟩
theorem newB_find {x : Int} {q : Int × Int} {p : Int × Vl} (hl : A.length ≤ 9) (hq : nmL x N = some q) (hp : findT x A = some p) : findT q.1 (newB A N) = some (q.2, callV A N 2 p.2) := by
  have hm : newT A N (x, p) ∈ newB A N := List.mem_append_left _ (List.mem_map_of_mem (findT_mem hp))
  have := findT_of (newB_ok hA hN hl).nd hm
  simpa [newT, hq] using this
theorem newB_dead (hl : A.length ≤ 9) : leadB (newB A N) (150, 3) = false := by
  unfold leadB
  cases h : findT 150 (newB A N) with
  | none => rfl
  | some p =>
    have hm : (150 : Int) ∈ (newB A N).map (·.1) := List.mem_map_of_mem (findT_mem h)
    unfold newB at hm
    rw [List.map_append, new_keys hA hN] at hm
    rcases List.mem_append.mp hm with hm | hm
    · obtain ⟨x, hx, e⟩ := List.mem_map.mp hm
      have := hN.rng x hx
      omega
    · simp at hm
theorem al_callR (hl : A.length ≤ 9) (m : Nat) (k e : Int) : Al A (newB A N) (fun x y => ∃ q, nmL x N = some q ∧ q.1 = y) m (.to k e) (callR A N k e) := by
  rw [al_to]
  by_cases h : leadB A (k, e) = true
  · obtain ⟨q, hq⟩ := dead_name hN h
    obtain ⟨p, hp⟩ := lead_some h
    refine .inr ⟨h, q.1, q.2, by simp [callR, h, hq], ?_, q, hq, rfl⟩
    unfold leadB
    rw [newB_find hA hN hl hq hp]
    simp
  · have h' : leadB A (k, e) = false := by simpa using h
    refine .inl ⟨h', ?_⟩
    by_cases hk : k % 2 = 0
    · simp [callR, h', hk, deadV]
    · simp only [callR, h', hk, Bool.false_eq_true, if_false, deadV]
      exact newB_dead hA hN hl
theorem al_callV (hl : A.length ≤ 9) : ∀ {m : Nat} {v : Vl}, fit m v → Al A (newB A N) (fun x y => ∃ q, nmL x N = some q ∧ q.1 = y) m v (callV A N m v)
  | m, .to k e, h => by
    have : callV A N m (.to k e) = callR A N k e := by cases m <;> rfl
    rw [this]
    exact al_callR hA hN hl m k e
  | m, .non, h => by
    have : callV A N m .non = .non := by cases m <;> rfl
    rw [this]
    exact al_non.mpr trivial
  | m, .int i, h => by cases m <;> rfl
  | m, .str i, h => by cases m <;> rfl
  | m, .name i, h => by cases m <;> rfl
  | m + 1, .row vs, h => by
    refine ⟨_, rfl, ?_⟩
    have := All2.map (R := Al A (newB A N) (fun x y => ∃ q, nmL x N = some q ∧ q.1 = y) m) (f := id) (g := callV A N m) (xs := vs) fun x hx => al_callV hl (h.2 x hx)
    simpa using this
  | m + 1, .table es, h => by
    refine ⟨_, rfl, by simp [words, Function.comp_def], ?_⟩
    have := All2.map (R := Al A (newB A N) (fun x y => ∃ q, nmL x N = some q ∧ q.1 = y) m) (f := fun e : Tx × Vl => e.2) (g := fun e : Tx × Vl => callV A N m e.2) (xs := es) fun x hx => al_callV hl (h.2 x hx).2
    simpa [vals, Function.comp_def] using this
  | m + 1, .stream es s, h => by
    refine ⟨_, rfl, by simp [words, Function.comp_def], ?_⟩
    have := All2.map (R := Al A (newB A N) (fun x y => ∃ q, nmL x N = some q ∧ q.1 = y) m) (f := fun e : Tx × Vl => e.2) (g := fun e : Tx × Vl => callV A N m e.2) (xs := es) fun x hx => al_callV hl (h.2.1 x hx).2
    simpa [vals, Function.comp_def] using this
  | 0, .row _, h => h.elim
  | 0, .table _, h => h.elim
  | 0, .stream _ _, h => h.elim
theorem newB_alike (hl : A.length ≤ 9) {q q' : Option (Int × Int)} (hq' : (q = none ∧ q' = some (150, 3)) ∨ (∃ z, q = some z ∧ rootV q' = callR A N z.1 z.2)) : Alike A q (newB A N) q' := by
  have nd : (N.map (·.1)).Nodup := by rw [hN.keys]; exact hA.nd
  refine ⟨fun x y => ∃ q, nmL x N = some q ∧ q.1 = y, ?_, ?_, ?_, ?_⟩
  · rintro x y y' ⟨q, e1, rfl⟩ ⟨q2, e2, rfl⟩
    rw [e1] at e2
    cases e2
    rfl
  · rintro x x' y ⟨q, e1, h1⟩ ⟨q2, e2, h2⟩
    have m1 := nmL_mem e1
    have m2 := nmL_mem e2
    have key : ∀ (M : Nms), (M.map (·.2.1)).Nodup → (x, q) ∈ M → (x', q2) ∈ M → x = x' := by
      intro M
      induction M with
      | nil => intro _ h; cases h
      | cons u M ih =>
        intro nd h1' h2'
        rw [List.map_cons, List.nodup_cons] at nd
        rcases List.mem_cons.mp h1' with a | a <;> rcases List.mem_cons.mp h2' with b | b
        · rw [← a] at b
          cases b
          rfl
        · refine absurd (List.mem_map.mpr ⟨_, b, ?_⟩) nd.1
          rw [← a]
          show q2.1 = q.1
          rw [h1, h2]
        · refine absurd (List.mem_map.mpr ⟨_, a, ?_⟩) nd.1
          rw [← b]
          show q.1 = q2.1
          rw [h1, h2]
        · exact ih nd.2 a b
    exact key N hN.new m1 m2
  · rcases hq' with ⟨rfl, rfl⟩ | ⟨z, rfl, e⟩
    · exact al_non.mpr (newB_dead hA hN hl)
    · rw [e]
      exact al_callR hA hN hl 2 z.1 z.2
  · rintro x y ⟨q, e1, rfl⟩
    have hx : x ∈ A.map (·.1) := by
      rw [← hN.keys]
      exact List.mem_map_of_mem (nmL_mem e1)
    obtain ⟨p, hp⟩ := findT_has hx
    exact ⟨p, _, hp, newB_find hA hN hl e1 hp, al_callV hA hN hl (hA.ok _ (findT_mem hp)).2.2⟩
end
end Lw
end
section
set_option linter.all false
set_option autoImplicit false
set_option maxRecDepth 100000
namespace Lw
open Fw Pl
structure NmI (done : Th) (N : Nms) (ls : List Int) : Prop where
  keys : N.map (·.1) = done.map (·.1)
  new : (N.map (·.2.1)).Nodup
  rng : ∀ x ∈ N, (1 ≤ x.2.1 ∧ x.2.1 ≤ 29) ∧ 0 ≤ x.2.2 ∧ x.2.2 ≤ 2
  nd : ls.Nodup
  lr : ∀ x ∈ ls, 1 ≤ x ∧ x ≤ 29
  dis : ∀ x ∈ N, x.2.1 ∉ ls
  len : ls.length + N.length = 29
theorem keys_kvT (A : Th) : (kvT A).map (fun q => keyD q.1) = A.map fun t => .int t.1 := by simp [kvT, keyD]
theorem list29 : ∃ ls : List Int, rangeD 1 29 = ls.map D.int ∧ ls.Nodup ∧ (∀ x ∈ ls, 1 ≤ x ∧ x ≤ 29) ∧ ls.length = 29 := by
  refine ⟨(List.range 29).map fun (i : Nat) => (1 : Int) + i, ?_, by decide +kernel, by decide +kernel, by simp⟩
  simp only [rangeD, List.map_map]
  rfl
theorem NmI.step {done : Th} {N : Nms} {ls : List Int} {t : Int × Int × Vl} {j : Nat} {y z : Int} (I : NmI done N ls) (hy : ls[j]? = some y) (hz : 0 ≤ z ∧ z ≤ 2) : NmI (done ++ [t]) (N ++ [(t.1, y, z)]) (ls.eraseIdx j) := by
  obtain ⟨a, b, c, d⟩ := erase_facts I.nd hy
  have hm := List.mem_of_getElem? hy
  refine ⟨by simp [I.keys], ?_, ?_, a, fun x hx => I.lr x (c x hx), ?_, ?_⟩
  · rw [List.map_append, List.nodup_append]
    refine ⟨I.new, by simp, fun p hp q hq e => ?_⟩
    obtain ⟨x, hx, rfl⟩ := List.mem_map.mp hp
    simp at hq
    exact I.dis x hx (by rw [e, hq]; exact hm)
  · intro x hx
    rcases List.mem_append.mp hx with hx | hx
    · exact I.rng x hx
    · simp at hx
      subst hx
      exact ⟨I.lr y hm, hz⟩
  · intro x hx
    rcases List.mem_append.mp hx with hx | hx
    · exact fun h => I.dis x hx (c _ h)
    · simp at hx
      subst hx
      exact b
  · have := I.len
    simp only [List.length_append, List.length_cons, List.length_nil]
    omega
theorem r_otherwise (F n : Nat) {h : Hh} {r : Nat} {o : O} (hr : h[r]? = some o) (ho : RoomOk o) {A : Th} {q : Option (Int × Int)} (hA : TOk A) (hl : A.length ≤ 8) (hq : QOk q) :
    ∃ (B : Th) (q' : Option (Int × Int)) (o' : O), RoomOk o' ∧ TOk B ∧ QOk q' ∧ Alike A q B q' ∧ run F (n + 5) ix__law_otherwise [.ref r, .dct (kvT A), rootD q] h = .ok (.tup [.dct (kvT B), rootD q']) (h.set r o') := by
  have ll : line = 16777216 := Pl.line_eq
  have x20 : ixn 2 0 = some 0 := rfl
  have x21 : ixn 2 1 = some 1 := rfl
  rw [run__law_otherwise, own_one (np := 3) (by simp) hr ho.closed rfl]
  obtain ⟨ls0, r29, nd0, in0, len0⟩ := list29
  generalize hE : back [r] h (b__law_otherwise (run F (n + 4)) F (startD 7 [.ref 0, .dct (kvT A), rootD q]) [o]) = E
  simp [b__law_otherwise, startD, r29, keys_kvT] at hE
  generalize hR : forL _ _ _ _ = rr at hE
  obtain ⟨σ, h2, rfl, a5, done, rest, N, ls, o2, hx, hAe, rfl, rfl, ho2, I⟩ := for_invLR hR (fun xs σ hh => ∃ (a5 : Option D) (done rest : Th) (N : Nms) (ls : List Int) (o : O), xs = rest.map (fun t => .int t.1) ∧ A = done ++ rest ∧ σ = [some (.ref 0), some (.dct (kvT A)), some (rootD q), some (.ref 1), some (.ref 2), a5, none] ∧ hh = [o, .lst (ls.map D.int), .dct (nmK N)] ∧ RoomOk o ∧ NmI done N ls) (by
    rintro x xs _ _ ⟨a5, done, rest, N, ls, o, hx, hAe, rfl, rfl, ho, I⟩
    cases rest with
    | nil => cases hx
    | cons t rest =>
      simp only [List.map_cons, List.cons.injEq] at hx
      obtain ⟨rfl, rfl⟩ := hx
      have hdl : done.length + rest.length + 1 ≤ 8 := by
        have := congrArg List.length hAe
        simp only [List.length_append, List.length_cons] at this
        omega
      have hNl : N.length = done.length := by have := congrArg List.length I.keys; simpa using this
      have hlen := I.len
      have lr : ∀ o : O, lenD [o, .lst (ls.map D.int), .dct (nmK N)] (.ref 1) = some (.int ls.length) := fun o => by simp [lenD, asSeq]
      obtain ⟨x, o1, ho1, x0, x1, e1⟩ := r_take F (n + 3) (h := [o, .lst (ls.map D.int), .dct (nmK N)]) (r := 0) (m := (ls.length : Int)) rfl ho (by omega) (by omega)
      obtain ⟨j, rfl⟩ : ∃ j : Nat, x = j := ⟨x.toNat, by omega⟩
      obtain ⟨y, hy⟩ : ∃ y, ls[j]? = some y := ⟨ls[j]'(by omega), List.getElem?_eq_getElem (by omega)⟩
      obtain ⟨z, o3, ho3, z0, z1, e3⟩ := r_take F (n + 3) (h := [o1, .lst ((ls.eraseIdx j).map D.int), .dct (nmK N)]) (r := 0) (m := 3) rfl ho1 (by decide) (by decide)
      simp only [Nat.add_assoc, Nat.reduceAdd] at e1 e3
      have hixn : ixn ls.length (j : Int) = some j := by
        simp only [ixn]
        rw [if_pos (by omega), if_pos (by omega)]
        simp
      have isl : ∀ o : O, isLst [o, .lst (ls.map D.int), .dct (nmK N)] (.ref 1) = true := fun o => rfl
      have pp : ∀ o : O, popD [o, .lst (ls.map D.int), .dct (nmK N)] (.ref 1) (.int (j : Int)) = some (.int y, some (1, .lst ((ls.eraseIdx j).map D.int))) := fun o => by
        simp only [popD, List.getElem?_cons_succ, List.getElem?_cons_zero, List.length_map, hixn, Option.bind_some, List.getElem?_map, hy, Option.map_some, map_erase]
      have hnot : t.1 ∉ N.map (·.1) := by
        rw [I.keys]
        intro hm
        have nd := hA.nd
        rw [hAe, List.map_append, List.nodup_append] at nd
        exact nd.2.2 _ hm _ (by simp) rfl
      have hlt : (nmK N).length < 16777216 := by simp [nmK]; omega
      refine ⟨[some (.ref 0), some (.dct (kvT A)), some (rootD q), some (.ref 1), some (.ref 2), some (.int t.1), none], [o3, .lst ((ls.eraseIdx j).map D.int), .dct (nmK (N ++ [(t.1, y, z)]))], ?_, _, done ++ [t], rest, _, _, o3, rfl, by rw [hAe]; simp, rfl, rfl, ho3, I.step hy ⟨z0, by omega⟩⟩
      simp [lr, e1, isl, pp, wr, e3, setIx, key1, hlt, put_nmK hnot]) ⟨none, [], A, [], ls0, o, rfl, rfl, rfl, rfl, ho, ⟨rfl, by simp, by simp, nd0, in0, by simp, by simp [len0]⟩⟩
  clear hR
  obtain rfl : rest = [] := by cases rest with
    | nil => rfl
    | cons _ _ => cases hx
  have hd : done = A := by simpa using hAe.symm
  subst hd
  have hN : NOk done N := ⟨I.keys, I.new, I.rng⟩
  have hNl : N.length = done.length := by have := congrArg List.length I.keys; simpa using this
  have CS := called_spec F hN 2
  have bok := newB_ok hA hN (by omega)
  have ixN : ∀ (hh : Hh) (k : Int) (p : Int × Int), hh[2]? = some (.dct (nmK N)) → nmL k N = some p → index hh (.ref 2) (.int k) = some (.tup [.int p.1, .int p.2]) := fun hh k p e1 e2 => by
    simp [index, asSeq, asDct, e1, look_nmK, e2]
  simp [keys_kvT] at hE
  generalize hR : forL _ _ _ _ = rr at hE
  obtain ⟨σ, h3, rfl, b5, dn, rest, hx2, hAe2, rfl, rfl⟩ := for_invLR hR (fun xs σ hh => ∃ (b5 : Option D) (dn rest : Th), xs = rest.map (fun t => .int t.1) ∧ done = dn ++ rest ∧ σ = [some (.ref 0), some (.dct (kvT done)), some (rootD q), some (.ref 1), some (.ref 2), b5, some (.ref 3)] ∧ hh = [o2, .lst (ls.map D.int), .dct (nmK N), .dct (kvT (dn.map (newT done N)))]) (by
    rintro x xs _ _ ⟨b5, dn, rest, hx, hAe, rfl, rfl⟩
    cases rest with
    | nil => cases hx
    | cons t rest =>
      simp only [List.map_cons, List.cons.injEq] at hx
      obtain ⟨rfl, rfl⟩ := hx
      have htm : t ∈ done := by rw [hAe]; simp
      obtain ⟨p, hp⟩ := nmL_has (N := N) (k := t.1) (by rw [hN.keys]; exact List.mem_map_of_mem htm)
      have lk : look (.inl t.1) (kvT done) = some (.tup [.int t.2.1, t.2.2.d]) := by rw [look_kvT, findT_of hA.nd htm]; rfl
      have e1 := CS n t.2.2 [o2, .lst (ls.map D.int), .dct (nmK N), .dct (kvT (dn.map (newT done N)))] 2 (hA.ok t htm).2.2 rfl
      simp only [Nat.add_assoc, Nat.reduceAdd] at e1
      have i1 := ixN [o2, .lst (ls.map D.int), .dct (nmK N), .dct (kvT (dn.map (newT done N)))] t.1 p rfl hp
      have hnt : newT done N t = (p.1, p.2, callV done N 2 t.2.2) := by simp [newT, hp]
      have hnot : p.1 ∉ (dn.map (newT done N)).map (·.1) := by
        have nd := bok.nd
        have e : done.map (newT done N) = dn.map (newT done N) ++ newT done N t :: rest.map (newT done N) := by
          have := congrArg (List.map (newT done N)) hAe
          rw [List.map_append, List.map_cons] at this
          exact this
        unfold newB at nd
        rw [e, hnt, List.map_append, List.map_append, List.nodup_append] at nd
        have nd1 := nd.1
        rw [List.nodup_append] at nd1
        intro hm
        exact nd1.2.2 _ hm _ (by simp) rfl
      have hlt : (kvT (dn.map (newT done N))).length < 16777216 := by
        have := congrArg List.length hAe
        simp only [List.length_append, List.length_cons] at this
        simp
        omega
      simp at hlt
      refine ⟨[some (.ref 0), some (.dct (kvT done)), some (rootD q), some (.ref 1), some (.ref 2), some (.int t.1), some (.ref 3)], [o2, .lst (ls.map D.int), .dct (nmK N), .dct (kvT ((dn ++ [t]).map (newT done N)))], ?_, _, dn ++ [t], rest, rfl, by rw [hAe]; simp, rfl, rfl⟩
      have hput := put_kvT p.1 p.2 (callV done N 2 t.2.2) (dn.map (newT done N))
      rw [putT_new hnot] at hput
      have hfin : dn.map (newT done N) ++ [(p.1, p.2, callV done N 2 t.2.2)] = (dn ++ [t]).map (newT done N) := by simp [hnt]
      rw [hfin] at hput
      simp [i1, x20, x21, lk, e1, setIx, key1, hlt, hput]) ⟨_, [], done, rfl, rfl, rfl, rfl⟩
  clear hR
  obtain rfl : rest = [] := by cases rest with
    | nil => rfl
    | cons _ _ => cases hx2
  have hd2 : dn = done := by simpa using hAe2.symm
  rw [hd2] at hE
  have hnot : (199 : Int) ∉ (done.map (newT done N)).map (·.1) := by
    rw [new_keys hA hN]
    intro hm
    obtain ⟨x, hx, e⟩ := List.mem_map.mp hm
    have := hN.rng x hx
    omega
  have hlt : done.length < 16777216 := by omega
  have hput := put_kvT 199 0 (.to 199 0) (done.map (newT done N))
  rw [putT_new hnot] at hput
  have hfin : done.map (newT done N) ++ [(199, 0, Vl.to 199 0)] = newB done N := rfl
  rw [hfin] at hput
  simp only [Vl.d] at hput
  cases q with
  | none =>
    refine ⟨newB done N, some (150, 3), o2, ho2, bok, ⟨by decide, by decide⟩, newB_alike hA hN (by omega) (.inl ⟨rfl, rfl⟩), ?_⟩
    have hb := back_td3 (h := h) (hc := []) (r := r) (o1 := .lst (ls.map D.int)) (o2 := .dct (nmK N)) ho2.closed (kvT_cl (newB done N)) (rootD_cl (some (150, 3)))
    rw [← hE]
    simp only [rootD, toD] at hb ⊢
    simp [setIx, key1, hlt, hput, hb]
  | some z =>
    have e1 := CS n (.to z.1 z.2) [o2, .lst (ls.map D.int), .dct (nmK N), .dct (kvT (newB done N))] 2 (fit_leaf (k := 2) hq) rfl
    have hc : callV done N 2 (.to z.1 z.2) = callR done N z.1 z.2 := rfl
    rw [hc] at e1
    obtain ⟨q', hq'⟩ : ∃ q', rootV q' = callR done N z.1 z.2 := by
      unfold callR
      split
      · cases nmL z.1 N with
        | none => exact ⟨none, rfl⟩
        | some p => exact ⟨some p, rfl⟩
      · split
        · exact ⟨none, rfl⟩
        · exact ⟨some (150, 3), rfl⟩
    refine ⟨newB done N, q', o2, ho2, bok, by unfold QOk; rw [hq']; exact callR_fit hN _ _, newB_alike hA hN (by omega) (.inr ⟨z, rfl, hq'⟩), ?_⟩
    have hb := back_td3 (h := h) (hc := []) (r := r) (o1 := .lst (ls.map D.int)) (o2 := .dct (nmK N)) ho2.closed (kvT_cl (newB done N)) (rootD_cl q')
    rw [← hq', rootV_d] at e1
    simp only [Nat.add_assoc, Nat.reduceAdd, Vl.d] at e1
    rw [← hE]
    simp only [rootD, toD] at ⊢
    simp only [wTo] at e1
    simp [setIx, key1, hlt, hput, e1]
    exact hb
end Lw
end
section
set_option linter.all false
set_option autoImplicit false
set_option maxRecDepth 100000
namespace Lw
open Fw Pl
theorem al_refl {A : Th} : ∀ {m : Nat} {v : Vl}, fit m v → Al A A (fun x y => x = y ∧ ∃ p, findT x A = some p) m v v
  | m, .to k e, h => by
    rw [al_to]
    by_cases h : leadB A (k, e) = true
    · exact .inr ⟨h, k, e, rfl, h, rfl, lead_some h⟩
    · have h' : leadB A (k, e) = false := by simpa using h
      exact .inl ⟨h', h'⟩
  | m, .non, h => al_non.mpr trivial
  | m, .int i, h => by cases m <;> rfl
  | m, .str i, h => by cases m <;> rfl
  | m, .name i, h => by cases m <;> rfl
  | m + 1, .row vs, h => by
    refine ⟨_, rfl, ?_⟩
    have := All2.map (R := Al A A (fun x y => x = y ∧ ∃ p, findT x A = some p) m) (f := id) (g := id) (xs := vs) fun x hx => al_refl (h.2 x hx)
    simpa using this
  | m + 1, .table es, h => by
    refine ⟨_, rfl, rfl, ?_⟩
    exact All2.map (R := Al A A (fun x y => x = y ∧ ∃ p, findT x A = some p) m) (f := fun e : Tx × Vl => e.2) (g := fun e : Tx × Vl => e.2) (xs := es) fun x hx => al_refl (h.2 x hx).2
  | m + 1, .stream es s, h => by
    refine ⟨_, rfl, rfl, ?_⟩
    exact All2.map (R := Al A A (fun x y => x = y ∧ ∃ p, findT x A = some p) m) (f := fun e : Tx × Vl => e.2) (g := fun e : Tx × Vl => e.2) (xs := es) fun x hx => al_refl (h.2.1 x hx).2
  | 0, .row _, h => h.elim
  | 0, .table _, h => h.elim
  | 0, .stream _ _, h => h.elim
theorem alike_refl {A : Th} (hA : TOk A) {q : Option (Int × Int)} (hq : QOk q) : Alike A q A q := by
  refine ⟨fun x y => x = y ∧ ∃ p, findT x A = some p, fun x y y' h1 h2 => h1.1.symm.trans h2.1, fun x x' y h1 h2 => h1.1.trans h2.1.symm, al_refl (fit_leaf hq), ?_⟩
  rintro x y ⟨rfl, p, hp⟩
  exact ⟨p, p, hp, hp, al_refl (hA.ok _ (findT_mem hp)).2.2⟩
theorem r_init (F n : Nat) (A : Th) (q : Option (Int × Int)) (h : Hh) : run F (n + 1) ix_Book_init [.dct (kvT A), rootD q, .fn empT] h = .ok (bookD A q (.dct [])) h := by
  rw [run_Book_init]
  have hl : lent [.dct (kvT A), rootD q, .fn empT] h = some ([.dct (kvT A), rootD q, .fn empT], [], []) := by
    simp [lent, lend, lend_cl (rootD_cl q), lend_cl (d := .dct (kvT A)) (by simp), lentO, D.closed]
  simp [make, hl, b_Book_init, startD, dictD, asDct, setFld, putF]
  simp [mkBack, back, tell, frz, mapF, D.map_, mapK_closed, map_closed _ (rootD_cl q), giveBack, frzO, mapK, bookD]
theorem r_initF (F n : Nat) (A : Th) (q : Option (Int × Int)) (h : Hh) : run F (n + 1) ix_Book_init [.dct (kvT A), rootD q, .dct [(.inl 200, .int 3)]] h = .ok (bookD A q (.dct [(.inl 200, .int 3)])) h := by
  rw [run_Book_init]
  have hl : lent [.dct (kvT A), rootD q, .dct [(.inl 200, .int 3)]] h = some ([.dct (kvT A), rootD q, .dct [(.inl 200, .int 3)]], [], []) := by
    simp [lent, lend, lend_cl (rootD_cl q), lend_cl (d := .dct (kvT A)) (by simp), lend_cl (d := .dct [(.inl 200, .int 3)]) (by simp), lentO, D.closed]
  simp [make, hl, b_Book_init, startD, dictD, asDct, setFld, putF]
  simp [mkBack, back, tell, frz, mapF, D.map_, mapK_closed, map_closed _ (rootD_cl q), giveBack, frzO, mapK, bookD]
structure Kp (po : Nat) (H H' : Hh) : Prop where
  room : ∃ o, H'[po]? = some o ∧ RoomOk o
  keep : ∀ i, i ≠ po → H'[i]? = H[i]?
  len : H'.length = H.length
theorem kp_set {po : Nat} {H : Hh} {o o' : O} (h : H[po]? = some o) (ho : RoomOk o') : Kp po H (H.set po o') :=
  ⟨⟨o', List.getElem?_set_self (List.getElem?_eq_some_iff.mp h).1, ho⟩, fun i hi => List.getElem?_set_ne (fun e => hi e.symm), by simp⟩
def itD (B : Th) (q : Option (Int × Int)) : D := .tup [.dct (kvT B), rootD q]
theorem plain_law (ns : List Int) (hl : ns.length ≤ 63) : ∃ h', run 1000000 60 ix_law [.roi ns] [] = .ok (.bl true) h' := by
  have e00 := run_law 1000000 59
  rw [show (59 + 1 : Nat) = 60 from rfl] at e00
  rw [e00]
  have ll : line = 16777216 := Pl.line_eq
  simp [full, b_law, startD]
  rw [if_pos (by omega)]
  simp
  generalize hR : forL _ _ _ _ = rr
  obtain ⟨σ, h2, rfl, -, a, rfl⟩ := for_invLR hR (fun xs σ h => (∀ x ∈ xs, ∃ k : Nat, x = .int k ∧ k ≤ 63) ∧ ∃ a : Fin 11 → Option D, σ = [some (.roi ns), a 0, a 1, a 2, a 3, a 4, a 5, a 6, a 7, a 8, a 9, a 10]) (by
    rintro x xs _ h ⟨hx, a, rfl⟩
    obtain ⟨k, rfl, hk⟩ := hx x List.mem_cons_self
    obtain ⟨o, ho, e1⟩ := r_pool 1000000 58 ns k h hk
    simp only [Nat.reduceAdd] at e1
    simp [e1]
    generalize hR : forL _ _ _ _ = rr
    obtain ⟨σ, h3, rfl, b, rfl, -⟩ := for_invR hR (fun σ hh => ∃ b : Fin 9 → Option D, σ = [some (.roi ns), some (.int k), some (.ref h.length), b 0, b 1, b 2, b 3, b 4, b 5, b 6, b 7, b 8] ∧ ∃ o, hh[h.length]? = some o ∧ RoomOk o) (by
      rintro y _ hh ⟨b, rfl, o, hr, ho⟩
      generalize h.length = po at *
      obtain ⟨A, q, o1, ho1, hA, hA8, _, hq, e1⟩ := r_things 1000000 52 hr ho
      have K1 := kp_set hr ho1
      generalize hh.set po o1 = H1 at e1 K1
      obtain ⟨o1', hr1, ho1'⟩ := K1.room
      have e2 := fun hh => r_init 1000000 58 A q hh
      obtain ⟨B1, q1, o2, ho2, hB1, hq1, al1, e3⟩ := r_otherwise 1000000 54 hr1 ho1' hA hA8 hq
      have K2 := kp_set hr1 ho2
      generalize H1.set po o2 = H2 at e3 K2
      obtain ⟨o2', hr2, ho2'⟩ := K2.room
      obtain ⟨B2, q2, o3, ho3, hB2, hq2, e4⟩ := r_bent 1000000 52 hr2 ho2' hA hq
      have K3 := kp_set hr2 ho3
      generalize H2.set po o3 = H3 at e4 K3
      obtain ⟨o3', hr3, ho3'⟩ := K3.room
      have hpo : po < H3.length := (List.getElem?_eq_some_iff.mp hr3).1
      simp only [Nat.reduceAdd] at e1 e2 e3 e4
      have hr4 : (H3 ++ [Fw.O.lst [itD A q, itD B1 q1, itD B2 q2]])[po]? = some o3' := by rw [List.getElem?_append_left hpo]; exact hr3
      have ha4 : (H3 ++ [Fw.O.lst [itD A q, itD B1 q1, itD B2 q2]])[H3.length]? = some (.lst [itD A q, itD B1 q1, itD B2 q2]) := by simp
      simp [e1, bindGs, bindG, kd_Book_init_root, e2, e3, e4]
      simp only [itD] at hr4 ha4
      generalize (H3 ++ [Fw.O.lst [D.tup [.dct (kvT A), rootD q], .tup [.dct (kvT B1), rootD q1], .tup [.dct (kvT B2), rootD q2]]]) = H4 at hr4 ha4
      obtain ⟨at_, hat⟩ : ∃ at_, H3.length = at_ := ⟨_, rfl⟩
      rw [hat] at ha4 hpo
      have hne : at_ ≠ po := by omega
      obtain ⟨B3, q3, o5, ho5, hB3, _, _, hq3, e5⟩ := r_things 1000000 52 hr4 ho3'
      have K5 := kp_set hr4 ho5
      generalize H4.set po o5 = H5 at e5 K5
      have ha5 := (K5.keep at_ hne).trans ha4
      obtain ⟨o5', hr5, ho5'⟩ := K5.room
      have ap5 : appD H5 (.ref at_) (.tup [.dct (kvT B3), rootD q3]) = some (.non, some (at_, .lst [.tup [.dct (kvT A), rootD q], .tup [.dct (kvT B1), rootD q1], .tup [.dct (kvT B2), rootD q2], .tup [.dct (kvT B3), rootD q3]])) := by simp [appD, ha5]
      have il4 : isLst H4 (.ref at_) = true := by simp [isLst, asLst, ha4]
      have hlt5 := (List.getElem?_eq_some_iff.mp ha5).1
      obtain ⟨H6, hH6⟩ : ∃ H6, H5.set at_ (.lst [.tup [.dct (kvT A), rootD q], .tup [.dct (kvT B1), rootD q1], .tup [.dct (kvT B2), rootD q2], .tup [.dct (kvT B3), rootD q3]]) = H6 := ⟨_, rfl⟩
      have ha6 : H6[at_]? = some (.lst [.tup [.dct (kvT A), rootD q], .tup [.dct (kvT B1), rootD q1], .tup [.dct (kvT B2), rootD q2], .tup [.dct (kvT B3), rootD q3]]) := by rw [← hH6]; exact List.getElem?_set_self hlt5
      have hr6 : H6[po]? = some o5' := by rw [← hH6, List.getElem?_set_ne hne]; exact hr5
      obtain ⟨B4, q4, o7, ho7, hB4, hq4, e7⟩ := r_bent 1000000 52 hr6 ho5' hB1 hq1
      have K7 := kp_set hr6 ho7
      generalize H6.set po o7 = H7 at e7 K7
      have ha7 := (K7.keep at_ hne).trans ha6
      obtain ⟨o7', hr7, ho7'⟩ := K7.room
      have ap7 : appD H7 (.ref at_) (.tup [.dct (kvT B4), rootD q4]) = some (.non, some (at_, .lst [.tup [.dct (kvT A), rootD q], .tup [.dct (kvT B1), rootD q1], .tup [.dct (kvT B2), rootD q2], .tup [.dct (kvT B3), rootD q3], .tup [.dct (kvT B4), rootD q4]])) := by simp [appD, ha7]
      have il6 : isLst H6 (.ref at_) = true := by simp [isLst, asLst, ha6]
      have ix6 : index H6 (.ref at_) (.int 1) = some (.tup [.dct (kvT B1), rootD q1]) := by
        have x41 : ixn 4 1 = some 1 := rfl
        simp [index, asSeq, ha6, x41]
      have hlt7 := (List.getElem?_eq_some_iff.mp ha7).1
      obtain ⟨H8, hH8⟩ : ∃ H8, H7.set at_ (.lst [.tup [.dct (kvT A), rootD q], .tup [.dct (kvT B1), rootD q1], .tup [.dct (kvT B2), rootD q2], .tup [.dct (kvT B3), rootD q3], .tup [.dct (kvT B4), rootD q4]]) = H8 := ⟨_, rfl⟩
      have ha8 : H8[at_]? = some (.lst [.tup [.dct (kvT A), rootD q], .tup [.dct (kvT B1), rootD q1], .tup [.dct (kvT B2), rootD q2], .tup [.dct (kvT B3), rootD q3], .tup [.dct (kvT B4), rootD q4]]) := by rw [← hH8]; exact List.getElem?_set_self hlt7
      have hr8 : H8[po]? = some o7' := by rw [← hH8, List.getElem?_set_ne hne]; exact hr7
      have x20 : ixn 2 0 = some 0 := rfl
      have x21 : ixn 2 1 = some 1 := rfl
      have io8 := isOwn_of ha8
      simp only [Nat.reduceAdd] at e5 e7
      simp [hat, e5, il4, ap5, wr, hH6, il6, ix6, x20, x21, e7, ap7, hH8, io8]
      generalize hR : forLI _ _ _ _ _ _ _ = rr
      obtain ⟨σ, H9, rfl, c8, c9, c10, c11, rfl, rfl⟩ := forI_invR hR (ys := [.tup [.dct (kvT A), rootD q], .tup [.dct (kvT B1), rootD q1], .tup [.dct (kvT B2), rootD q2], .tup [.dct (kvT B3), rootD q3], .tup [.dct (kvT B4), rootD q4]]) (fun i σ hh => ∃ c8 c9 c10 c11, σ = [some (.roi ns), some (.int k), some (.ref po), some y, some (bookD A q (.dct [])), some (.ref at_), some (.dct (kvT A)), some (rootD q), c8, c9, c10, c11] ∧ hh = H8) (by
        rintro i σ hh ⟨_, _, _, _, _, rfl⟩
        exact ha8) (by
        rintro i x σ hh hx ⟨c8, c9, c10, c11, rfl, rfl⟩
        obtain ⟨B, qB, rfl, hB, hqB⟩ : ∃ B qB, x = .tup [.dct (kvT B), rootD qB] ∧ TOk B ∧ QOk qB := by
          have hm := List.mem_of_getElem? hx
          simp only [List.mem_cons, List.not_mem_nil, or_false] at hm
          rcases hm with rfl | rfl | rfl | rfl | rfl
          · exact ⟨A, q, rfl, hA, hq⟩
          · exact ⟨B1, q1, rfl, hB1, hq1⟩
          · exact ⟨B2, q2, rfl, hB2, hq2⟩
          · exact ⟨B3, q3, rfl, hB3, hq3⟩
          · exact ⟨B4, q4, rfl, hB4, hq4⟩
        have f1 := r_initF 1000000 58 B qB hh
        obtain ⟨d, f2, g2⟩ := r_lalike 1000000 54 hA hB hq hqB (by decide) hh
        obtain ⟨d3, f3, g3⟩ := r_read_alike 1000000 46 (X := ⟨A, q, .dct [], B, qB, .dct [(.inl 200, .int 3)]⟩) ⟨hA, hB, rfl, rfl, hq, hqB⟩ (by decide) hh
        obtain ⟨d4, f4, g4⟩ := r_read_alike 1000000 46 (X := ⟨B, qB, .dct [(.inl 200, .int 3)], A, q, .dct []⟩) ⟨hB, hA, rfl, rfl, hqB, hq⟩ (by decide) hh
        dsimp only at f3 g3 f4 g4
        obtain rfl : d3 = d := Bool.eq_iff_iff.mpr (g3.trans g2.symm)
        obtain rfl : d4 = d3 := Bool.eq_iff_iff.mpr (g4.trans (Alike.comm.trans g3.symm))
        have rp := (RF.lst (RFs.cons (RF.bl (b := d4) (k := 1) (by decide)) (RFs.cons (RF.bl (b := d4) (by decide)) RFs.nil))).repr (by decide) (by decide) (by simp) hh
        simp only [Nat.reduceAdd] at f1 f2 f3 f4
        refine ⟨[some (.roi ns), some (.int k), some (.ref po), some y, some (bookD A q (.dct [])), some (.ref at_), some (.dct (kvT A)), some (rootD q), some (.dct (kvT B)), some (rootD qB), some (bookD B qB (.dct [(.inl 200, .int 3)])), some (.bl d4)], hh, ?_, _, _, _, _, rfl, rfl⟩
        simp [itmI, bindGs, bindG, eDisp, dPairs, key1, mergeP, put, kd_Book_init_root_free, f1, f2, f3, f4, rp]) ⟨_, _, _, _, rfl, rfl⟩ (by simp)
      clear hR
      obtain ⟨d5, f5, g5⟩ := r_read_alike 1000000 46 (X := ⟨A, q, .dct [], A, q, .dct []⟩) ⟨hA, hA, rfl, rfl, hq, hq⟩ (by decide) H9
      obtain ⟨d6, f6, g6⟩ := r_read_alike 1000000 46 (X := ⟨A, q, .dct [], B1, q1, .dct []⟩) ⟨hA, hB1, rfl, rfl, hq, hq1⟩ (by decide) H9
      dsimp only at f5 g5 f6 g6
      obtain rfl : d5 = true := g5.mpr (alike_refl hA hq)
      obtain rfl : d6 = true := g6.mpr al1
      have f7 := r_init 1000000 58 B1 q1 H9
      have ix8 : index H9 (.ref at_) (.int 1) = some (.tup [.dct (kvT B1), rootD q1]) := by
        have x51 : ixn 5 1 = some 1 := rfl
        simp [index, asSeq, ha8, x51]
      simp only [Nat.reduceAdd] at f5 f6 f7
      refine ⟨[some (.roi ns), some (.int k), some (.ref po), some y, some (bookD A q (.dct [])), some (.ref at_), some (.dct (kvT A)), some (rootD q), c8, c9, c10, c11], H9, ?_, ⟨fun i => [some y, some (bookD A q (.dct [])), some (.ref at_), some (.dct (kvT A)), some (rootD q), c8, c9, c10, c11].getD i none, rfl⟩, o7', hr8, ho7'⟩
      simp [f5, ix8, x20, x21, kd_Book_init_root, f7, f6]) ⟨fun i => [a 2, a 3, a 4, a 5, a 6, a 7, a 8, a 9, a 10].getD i none, rfl, o, by simp, ho⟩
    clear hR
    refine ⟨_, ⟨h3, rfl⟩, fun y hy => hx y (List.mem_cons_of_mem _ hy), fun i => [some (.int k), some (.ref h.length), b 0, b 1, b 2, b 3, b 4, b 5, b 6, b 7, b 8].getD i none, rfl⟩) ⟨by
      intro x hx
      obtain ⟨i, hi, rfl⟩ := List.mem_map.mp hx
      simp at hi
      exact ⟨i, by simp, by omega⟩, fun _ => none, rfl⟩
  simp [SR.out]
end Lw
end
set_option maxRecDepth 100000 in
theorem PySem.Challenge.cw_appendedbook_k76_books_that_read_alike_holds : PySem.Challenge.rw_appendedbook_k76_books_that_read_alike.Holds :=
  holds76 Lw.plain_law
