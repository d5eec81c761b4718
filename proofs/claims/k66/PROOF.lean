import PyProof.Rows.All
import KE.SortData
import HandS.Head2
import HandS.HeadHook4
import HandS.Ends
import HandS.HeadEnd
import HandS.Defaults
import HandS.Exc
import KE.KExcInit
import HandS.Words
import HandS.HeadHook1
import HandS.HeadHook2
import PySem.Challenge.RW_appendedbook_k66_pages_told
import Wide.All
import OpenK.AllK
import Wide.FinOn
import KE.KStateDown
import HandS.Head0
import HandS.Head1
import HandS.HeadHook3
import HandS.ExcField
import HandS.ForMost
import HandS.TryOnly
import HandS.TryMany
import HandS.IsInst
import HandS.Flow
import HandS.Style
import HandS.Codes
import HandS.FStr
import HandS.Zip
import HandS.Rev
import HandS.Strs
import HandS.TupMul
import HandS.TupAny
import HandS.Conv
import HandS.More
import HandS.SortInts
import HandS.MakeKw
import HandS.ExcOwn
import HandS.MakeKwOnly
import KE.KDictPairs
import HandS.Small
import KE.KRevSl
import PyProof.ReprRoads
import HandS.StrMore
import HandS.RaiseMore
import HandS.CallLocal
import KE.KUnpackStar
import HandS.ExcIs
import KE.KIsAll
import HandS.Text
import HandS.Deep
import HandS.Dict
import PyProof.StrLawsFrom
import HandS.ExcInit
import KE.KExcIs
import KE.KTryMore
import HandS.SetFor
import HandS.DictComp
import PyProof.Rows.SetFrom
import HandS.SortOrd
import HandS.SortRule
import KE.GoesEnum
import HandS.DictEq
import HandS.Finally
import KE.KCallOwn
import HandS.ListItems
import KE.SortKeyHeap
import KE.KItemsList
import HandS.SortKw
import PyProof.ReprBulk
import KE.IntTextLaws
import KE.IntTextText
set_option linter.all false
set_option autoImplicit false
set_option maxRecDepth 100000
section
namespace Fw
abbrev Tx := List Nat
abbrev K1 := Int ⊕ Tx
inductive D where
  | non
  | bl (b : Bool)
  | int (i : Int)
  | str (s : Tx)
  | tup (xs : List D)
  | lst (xs : List D)
  | dct (kvs : List (K1 × D))
  | obj (c : Nat) (fs : List (Nat × D))
  | ref (n : Nat)
  | fn (f : Nat)
  | roi (is : List Int)
  deriving Inhabited
inductive O where
  | lst (xs : List D)
  | ro (xs : List D)
  | dct (kvs : List (K1 × D))
  | ins (c : Nat) (fs : List (Nat × D))
  | dtu (kvs : List (List K1 × D))
  | rod (kvs : List (K1 × D))
abbrev Hh := List O
abbrev Sg := List (Option D)
structure Exn where
  cls : Nat
  fld : Option (Nat × D)
inductive R (α : Type) where
  | ok (a : α) (h : Hh)
  | xn (x : Exn) (h : Hh)
  | bad
namespace R
def bind {α β : Type} (r : R α) (f : α → Hh → R β) : R β := match r with
  | .ok a h => f a h
  | .xn x h => .xn x h
  | .bad => .bad
@[simp] theorem bind_ok {α β : Type} (a : α) (h : Hh) (f : α → Hh → R β) : (R.ok a h).bind f = f a h := (rfl)
@[simp] theorem bind_xn {α β : Type} (x : Exn) (h : Hh) (f : α → Hh → R β) : (R.xn x h : R α).bind f = .xn x h := (rfl)
@[simp] theorem bind_bad {α β : Type} (f : α → Hh → R β) : (R.bad : R α).bind f = .bad := (rfl)
end R
def opt (o : Option D) (h : Hh) : R D := match o with
  | some d => .ok d h
  | none => .bad
@[simp] theorem opt_some (d : D) (h : Hh) : opt (some d) h = .ok d h := (rfl)
@[simp] theorem opt_none (h : Hh) : opt none h = .bad := (rfl)
def line : Nat := 16777216
def asLst (h : Hh) : D → Option (List D)
  | .lst xs => some xs
  | .ref n => match h[n]? with
    | some (.lst xs) => some xs
    | _ => none
  | _ => none
def asSeq (h : Hh) : D → Option (List D)
  | .tup xs => some xs
  | .roi is => some (is.map .int)
  | .lst xs => some xs
  | .ref n => match h[n]? with
    | some (.lst xs) => some xs
    | some (.ro xs) => some xs
    | _ => none
  | _ => none
def asDct (h : Hh) : D → Option (List (K1 × D))
  | .dct kvs => some kvs
  | .ref n => match h[n]? with
    | some (.dct kvs) => some kvs
    | some (.rod kvs) => some kvs
    | _ => none
  | _ => none
def asObj (h : Hh) : D → Option (Nat × List (Nat × D))
  | .obj c fs => some (c, fs)
  | .ref n => match h[n]? with
    | some (.ins c fs) => some (c, fs)
    | _ => none
  | _ => none
def key1 : D → Option K1
  | .int i => some (.inl i)
  | .str s => some (.inr s)
  | _ => none
def unkey : K1 → D
  | .inl i => .int i
  | .inr s => .str s
def tru (h : Hh) : D → Option Bool
  | .non => some false
  | .bl b => some b
  | .int i => some (i != 0)
  | .str s => if s.length ≤ line then some (!s.isEmpty) else none
  | .tup xs => some (!xs.isEmpty)
  | .lst xs => some (!xs.isEmpty)
  | .ref n => match h[n]? with
    | some (.lst xs) => some (!xs.isEmpty)
    | some (.ro xs) => some (!xs.isEmpty)
    | _ => none
  | _ => none
def seen (h : Hh) : Nat → D → Option D
  | _, .ref n => match h[n]? with
    | some (.lst xs) => some (.lst xs)
    | some (.ro xs) => some (.lst xs)
    | some (.dct kvs) => some (.dct kvs)
    | _ => none
  | _, d => some d
mutual
def D.flat : Nat → D → Bool
  | _, .non => true
  | _, .bl _ => true
  | _, .int _ => true
  | _, .str s => s.all (· < 1114112)
  | 0, .tup xs => xs.isEmpty
  | n + 1, .tup xs => flatAll n xs
  | 0, .lst xs => xs.isEmpty
  | n + 1, .lst xs => flatAll n xs
  | _, _ => false
def flatAll : Nat → List D → Bool
  | _, [] => true
  | n, x :: xs => x.flat n && flatAll n xs
end
mutual
def D.eqv : D → D → Bool
  | .non, .non => true
  | .bl a, .bl b => a == b
  | .bl a, .int j => (if a then 1 else 0) == j
  | .int i, .bl b => i == (if b then 1 else 0)
  | .int i, .int j => i == j
  | .str x, .str y => x == y
  | .lst xs, .lst ys => eqvAll xs ys
  | .tup xs, .tup ys => eqvAll xs ys
  | _, _ => false
def eqvAll : List D → List D → Bool
  | [], [] => true
  | x :: xs, y :: ys => x.eqv y && eqvAll xs ys
  | _, _ => false
end
def scalar : D → Bool
  | .non => true
  | .bl _ => true
  | .int _ => true
  | .str _ => true
  | _ => false
def scalPair : D → D → Bool
  | .bl _, .int _ => false
  | .int _, .bl _ => false
  | a, b => scalar a && scalar b
def emptyPair : D → D → Bool
  | .lst [], .lst _ => true
  | .lst _, .lst [] => true
  | .tup [], .tup _ => true
  | .tup _, .tup [] => true
  | _, _ => false
def eqD (h : Hh) (a b : D) : Option Bool :=
  if scalPair a b then some (a.eqv b) else
  match seen h 0 a, seen h 0 b with
  | some a, some b => if emptyPair a b then some (a.eqv b) else if a.flat 60 && b.flat 60 then some (a.eqv b) else none
  | _, _ => none
def D.isNon : D → Bool
  | .non => true
  | _ => false
inductive Bop where
  | add | sub | mul | fdiv | mod | pow
inductive Cop where
  | eq | ne | lt | le | gt | ge | is_ | isnt | in_ | notin
def asInts : List D → Option (List Int)
  | [] => some []
  | .int i :: r => (asInts r).map (i :: ·)
  | _ :: _ => none
def asBools : List D → Option (List Bool)
  | [] => some []
  | .bl b :: r => (asBools r).map (b :: ·)
  | _ :: _ => none
def big : Int := 18446744073709551616
def binop (h : Hh) : Bop → D → D → Option D
  | .add, .int i, .int j => some (.int (i + j))
  | .add, .str x, .str y => if x.length + y.length ≤ line then some (.str (x ++ y)) else none
  | .add, .tup xs, .tup ys => if xs.length + ys.length ≤ line then some (.tup (xs ++ ys)) else none
  | .add, a, b => match asLst h a, asLst h b with
    | some xs, some ys => if xs.length + ys.length ≤ line then some (.lst (xs ++ ys)) else none
    | _, _ => none
  | .sub, .int i, .int j => some (.int (i - j))
  | .mul, .int i, .int j => if (-big < i ∧ i < big) ∨ (-big < j ∧ j < big) then some (.int (i * j)) else none
  | .mul, .str x, .int j => if 0 ≤ j ∧ j ≤ 100000 ∧ x.length * j.toNat ≤ line then some (.str (List.flatten (List.replicate j.toNat x))) else none
  | .mul, .tup xs, .int j => if xs ≠ [] ∧ 2 ≤ j ∧ j ≤ 1000 ∧ xs.length ≤ 1000 then some (.tup (List.flatten (List.replicate j.toNat xs))) else none
  | .mul, .lst xs, .int j => if 0 ≤ j ∧ j ≤ 1000 ∧ xs.length ≤ 1000 then some (.lst (List.flatten (List.replicate j.toNat xs))) else none
  | .fdiv, .int i, .int j => if 0 < j ∧ j < 1073741824 then some (.int (i / j)) else none
  | .mod, .int i, .int j => if 0 < j then some (.int (i % j)) else none
  | .pow, .int i, .int j => if 0 ≤ j ∧ j ≤ 1000000 ∧ i.natAbs < 18446744073709551616 then some (.int (i ^ j.toNat)) else none
  | _, _, _ => none
def isMem (h : Hh) (a b : D) : Option Bool := match asDct h b with
  | some kvs => (key1 a).map fun k => kvs.any fun q => decide (q.1 = k)
  | none => match asSeq h b with
    | some xs => if scalar a && xs.all scalar then some (xs.any fun y => y.eqv a) else none
    | none => none
def cmpop (h : Hh) : Cop → D → D → Option Bool
  | .eq, a, b => eqD h a b
  | .ne, a, b => (eqD h a b).map (!·)
  | .lt, .int i, .int j => some (decide (i < j))
  | .le, .int i, .int j => some (decide (i ≤ j))
  | .gt, .int i, .int j => some (decide (j < i))
  | .ge, .int i, .int j => some (decide (j ≤ i))
  | .lt, .str x, .str y => some (decide (x < y))
  | .le, .str x, .str y => some (!decide (y < x))
  | .is_, a, .non => some a.isNon
  | .isnt, a, .non => some (!a.isNon)
  | .is_, .bl a, .bl b => some (a == b)
  | .isnt, .bl a, .bl b => some (a != b)
  | .in_, .str [c], .str y => some (decide (c ∈ y))
  | .notin, .str [c], .str y => some (!decide (c ∈ y))
  | .in_, a, b => isMem h a b
  | .notin, a, b => (isMem h a b).map (!·)
  | _, _, _ => none
def ixn (n : Nat) (i : Int) : Option Nat := if 0 ≤ i then (if i < n then some i.toNat else none) else if -(n : Int) ≤ i then some (i + n).toNat else none
def look (k : K1) : List (K1 × D) → Option D
  | [] => none
  | (j, d) :: r => if j = k then some d else look k r
def put (k : K1) (d : D) (l : List (K1 × D)) : List (K1 × D) :=
  if l.any fun q => decide (q.1 = k) then l.map fun q => if q.1 = k then (q.1, d) else q else l ++ [(k, d)]
def drop1 (k : K1) (l : List (K1 × D)) : List (K1 × D) := l.filter fun q => decide (q.1 ≠ k)
def index (h : Hh) (a b : D) : Option D := match b with
  | .int i => (match a with
    | .str s => if s.length ≤ line then ((ixn s.length i).bind fun j => s[j]?).map fun c => .str [c] else none
    | _ => match asSeq h a with
      | some xs => (ixn xs.length i).bind fun j => xs[j]?
      | none => (asDct h a).bind fun kvs => look (.inl i) kvs)
  | .str s => (asDct h a).bind fun kvs => look (.inr s) kvs
  | _ => none
def six (n d : Nat) : Option Int → Nat
  | none => d
  | some v => if v < 0 then (v + (n : Int)).toNat else min v.toNat n
def cut {α : Type} (xs : List α) (lo hi : Option Int) : List α := (xs.drop (six xs.length 0 lo)).take (six xs.length xs.length hi - six xs.length 0 lo)
def slice (h : Hh) (a : D) (lo hi : Option Int) : Option D := match a with
  | .str s => if s.length ≤ line then some (.str (cut s lo hi)) else none
  | .tup xs => some (.tup (cut xs lo hi))
  | a => (asLst h a).map fun xs => .lst (cut xs lo hi)
mutual
def D.py : D → PySem.PyData
  | .non => .none
  | .bl b => .bool b
  | .int i => .int i
  | .str s => .str ⟨s.toArray⟩
  | .tup xs => .tuple (pyAll xs)
  | .lst xs => .list (pyAll xs)
  | _ => .none
def pyAll : List D → List PySem.PyData
  | [] => []
  | x :: xs => x.py :: pyAll xs
end
def joinT (sep : Tx) : List Tx → Tx
  | [] => []
  | [x] => x
  | x :: y :: r => x ++ sep ++ joinT sep (y :: r)
def sortT (xs : List Tx) : List Tx := xs.mergeSort fun a b => !decide (b < a)
def sortI (xs : List Int) : List Int := xs.mergeSort fun a b => decide (a ≤ b)
def lenD (h : Hh) (d : D) : Option D := match d with
  | .str s => if s.length ≤ line then some (.int s.length) else none
  | d => match asSeq h d with
    | some xs => some (.int xs.length)
    | none => (asDct h d).map fun kvs => .int kvs.length
def allD (h : Hh) (d : D) : Option D := ((asLst h d).bind asBools).map fun bs => .bl (bs.all id)
def sumD (h : Hh) (d : D) : Option D := ((asLst h d).bind asInts).map fun is => .int is.sum
def intD (_ : Hh) : D → Option D
  | .bl b => some (.int (if b then 1 else 0))
  | .int i => some (.int i)
  | _ => none
def listD (h : Hh) (d : D) : Option D := (asSeq h d).map .lst
def tupleD (h : Hh) (d : D) : Option D := match d with
  | .tup xs => some (.tup xs)
  | d => (asLst h d).map .tup
def empT : Nat := 1000
def dictD (h : Hh) (d : D) : Option D := match d with
  | .fn f => if f = empT then some (.dct []) else none
  | d => (asDct h d).map .dct
def intKeys : List (K1 × D) → Option (List Int)
  | [] => some []
  | (.inl i, _) :: r => (intKeys r).map (i :: ·)
  | _ => none
def textKeys : List (K1 × D) → Option (List Tx)
  | [] => some []
  | (.inr s, _) :: r => (textKeys r).map (s :: ·)
  | _ => none
def sortedK (h : Hh) (d : D) : Option D := (asDct h d).bind fun kvs => if kvs.length < 64 then (match intKeys kvs with
  | some is => some (.lst ((sortI is).map .int))
  | none => (textKeys kvs).map fun ts => .lst ((sortT ts).map .str)) else none
def minD (_ : Hh) : D → D → Option D
  | .int i, .int j => some (.int (if j < i then j else i))
  | _, _ => none
def maxD (_ : Hh) : D → D → Option D
  | .int i, .int j => some (.int (if j > i then j else i))
  | _, _ => none
inductive T1 where
  | non | bl | int | str | tup | lst | dct | own (c : Nat)
  deriving DecidableEq
def ty1 (h : Hh) : D → Option T1
  | .non => some .non
  | .bl _ => some .bl
  | .int _ => some .int
  | .str _ => some .str
  | .tup _ => some .tup
  | .lst _ => some .lst
  | .roi _ => some .lst
  | .dct _ => some .dct
  | .obj c _ => some (.own c)
  | .ref n => match h[n]? with
    | some (.lst _) => some .lst
    | some (.ro _) => some .lst
    | some (.dct _) => some .dct
    | some (.ins c _) => some (.own c)
    | some (.dtu _) => none
    | some (.rod _) => none
    | none => none
  | .fn _ => none
def isT (p : T1 → Option Bool) (h : Hh) (d : D) : Option D := ((ty1 h d).bind p).map .bl
def appD (h : Hh) : D → D → Option (D × Option (Nat × O))
  | .ref n, d => match h[n]? with
    | some (.lst xs) => if xs.length < line then some (.non, some (n, .lst (xs ++ [d]))) else none
    | _ => none
  | _, _ => none
def popD (h : Hh) : D → D → Option (D × Option (Nat × O))
  | .ref n, .int i => match h[n]? with
    | some (.lst xs) => (ixn xs.length i).bind fun j => (xs[j]?).map fun d => (d, some (n, .lst (xs.eraseIdx j)))
    | _ => none
  | _, _ => none
def pop0D (h : Hh) : D → Option (D × Option (Nat × O))
  | .ref n => match h[n]? with
    | some (.lst xs) => (xs[xs.length - 1]?).map fun d => (d, some (n, .lst xs.dropLast))
    | _ => none
  | _ => none
def wr (h : Hh) : Option (Nat × O) → Hh
  | none => h
  | some (n, o) => h.set n o
@[simp] theorem wr_none (h : Hh) : wr h none = h := (rfl)
@[simp] theorem wr_some (h : Hh) (n : Nat) (o : O) : wr h (some (n, o)) = h.set n o := (rfl)
inductive G where
  | nm (i : Nat)
  | tp (gs : List G)
inductive It where
  | e | range | enum | zip | enumx
inductive SR where
  | nx (σ : Sg) (h : Hh)
  | rt (d : D) (h : Hh)
  | bk (σ : Sg) (h : Hh)
  | ct (σ : Sg) (h : Hh)
  | xn (x : Exn) (σ : Sg) (h : Hh)
  | bad
def sget (σ : Sg) (i : Nat) : Option D := match σ[i]? with
  | some (some d) => some d
  | _ => none
def wipe (σ : Sg) : List Nat → Sg
  | [] => σ
  | v :: vs => (wipe σ vs).set v none
mutual
def bindG (σ : Sg) : G → D → Option Sg
  | .nm i, d => some (σ.set i (some d))
  | .tp gs, .tup xs => bindGs σ gs xs
  | .tp gs, .lst xs => bindGs σ gs xs
  | _, _ => none
def bindGs (σ : Sg) : List G → List D → Option Sg
  | [], [] => some σ
  | g :: gs, x :: xs => match bindG σ g x with
    | some σ => bindGs σ gs xs
    | none => none
  | _, _ => none
end
mutual
def G.ix : G → List Nat
  | .nm i => [i]
  | .tp gs => ixs gs
def ixs : List G → List Nat
  | [] => []
  | g :: gs => g.ix ++ ixs gs
end
def rangeD (lo : Int) (n : Nat) : List D := (List.range n).map fun (i : Nat) => .int (lo + (i : Int))
def zipD : List D → List D → List D
  | x :: xs, y :: ys => .tup [x, y] :: zipD xs ys
  | _, _ => []
def zip3D : List D → List D → List D → List D
  | x :: xs, y :: ys, z :: zs => .tup [x, y, z] :: zip3D xs ys zs
  | _, _, _ => []
def enumD (xs : List D) : List D := xs.zipIdx.map fun q => .tup [.int q.2, q.1]
def lim : Int := 4611686018427387904
def walk : It → List D → Option (List D)
  | .e, [.str s] => some (s.map fun c => .str [c])
  | .e, [.lst xs] => some xs
  | .e, [.tup xs] => some xs
  | .range, [.int n] => if -lim ≤ n ∧ n < lim then some (rangeD 0 n.toNat) else none
  | .range, [.int m, .int n] => if -lim ≤ m ∧ m < lim ∧ -lim ≤ n ∧ n < lim then some (rangeD m (n - m).toNat) else none
  | .enum, [.lst xs] => some (enumD xs)
  | .zip, [.lst xs, .lst ys] => some (zipD xs ys)
  | .zip, [.tup xs, .tup ys] => some (zipD xs ys)
  | .zip, [.lst xs, .lst ys, .lst zs] => some (zip3D xs ys zs)
  | .enumx, [.tup xs] => some (enumD xs)
  | .enumx, [.str s] => some (enumD (s.map fun c => .str [c]))
  | _, _ => none
abbrev Call := Nat → List D → Hh → R D
abbrev TM := Sg → Hh → R D
abbrev AM := Sg → Hh → R (List D)
abbrev BM := Sg → Hh → R Bool
abbrev SM := Sg → Hh → SR
def optB (o : Option Bool) (h : Hh) : R Bool := match o with
  | some d => .ok d h
  | none => .bad
@[simp] theorem optB_some (d : Bool) (h : Hh) : optB (some d) h = .ok d h := (rfl)
@[simp] theorem optB_none (h : Hh) : optB none h = .bad := (rfl)
def eC (d : D) : TM := fun _ h => .ok d h
def eV (i : Nat) : TM := fun σ h => opt (sget σ i) h
def aNil : AM := fun _ h => .ok [] h
def aCons (a : TM) (r : AM) : AM := fun σ h => (a σ h).bind fun d h => (r σ h).bind fun ds h => .ok (d :: ds) h
def eTup (as : AM) : TM := fun σ h => (as σ h).bind fun ds h => if ds.length ≤ line then .ok (.tup ds) h else .bad
def eLst (as : AM) : TM := fun σ h => (as σ h).bind fun ds h => if ds.length ≤ line then .ok (.lst ds) h else .bad
def eDct0 : TM := fun _ h => .ok (.dct []) h
def eNewL (as : AM) : TM := fun σ h => (as σ h).bind fun ds h => if ds.length ≤ line then .ok (.ref h.length) (h ++ [.lst ds]) else .bad
def eNewD : TM := fun _ h => .ok (.ref h.length) (h ++ [.dct []])
def eBin (op : Bop) (a b : TM) : TM := fun σ h => (a σ h).bind fun d h => (b σ h).bind fun e h => opt (binop h op d e) h
def eCmp (op : Cop) (a b : TM) : TM := fun σ h => (a σ h).bind fun d h => (b σ h).bind fun e h => opt ((cmpop h op d e).map .bl) h
def eAnd (a b : TM) : TM := fun σ h => (a σ h).bind fun d h => match tru h d with
  | none => .bad
  | some true => b σ h
  | some false => .ok d h
def eNot (a : TM) : TM := fun σ h => (a σ h).bind fun d h => opt ((tru h d).map fun t => .bl (!t)) h
def eCall (c : List D → Hh → R D) (as : AM) : TM := fun σ h => (as σ h).bind fun ds h => c ds h
def eMeth (c : List D → Hh → R D) (cls : Nat) (a : TM) (as : AM) : TM := fun σ h => (a σ h).bind fun d h => match asObj h d with
  | some (k, _) => if k = cls then (as σ h).bind fun ds h => c (d :: ds) h else .bad
  | none => .bad
def eU (f : Hh → D → Option D) (a : TM) : TM := fun σ h => (a σ h).bind fun d h => opt (f h d) h
def eU2 (f : Hh → D → D → Option D) (a b : TM) : TM := fun σ h => (a σ h).bind fun d h => (b σ h).bind fun e h => opt (f h d e) h
def optW (h : Hh) (o : Option (D × Option (Nat × O))) : R D := match o with
  | none => .bad
  | some (r, w) => .ok r (wr h w)
@[simp] theorem optW_some (h : Hh) (r : D) (w : Option (Nat × O)) : optW h (some (r, w)) = .ok r (wr h w) := (rfl)
def eM (k : Hh → D → Bool) (f : Hh → D → D → Option (D × Option (Nat × O))) (a b : TM) : TM := fun σ h => (a σ h).bind fun d h => if k h d then (b σ h).bind fun e h => optW h (f h d e) else .bad
def eM0 (f : Hh → D → Option (D × Option (Nat × O))) (a : TM) : TM := fun σ h => (a σ h).bind fun d h => optW h (f h d)
def isLst (h : Hh) (d : D) : Bool := (asLst h d).isSome
def eIx (a b : TM) : TM := fun σ h => (a σ h).bind fun d h => (b σ h).bind fun e h => opt (index h d e) h
def eFld (cls k : Nat) (a : TM) : TM := fun σ h => (a σ h).bind fun d h => match asObj h d with
  | some (c, fs) => if c = cls then opt (fs.lookup k) h else .bad
  | none => .bad
def eCallK (c : List D → Hh → R D) (g : List D → List D → List D) (as ks : AM) : TM := fun σ h => (as σ h).bind fun ds h => (ks σ h).bind fun es h => c (g ds es) h
def bT (a : TM) : BM := fun σ h => (a σ h).bind fun d h => optB (tru h d) h
def bCmp (op : Cop) (a b : TM) : BM := fun σ h => (a σ h).bind fun d h => (b σ h).bind fun e h => optB (cmpop h op d e) h
def bCh (op op' : Cop) (a b c : TM) : BM := fun σ h => (a σ h).bind fun d h => (b σ h).bind fun e h => match cmpop h op d e with
  | none => .bad
  | some false => .ok false h
  | some true => (c σ h).bind fun f h => optB (cmpop h op' e f) h
def eCh (op op' : Cop) (a b c : TM) : TM := fun σ h => (bCh op op' a b c σ h).bind fun k h => .ok (.bl k) h
def bAnd (a b : BM) : BM := fun σ h => (a σ h).bind fun k h => if k then b σ h else .ok false h
def bOr (a b : BM) : BM := fun σ h => (a σ h).bind fun k h => if k then .ok true h else b σ h
def bNot (a : BM) : BM := fun σ h => (a σ h).bind fun k h => .ok (!k) h
def bYes : BM := fun _ h => .ok true h
def lcL (step : D → Hh → R (Option D)) : List D → List D → Hh → R (List D)
  | [], acc, h => .ok acc h
  | x :: xs, acc, h => (step x h).bind fun o h => match o with
    | none => lcL step xs acc h
    | some d => if acc.length < line then lcL step xs (acc ++ [d]) h else .bad
def noX {α : Type} : R α → R α
  | .xn _ _ => .bad
  | r => r
@[simp] theorem noX_ok {α : Type} (a : α) (h : Hh) : noX (.ok a h) = .ok a h := (rfl)
@[simp] theorem noX_xn {α : Type} (x : Exn) (h : Hh) : noX (.xn x h : R α) = .bad := (rfl)
@[simp] theorem noX_bad {α : Type} : noX (.bad : R α) = .bad := (rfl)
def itM (it : It) (src : AM) : AM := fun σ h => (src σ h).bind fun ds h => match walk it ds with
  | none => .bad
  | some xs => .ok xs h
def lcStep (elt : TM) (g : G) (cond : BM) (own : List Nat) (σ : Sg) (x : D) (h : Hh) : R (Option D) := match bindG (wipe σ own) g x with
  | none => .bad
  | some σ => (cond σ h).bind fun t h => if t then (elt σ h).bind fun d h => .ok (some d) h else .ok none h
def eLc (elt : TM) (g : G) (it : It) (src : AM) (cond : BM) (own : List Nat) : TM := fun σ h => (itM it src σ h).bind fun xs h => (noX (lcL (lcStep elt g cond own σ) xs [] h)).bind fun ys h => .ok (.lst ys) h
def SR.of {α : Type} (σ : Sg) (r : R α) (k : α → Hh → SR) : SR := match r with
  | .ok a h => k a h
  | .xn x h => .xn x σ h
  | .bad => .bad
@[simp] theorem SR.of_ok {α : Type} (σ : Sg) (a : α) (h : Hh) (k : α → Hh → SR) : SR.of σ (.ok a h) k = k a h := (rfl)
@[simp] theorem SR.of_xn {α : Type} (σ : Sg) (x : Exn) (h : Hh) (k : α → Hh → SR) : SR.of σ (.xn x h) k = .xn x σ h := (rfl)
@[simp] theorem SR.of_bad {α : Type} (σ : Sg) (k : α → Hh → SR) : SR.of σ .bad k = .bad := (rfl)
def SR.then_ (r : SR) (k : Sg → Hh → SR) : SR := match r with
  | .nx σ h => k σ h
  | r => r
@[simp] theorem SR.then_nx (σ : Sg) (h : Hh) (k : Sg → Hh → SR) : SR.then_ (.nx σ h) k = k σ h := (rfl)
@[simp] theorem SR.then_rt (d : D) (h : Hh) (k : Sg → Hh → SR) : SR.then_ (.rt d h) k = .rt d h := (rfl)
@[simp] theorem SR.then_bk (σ : Sg) (h : Hh) (k : Sg → Hh → SR) : SR.then_ (.bk σ h) k = .bk σ h := (rfl)
@[simp] theorem SR.then_ct (σ : Sg) (h : Hh) (k : Sg → Hh → SR) : SR.then_ (.ct σ h) k = .ct σ h := (rfl)
@[simp] theorem SR.then_xn (x : Exn) (σ : Sg) (h : Hh) (k : Sg → Hh → SR) : SR.then_ (.xn x σ h) k = .xn x σ h := (rfl)
@[simp] theorem SR.then_bad (k : Sg → Hh → SR) : SR.then_ .bad k = .bad := (rfl)
def sNil : SM := fun σ h => .nx σ h
def sCons (a b : SM) : SM := fun σ h => (a σ h).then_ b
def sSet (i : Nat) (e : TM) : SM := fun σ h => .of σ (e σ h) fun d h => .nx (σ.set i (some d)) h
def sAsg (g : G) (e : TM) : SM := fun σ h => .of σ (e σ h) fun d h => match bindG σ g d with
  | some σ => .nx σ h
  | none => .bad
def setIx (h : Hh) (a b c : D) : Option Hh := match a with
  | .ref n => match h[n]?, b with
    | some (.lst xs), .int i => (ixn xs.length i).map fun j => h.set n (.lst (xs.set j c))
    | some (.dct kvs), b => (key1 b).bind fun k => if kvs.length < line then some (h.set n (.dct (put k c kvs))) else none
    | _, _ => none
  | _ => none
def sSetI (a b c : TM) : SM := fun σ h => .of σ (c σ h) fun v h => .of σ (a σ h) fun o h => .of σ (b σ h) fun i h => match setIx h o i v with
  | some h => .nx σ h
  | none => .bad
def putF (k : Nat) (d : D) : List (Nat × D) → List (Nat × D)
  | [] => [(k, d)]
  | (j, e) :: r => if j = k then (j, d) :: r else (j, e) :: putF k d r
def setFld (h : Hh) (cls k : Nat) (o v : D) : Option Hh := match o with
  | .ref n => match h[n]? with
    | some (.ins c fs) => if c = cls ∧ fs.length < 100 then some (h.set n (.ins c (putF k v fs))) else none
    | _ => none
  | _ => none
def sSetF (cls : Nat) (a : TM) (k : Nat) (c : TM) : SM := fun σ h => .of σ (c σ h) fun v h => .of σ (a σ h) fun o h => match setFld h cls k o v with
  | some h => .nx σ h
  | none => .bad
def sEx (e : TM) : SM := fun σ h => .of σ (e σ h) fun _ h => .nx σ h
def sRet (e : TM) : SM := fun σ h => .of σ (e σ h) fun d h => .rt d h
def sIf (t : BM) (a b : SM) : SM := fun σ h => .of σ (t σ h) fun k h => if k then a σ h else b σ h
def forL (body : D → Sg → Hh → SR) : List D → Sg → Hh → SR
  | [], σ, h => .nx σ h
  | x :: xs, σ, h => match body x σ h with
    | .nx σ h => forL body xs σ h
    | .ct σ h => forL body xs σ h
    | .bk σ h => .nx σ h
    | r => r
def forB (g : G) (b : SM) (x : D) (σ : Sg) (h : Hh) : SR := match bindG σ g x with
  | none => .bad
  | some σ => b σ h
def sFor (g : G) (it : It) (src : AM) (b : SM) : SM := fun σ h => .of σ (itM it src σ h) fun xs h => forL (forB g b) xs σ h
def whL (t : BM) (b : SM) : Nat → Sg → Hh → SR
  | 0, _, _ => .bad
  | n + 1, σ, h => .of σ (t σ h) fun k h => if k then (match b σ h with
    | .nx σ h => whL t b n σ h
    | .ct σ h => whL t b n σ h
    | .bk σ h => .nx σ h
    | r => r) else .nx σ h
def sWh (fuel : Nat) (t : BM) (b : SM) : SM := whL t b fuel
mutual
def D.closed : D → Bool
  | .tup xs => closedAll xs
  | .lst xs => closedAll xs
  | .dct kvs => closedK kvs
  | .obj _ fs => closedF fs
  | .ref _ => false
  | _ => true
def closedAll : List D → Bool
  | [] => true
  | x :: xs => x.closed && closedAll xs
def closedK : List (K1 × D) → Bool
  | [] => true
  | x :: xs => x.2.closed && closedK xs
def closedF : List (Nat × D) → Bool
  | [] => true
  | x :: xs => x.2.closed && closedF xs
end
def O.closed : O → Bool
  | .lst xs => closedAll xs
  | .ro xs => closedAll xs
  | .dct kvs => closedK kvs
  | .ins _ fs => closedF fs
  | .dtu _ => false
  | .rod _ => false
def lend (k : Nat) : List D → Option (List D × List Nat)
  | [] => some ([], [])
  | .ref n :: r => (lend (k + 1) r).map fun q => (.ref k :: q.1, n :: q.2)
  | d :: r => if d.closed then (lend k r).map fun q => (d :: q.1, q.2) else none
def lentO (h : Hh) : List Nat → Option Hh
  | [] => some []
  | n :: r => match h[n]? with
    | some o => if o.closed then (lentO h r).map (o :: ·) else none
    | none => none
mutual
def D.map_ (g : Nat → Option D) : D → Option D
  | .tup xs => (mapAll g xs).map .tup
  | .lst xs => (mapAll g xs).map .lst
  | .dct kvs => (mapK g kvs).map .dct
  | .obj c fs => (mapF g fs).map (.obj c)
  | .ref n => g n
  | d => some d
def mapAll (g : Nat → Option D) : List D → Option (List D)
  | [] => some []
  | x :: xs => (x.map_ g).bind fun y => (mapAll g xs).map (y :: ·)
def mapK (g : Nat → Option D) : List (K1 × D) → Option (List (K1 × D))
  | [] => some []
  | x :: xs => (x.2.map_ g).bind fun y => (mapK g xs).map ((x.1, y) :: ·)
def mapF (g : Nat → Option D) : List (Nat × D) → Option (List (Nat × D))
  | [] => some []
  | x :: xs => (x.2.map_ g).bind fun y => (mapF g xs).map ((x.1, y) :: ·)
end
def frz (h : Hh) (k : Nat) : Nat → Nat → Option D
  | 0, _ => none
  | f + 1, n => if n < k then none else match h[n]? with
    | some (.lst xs) => (mapAll (frz h k f) xs).map .lst
    | some (.dct kvs) => (mapK (frz h k f) kvs).map .dct
    | some (.ins c fs) => (mapF (frz h k f) fs).map (.obj c)
    | _ => none
def frzO (h : Hh) (k : Nat) : O → Option O
  | .lst xs => (mapAll (frz h k 4) xs).map .lst
  | .ro xs => (mapAll (frz h k 4) xs).map .ro
  | .dct kvs => (mapK (frz h k 4) kvs).map .dct
  | .ins c fs => (mapF (frz h k 4) fs).map (.ins c)
  | .dtu _ => none
  | .rod _ => none
def tell (h : Hh) (ns : List Nat) (d : D) : Option D := match d with
  | .ref n => match ns[n]? with
    | some m => some (.ref m)
    | none => frz h ns.length 4 n
  | d => d.map_ (frz h ns.length 4)
def giveBack (hc : Hh) (k : Nat) : List Nat → Nat → Hh → Option Hh
  | [], _, h => some h
  | n :: ns, i, h => match hc[i]? with
    | some o => (frzO hc k o).bind fun o => giveBack hc k ns (i + 1) (h.set n o)
    | none => none
def tellX (h : Hh) (ns : List Nat) (x : Exn) : Option Exn := match x.fld with
  | none => some ⟨x.cls, none⟩
  | some (k, d) => (tell h ns d).map fun d => ⟨x.cls, some (k, d)⟩
def okB (d : Option D) (h : Option Hh) : R D := match d, h with
  | some d, some h => .ok d h
  | _, _ => .bad
@[simp] theorem okB_some (d : D) (h : Hh) : okB (some d) (some h) = .ok d h := (rfl)
def xnB (x : Option Exn) (h : Option Hh) : R D := match x, h with
  | some x, some h => .xn x h
  | _, _ => .bad
@[simp] theorem xnB_some (x : Exn) (h : Hh) : xnB (some x) (some h) = .xn x h := (rfl)
def back (ns : List Nat) (h : Hh) : SR → R D
  | .nx _ hc => okB (some .non) (giveBack hc ns.length ns 0 h)
  | .rt d hc => okB (tell hc ns d) (giveBack hc ns.length ns 0 h)
  | .xn x _ hc => xnB (tellX hc ns x) (giveBack hc ns.length ns 0 h)
  | _ => .bad
def mkBack (ns : List Nat) (h : Hh) : SR → R D
  | .nx _ hc => back ns h (.rt (.ref ns.length) hc)
  | .rt .non hc => back ns h (.rt (.ref ns.length) hc)
  | .xn x σ hc => back ns h (.xn x σ hc)
  | _ => .bad
def startD (N : Nat) (ds : List D) : Sg := ds.map some ++ List.replicate (N - ds.length) none
def lent (ds : List D) (h : Hh) : Option (List D × List Nat × Hh) := match lend 0 ds with
  | none => none
  | some (ds', ns) => if ns.Nodup then match lentO h ns with
    | none => none
    | some hc => some (ds', ns, hc) else none
def own (np N : Nat) (b : SM) (ds : List D) (h : Hh) : R D := if ds.length = np then (match lent ds h with
  | none => .bad
  | some (ds', ns, hc) => back ns h (b (startD N ds') hc)) else .bad
def make (c np N : Nat) (b : SM) (ds : List D) (h : Hh) : R D := if ds.length + 1 = np then (match lent ds h with
  | none => .bad
  | some (ds', ns, hc) => mkBack ns h (b (startD N (.ref ns.length :: ds')) (hc ++ [.ins c []]))) else .bad
def SR.out : SR → R D
  | .nx _ h => .ok .non h
  | .rt d h => .ok d h
  | .xn x _ h => .xn x h
  | _ => .bad
def full (np N : Nat) (b : SM) (ds : List D) (h : Hh) : R D := if ds.length = np then (b (startD N ds) h).out else .bad
end Fw
end
section
set_option Elab.async false
set_option maxHeartbeats 1000000
noncomputable section
namespace Fw
open PySem PySem.Spec PyProof.Rows L2
def toS (t : Tx) : Str := ⟨t.toArray⟩
def kwA (p : Str × Option Str) (x : Str) (K : PySem.W.Frag) : Addr := match K.lookup (He.fAd K p) with
  | some ⟨_, _, .func fd, _⟩ => (match fd.kwdefaults with
    | .ref D => (match PySem.W.nsIn K D x with
      | some (some (.ref a)) => a
      | _ => 0)
    | _ => 0)
  | _ => 0
def kplB (K : PySem.W.Frag) : Bool := K.all fun q => match q.2 with
  | ⟨.type c, d, _, _⟩ => !decide (c = "tuple") || d.isNone
  | _ => true
def strsB : List Value → List Tx → Bool
  | [], [] => true
  | v :: vs, t :: ts => (match v with
    | .str x _ => decide (x = toS t)
    | _ => false) && strsB vs ts
  | _, _ => false
def ktB (K : PySem.W.Frag) (a : Addr) (ts : List Tx) : Bool := match K.lookup a with
  | some ⟨.type c, _, .seq its _, _⟩ => decide (c = "tuple") && decide (its.size ≤ 100) && strsB its.toList ts
  | _ => false
end Fw
end
end
section
set_option Elab.async false
set_option maxHeartbeats 0
namespace Lw
open PySem PySem.Spec PyProof.Rows L2 Fw
def top (i : Nat) : Stmt := PySem.Challenge.pw_appendedbook_k66_pages_told.main.body.getD i (.Pass ⟨0, 0, 0, 0⟩)
def inC (s : Stmt) (j : Nat) : Stmt := match s with
  | .ClassDef _ _ _ b _ _ _ _ _ _ _ => b.getD j (.Pass ⟨0, 0, 0, 0⟩)
  | _ => s
def empA : PySem.W.Frag → Addr := kwA ("Book", some "__init__") "free"
abbrev st0 : Stmt := top 7
def d0 : He.DefD := ⟨("is_whole", none), "is_whole", "is_whole", defArgs st0, defBody st0, defScope st0, [], []⟩
abbrev st1 : Stmt := top 8
def d1 : He.DefD := ⟨("is_from", none), "is_from", "is_from", defArgs st1, defBody st1, defScope st1, [], []⟩
abbrev st2 : Stmt := top 9
def d2 : He.DefD := ⟨("is_number", none), "is_number", "is_number", defArgs st2, defBody st2, defScope st2, [], []⟩
abbrev st3 : Stmt := top 10
def d3 : He.DefD := ⟨("is_edition", none), "is_edition", "is_edition", defArgs st3, defBody st3, defScope st3, [], []⟩
abbrev st4 : Stmt := top 11
def d4 : He.DefD := ⟨("is_reference", none), "is_reference", "is_reference", defArgs st4, defBody st4, defScope st4, [], []⟩
abbrev st5 : Stmt := top 12
def d5 : He.DefD := ⟨("is_kind", none), "is_kind", "is_kind", defArgs st5, defBody st5, defScope st5, [], []⟩
abbrev st6 : Stmt := top 15
def d6 : He.DefD := ⟨("entry_of", none), "entry_of", "entry_of", defArgs st6, defBody st6, defScope st6, [], []⟩
abbrev st7 : Stmt := top 16
def d7 : He.DefD := ⟨("is_table", none), "is_table", "is_table", defArgs st7, defBody st7, defScope st7, [], []⟩
abbrev st8 : Stmt := top 21
def d8 : He.DefD := ⟨("first_node", none), "first_node", "first_node", defArgs st8, defBody st8, defScope st8, [], []⟩
abbrev st9 : Stmt := top 22
def d9 : He.DefD := ⟨("kids_of", none), "kids_of", "kids_of", defArgs st9, defBody st9, defScope st9, [], []⟩
abbrev st10 : Stmt := top 23
def d10 : He.DefD := ⟨("handed", none), "handed", "handed", defArgs st10, defBody st10, defScope st10, [], []⟩
abbrev st11 : Stmt := top 24
def d11 : He.DefD := ⟨("first_of", none), "first_of", "first_of", defArgs st11, defBody st11, defScope st11, [], []⟩
abbrev st12 : Stmt := top 25
def d12 : He.DefD := ⟨("with_own", none), "with_own", "with_own", defArgs st12, defBody st12, defScope st12, [], []⟩
abbrev st13 : Stmt := top 26
def d13 : He.DefD := ⟨("walked", none), "walked", "walked", defArgs st13, defBody st13, defScope st13, [], []⟩
abbrev st14 : Stmt := top 27
def d14 : He.DefD := ⟨("pages", none), "pages", "pages", defArgs st14, defBody st14, defScope st14, [], []⟩
abbrev st15 : Stmt := top 28
def d15 : He.DefD := ⟨("are_counted", none), "are_counted", "are_counted", defArgs st15, defBody st15, defScope st15, [], []⟩
abbrev st16 : Stmt := inC (top 30) 0
def d16 : He.DefD := ⟨("Book", some "__init__"), "__init__", "Book.__init__", defArgs st16, defBody st16, defScope st16, [], [("root", .non), ("free", .adr empA)]⟩
abbrev st17 : Stmt := inC (top 30) 4
def d17 : He.DefD := ⟨("Book", some "root"), "root", "Book.root", defArgs st17, defBody st17, defScope st17, [], []⟩
abbrev st18 : Stmt := inC (top 30) 6
def d18 : He.DefD := ⟨("Book", some "edition"), "edition", "Book.edition", defArgs st18, defBody st18, defScope st18, [], []⟩
abbrev st19 : Stmt := inC (top 30) 8
def d19 : He.DefD := ⟨("Book", some "leads"), "leads", "Book.leads", defArgs st19, defBody st19, defScope st19, [], []⟩
abbrev st20 : Stmt := inC (top 30) 9
def d20 : He.DefD := ⟨("Book", some "at"), "at", "Book.at", defArgs st20, defBody st20, defScope st20, [], []⟩
abbrev st21 : Stmt := top 32
def d21 : He.DefD := ⟨("_law_room", none), "_law_room", "_law_room", defArgs st21, defBody st21, defScope st21, [], []⟩
abbrev st22 : Stmt := top 33
def d22 : He.DefD := ⟨("_law_take", none), "_law_take", "_law_take", defArgs st22, defBody st22, defScope st22, [], []⟩
abbrev st23 : Stmt := top 34
def d23 : He.DefD := ⟨("_law_page_entries", none), "_law_page_entries", "_law_page_entries", defArgs st23, defBody st23, defScope st23, [], []⟩
abbrev st24 : Stmt := top 35
def d24 : He.DefD := ⟨("_law_table_of", none), "_law_table_of", "_law_table_of", defArgs st24, defBody st24, defScope st24, [], []⟩
abbrev st25 : Stmt := top 36
def d25 : He.DefD := ⟨("_law_node", none), "_law_node", "_law_node", defArgs st25, defBody st25, defScope st25, [], []⟩
abbrev st26 : Stmt := top 37
def d26 : He.DefD := ⟨("_law_grown", none), "_law_grown", "_law_grown", defArgs st26, defBody st26, defScope st26, [], []⟩
abbrev st27 : Stmt := top 38
def d27 : He.DefD := ⟨("_law_things", none), "_law_things", "_law_things", defArgs st27, defBody st27, defScope st27, [], []⟩
abbrev st28 : Stmt := top 39
def d28 : He.DefD := ⟨("_law_leaves", none), "_law_leaves", "_law_leaves", defArgs st28, defBody st28, defScope st28, [], []⟩
abbrev st29 : Stmt := top 40
def d29 : He.DefD := ⟨("_law_bent_counts", none), "_law_bent_counts", "_law_bent_counts", defArgs st29, defBody st29, defScope st29, [], []⟩
abbrev st30 : Stmt := top 41
def d30 : He.DefD := ⟨("law", none), "law", "law", defArgs st30, defBody st30, defScope st30, [], []⟩
def ix_is_whole : Nat := 0
def ix_is_from : Nat := 1
def ix_is_number : Nat := 2
def ix_is_edition : Nat := 3
def ix_is_reference : Nat := 4
def ix_is_kind : Nat := 5
def ix_entry_of : Nat := 6
def ix_is_table : Nat := 7
def ix_first_node : Nat := 8
def ix_kids_of : Nat := 9
def ix_handed : Nat := 10
def ix_first_of : Nat := 11
def ix_with_own : Nat := 12
def ix_walked : Nat := 13
def ix_pages : Nat := 14
def ix_are_counted : Nat := 15
def ix_Book_init : Nat := 16
def ix_Book_root : Nat := 17
def ix_Book_edition : Nat := 18
def ix_Book_leads : Nat := 19
def ix_Book_at : Nat := 20
def ix__law_room : Nat := 21
def ix__law_take : Nat := 22
def ix__law_page_entries : Nat := 23
def ix__law_table_of : Nat := 24
def ix__law_node : Nat := 25
def ix__law_grown : Nat := 26
def ix__law_things : Nat := 27
def ix__law_leaves : Nat := 28
def ix__law_bent_counts : Nat := 29
def ix_law : Nat := 30
def faW (K : PySem.W.Frag) (n : Nat) : Addr := match n with
    | _ => empA K
end Lw
end
section
set_option Elab.async false
set_option maxHeartbeats 1000000
noncomputable section
namespace Fw
open PySem PySem.Spec PyProof.Rows L2 He
def asR (lo k : Nat) : List Addr := mainGlobals :: List.range' lo k
def obsR (as : List Addr) (fa : List Fa) (fn : List DefD) (ts : List Tab) (ex : PySem.W.Frag → Bool) (g : Addr → Option Obj) : AlX := (obsT fa fn ts (frT g as), ex (frT g as) && tabsB g [] (frT g as))
theorem saysR_of {as : List Addr} {fa : List Fa} {fn : List DefD} {ts : List Tab} {ex : PySem.W.Frag → Bool} {w : World} {h : Heap} (e : obsR as fa fn ts ex h.get? = valX fn ts w) : SaysX fa fn ts [] ex w h (frT h.get? as) := by
  have e1 : obsT fa fn ts (frT h.get? as) = valT fn ts w := congrArg (fun z : AlX => z.1) e
  have e2 : (ex (frT h.get? as) && tabsB h.get? [] (frT h.get? as)) = true := congrArg (fun z : AlX => z.2) e
  obtain ⟨h1, h2⟩ := ba e2
  exact ⟨e1, h1, fun p hp => (nomatch hp), fun p hp => (nomatch hp), fun p hp => (nomatch hp)⟩
def hookR (as : List Addr) (fa : List Fa) (fn : List DefD) (ts : List Tab) (ex : PySem.W.Frag → Bool) : PySem.W.Hook where
  α := AlX
  obs := fun s => obsR as fa fn ts ex s.heap.get?
  val := fun w => valX fn ts w
  says := fun w h => ∃ K : PySem.W.Frag, K.In h ∧ SaysX fa fn ts [] ex w h K
  of := fun _ _ e => ⟨_, frT_in, saysR_of e⟩
  keeps := fun _ _ _ ⟨K, hK, c⟩ k => ⟨K, PySem.W.Frag.In.keeps hK k, ⟨c.t, c.more, c.hd, c.out, fun p hp => k _ _ (c.empty p hp)⟩⟩
theorem obsR_eq {as : List Addr} {fa : List Fa} {fn : List DefD} {ts : List Tab} {ex : PySem.W.Frag → Bool} {g : Addr → Option Obj} {s : Shared} (h : ∀ a, g a = s.heap.get? a) : obsR as fa fn ts ex g = (hookR as fa fn ts ex).obs s := by
  have e : g = s.heap.get? := funext h
  rw [e] <;> rfl
section
open PySem.W HandSHeadRun
variable {r : OpenRow} {q : Program} {M : Nat} {loose : List PySem.Str} {w : World} {as : List Addr} {fa : List Fa} {fn : List DefD} {ts : List Tab} {ex : PySem.W.Frag → Bool}
end
end Fw
end
section
set_option autoImplicit true
set_option Elab.async false
set_option maxHeartbeats 0
namespace Lw
open PySem PySem.Spec PyProof.Rows L2 Fw
abbrev RwL : PySem.W.OpenRow := PySem.W.OpenLaw.row PySem.Challenge.rw_appendedbook_k66_pages_told
def lawIx : List Stmt → Nat → Nat
  | [], _ => 0
  | .FunctionDef n _ _ _ _ _ _ _ _ _ :: r, i => if n = ("law" : Str) then i else lawIx r (i + 1)
  | _ :: r, i => lawIx r (i + 1)
def ix : Nat := lawIx RwL.prog.main.body 0
def namesOf (ss : List Stmt) : List Str := (ss.filterMap fun s => match s with
  | .FunctionDef n _ _ _ _ _ _ _ _ _ => if n = ("law" : Str) then none else some n
  | .Assign [.Name n _] _ _ => if n = ("__name__" : Str) then none else some n
  | .ClassDef n _ _ _ _ _ _ _ _ _ _ => some n
  | _ => none)
def names : List Str := namesOf RwL.prog.main.body
def fas : List He.Fa := [.glo "Book", .glo "OWN", .glo "_law_bent_counts", .glo "_law_grown", .glo "_law_leaves", .glo "_law_node", .glo "_law_page_entries", .glo "_law_room", .glo "_law_table_of", .glo "_law_take", .glo "_law_things", .glo "are_counted", .glo "entry_of", .glo "first_node", .glo "first_of", .glo "handed", .glo "is_edition", .glo "is_from", .glo "is_kind", .glo "is_number", .glo "is_reference", .glo "is_table", .glo "is_whole", .glo "kids_of", .glo "law", .glo "pages", .glo "walked", .glo "with_own", .free "all", .free "bool", .free "dict", .free "int", .free "isinstance", .free "len", .free "list", .free "max", .free "min", .free "range", .free "repr", .free "sorted", .free "str", .free "sum", .free "tuple", .int "MOST_EDITION" 99, .int "MOST_NUMBER" 200, .str "COUNT" (toS [99, 111, 117, 110, 116]), .str "KIDS" (toS [107, 105, 100, 115]), .cls "Book", .mkr "Book", .noat "Book" "own_free", .noat "Book" "own_root", .noat "Book" "own_things", .meth "Book" "at", .meth "Book" "edition", .meth "Book" "leads", .meth "Book" "root"]
def fns : List He.DefD := [d0, d1, d2, d3, d4, d5, d6, d7, d8, d9, d10, d11, d12, d13, d14, d15, d16, d17, d18, d19, d20, d21, d22, d23, d24, d25, d26, d27, d28, d29, d30]
def tbs : List He.Tab := []
def emB (K : PySem.W.Frag) : Bool := match K.lookup (empA K) with
  | some ⟨.type c, none, .seq its _, _⟩ => decide (c = "tuple") && its.isEmpty
  | _ => false
def exB (K : PySem.W.Frag) : Bool := emB K && kplB K && ktB K (He.ga K "OWN") [[107, 105, 100, 115], [99, 111, 117, 110, 116]] && true
abbrev hAs : List Addr := asR 0 6000
abbrev hk : PySem.W.Hook := hookR hAs fas fns tbs exB
abbrev ob (s : PySem.W.SharedT) : He.AlX := obsR hAs fas fns tbs exB (HandSHeadRun.getT s)
theorem ob_eq (s : PySem.W.SharedT) : ob s = hk.obs s.abs := obsR_eq (HandSHeadRun.getT_eq s)
theorem runEq (w : World) : HandSHeadRun.RunEq RwL (PySem.W.view RwL.prog [ix]) hk ob 6000 names w := by
  intro os
  kernel_rfl
theorem and1 {a b : Bool} (h : (a && b) = true) : a = true := (Bool.and_eq_true a b ▸ h : a = true ∧ b = true).1
theorem and2 {a b : Bool} (h : (a && b) = true) : b = true := (Bool.and_eq_true a b ▸ h : a = true ∧ b = true).2
end Lw
end
section
set_option Elab.async false
set_option maxHeartbeats 1000000
namespace Fw
open PySem PySem.Spec PyProof.Rows L2
structure Wd where
  K : PySem.W.Frag
  fa : Nat → Addr
  ca : Nat → Addr
  an : Nat → Str
  inj : ∀ j k, an j = an k → j = k
  pl : Bool := false
theorem toS_inj {a b : Tx} (h : toS a = toS b) : a = b := by
  have := congrArg (fun s : Str => s.cps.toList) h
  simpa [toS] using this
def keyS : K1 → Key
  | .inl i => .inl i
  | .inr s => .inr (toS s)
theorem keyS_inj {a b : K1} (h : keyS a = keyS b) : a = b := by
  cases a <;> cases b <;> simp [keyS] at h ⊢
  · exact h
  · exact toS_inj h
def KTup (K : PySem.W.Frag) (a : Addr) (vs : List V) : Prop :=
  ∃ (o : Obj) (its : Array Value) (n : Nat), K.lookup a = some o ∧ o.cls = .type "tuple" ∧ o.data = .seq its n ∧ its.size ≤ sizeLine ∧ Vals vs its.toList
def KLst (K : PySem.W.Frag) (a : Addr) (vs : List V) : Prop :=
  ∃ (o : Obj) (its : Array Value) (n : Nat), K.lookup a = some o ∧ o.cls = .type "list" ∧ o.dict = none ∧ o.data = .seq its n ∧ its.size ≤ sizeLine ∧ Vals vs its.toList
def RoI (K : PySem.W.Frag) (Z ρ : List Addr) (H : Hp) (a : Addr) (is : List Int) : Prop := (a ∉ Z ∧ a ∉ ρ ∧ Rd H a (.lst (is.map V.int))) ∨ KLst K a (is.map V.int)
def TupU (W : Wd) (vs : List V) (u : HO) : Prop := (u = .tup vs ∧ W.pl = false) ∨ ∃ o, u = .frz o (.tup vs) ∧ o.dict = none
def TupAt (W : Wd) (H : Hp) (a : Addr) (vs : List V) : Prop := ∃ u, H a = some u ∧ TupU W vs u
theorem TupU.ne {W : Wd} {vs : List V} {u v : HO} (t : TupU W vs u) (h1 : v ≠ .tup vs) (h2 : ∀ o, v ≠ .frz o (.tup vs)) : u ≠ v := by
  rcases t with ⟨rfl, _⟩ | ⟨o, rfl, _⟩
  · exact h1.symm
  · exact (h2 o).symm
theorem TupAt.rd {W : Wd} {H : Hp} {a : Addr} {vs : List V} (t : TupAt W H a vs) : Rd H a (.tup vs) := by
  obtain ⟨u, e, t⟩ := t
  rcases t with ⟨rfl, _⟩ | ⟨o, rfl, _⟩
  · exact .inl e
  · exact .inr ⟨o, e⟩
theorem TupAt.map {W : Wd} {H H' : Hp} {a : Addr} {vs : List V} (t : TupAt W H a vs) (k : ∀ u, H a = some u → H' a = some u) : TupAt W H' a vs := let ⟨u, e, t⟩ := t; ⟨u, k u e, t⟩
theorem TupAt.there {W : Wd} {H : Hp} {a : Addr} {vs : List V} (t : TupAt W H a vs) : H a ≠ none := fun n => by obtain ⟨u, e, _⟩ := t; rw [e] at n; cases n
theorem TupAt.ne {W : Wd} {H : Hp} {a : Addr} {vs : List V} {v : HO} (t : TupAt W H a vs) (e : H a = some v) (h1 : v ≠ .tup vs) (h2 : ∀ o, v ≠ .frz o (.tup vs)) : False := by
  obtain ⟨u, e1, t⟩ := t
  rw [e1] at e
  cases e
  exact t.ne h1 h2 rfl
theorem TupAt.of {W : Wd} {H : Hp} {a : Addr} {vs : List V} (h : W.pl = false) (e : H a = some (.tup vs)) : TupAt W H a vs := ⟨_, e, .inl ⟨rfl, h⟩⟩
theorem TupAt.ofP {W : Wd} {H : Hp} {a : Addr} {vs : List V} {o : Obj} (d : o.dict = none) (e : H a = some (.frz o (.tup vs))) : TupAt W H a vs := ⟨_, e, .inr ⟨o, rfl, d⟩⟩
mutual
inductive RD (W : Wd) (Z ρ : List Addr) (H : Hp) : D → V → Prop
  | non : RD W Z ρ H .non .non
  | bl (b : Bool) : RD W Z ρ H (.bl b) (.bl b)
  | int (i : Int) : RD W Z ρ H (.int i) (.int i)
  | str (s : Tx) : RD W Z ρ H (.str s) (.str (toS s))
  | tup {a : Addr} {ds : List D} {vs : List V} : a ∉ Z → a ∉ ρ → TupAt W H a vs → RDs W Z ρ H ds vs → RD W Z ρ H (.tup ds) (.ref a)
  | tupK {a : Addr} {ds : List D} {vs : List V} : KTup W.K a vs → RDs W Z ρ H ds vs → RD W Z ρ H (.tup ds) (.ref a)
  | lst {a : Addr} {ds : List D} {vs : List V} : a ∉ Z → a ∉ ρ → H a = some (.lst vs) → RDs W Z ρ H ds vs → RD W Z ρ H (.lst ds) (.ref a)
  | dct {a : Addr} {kds : List (K1 × D)} {kvs : List (Key × V)} : a ∉ Z → a ∉ ρ → Rd H a (.dK kvs) → RKs W Z ρ H kds kvs → RD W Z ρ H (.dct kds) (.ref a)
  | obj {a dx : Addr} {c : Nat} {fs : List (Nat × D)} {gs : List (Str × V)} : a ∉ Z → a ∉ ρ → H a = some (.ins (W.ca c) dx gs) → RFs W Z ρ H fs gs → RD W Z ρ H (.obj c fs) (.ref a)
  | ref {a : Addr} {n : Nat} : ρ[n]? = some a → RD W Z ρ H (.ref n) (.ref a)
  | fn (f : Nat) : RD W Z ρ H (.fn f) (.ref (W.fa f))
  | roi {a : Addr} {is : List Int} : RoI W.K Z ρ H a is → RD W Z ρ H (.roi is) (.ref a)
inductive RDs (W : Wd) (Z ρ : List Addr) (H : Hp) : List D → List V → Prop
  | nil : RDs W Z ρ H [] []
  | cons {d : D} {ds : List D} {v : V} {vs : List V} : RD W Z ρ H d v → RDs W Z ρ H ds vs → RDs W Z ρ H (d :: ds) (v :: vs)
inductive RKs (W : Wd) (Z ρ : List Addr) (H : Hp) : List (K1 × D) → List (Key × V) → Prop
  | nil : RKs W Z ρ H [] []
  | cons {k : K1} {d : D} {ds : List (K1 × D)} {v : V} {vs : List (Key × V)} : RD W Z ρ H d v → RKs W Z ρ H ds vs → RKs W Z ρ H ((k, d) :: ds) ((keyS k, v) :: vs)
inductive RFs (W : Wd) (Z ρ : List Addr) (H : Hp) : List (Nat × D) → List (Str × V) → Prop
  | nil : RFs W Z ρ H [] []
  | cons {k : Nat} {d : D} {ds : List (Nat × D)} {v : V} {vs : List (Str × V)} : RD W Z ρ H d v → RFs W Z ρ H ds vs → RFs W Z ρ H ((k, d) :: ds) ((W.an k, v) :: vs)
end
structure Ext (ρ : List Addr) (H : Hp) (ρ' : List Addr) (H' : Hp) : Prop where
  pre : ρ <+: ρ'
  keep : ∀ a o, a ∉ ρ → H a = some o → a ∉ ρ' ∧ H' a = some o
  fz : ∀ a od u, H a = some (.frz od u) → H' a = some (.frz od u)
theorem Ext.refl {ρ : List Addr} {H : Hp} : Ext ρ H ρ H := ⟨List.prefix_rfl, fun _ _ h e => ⟨h, e⟩, fun _ _ _ e => e⟩
theorem Ext.trans {ρ ρ1 ρ2 : List Addr} {H H1 H2 : Hp} (x : Ext ρ H ρ1 H1) (y : Ext ρ1 H1 ρ2 H2) : Ext ρ H ρ2 H2 :=
  ⟨x.pre.trans y.pre, fun a o h e => let ⟨h1, e1⟩ := x.keep a o h e; y.keep a o h1 e1, fun a od u e => y.fz a od u (x.fz a od u e)⟩
theorem Ext.rd {ρ ρ' : List Addr} {H H' : Hp} (x : Ext ρ H ρ' H') {a : Addr} {u : HO} (h : a ∉ ρ) (r : Rd H a u) : a ∉ ρ' ∧ Rd H' a u := by
  rcases r with r | ⟨o, r⟩
  · exact ⟨(x.keep a _ h r).1, .inl (x.keep a _ h r).2⟩
  · exact ⟨(x.keep a _ h r).1, .inr ⟨o, (x.keep a _ h r).2⟩⟩
theorem Ext.tup {W : Wd} {ρ ρ' : List Addr} {H H' : Hp} (x : Ext ρ H ρ' H') {a : Addr} {vs : List V} (h : a ∉ ρ) (r : TupAt W H a vs) : a ∉ ρ' ∧ TupAt W H' a vs :=
  ⟨let ⟨_, e, _⟩ := r; (x.keep a _ h e).1, r.map fun u e => (x.keep a u h e).2⟩
theorem pre_get {ρ ρ' : List Addr} (h : ρ <+: ρ') {n : Nat} {a : Addr} (e : ρ[n]? = some a) : ρ'[n]? = some a := by
  obtain ⟨t, rfl⟩ := h
  rw [List.getElem?_append_left (List.getElem?_eq_some_iff.mp e).1]
  exact e
section
variable {W : Wd} {Z ρ ρ' : List Addr} {H H' : Hp}
mutual
theorem RD.mono (x : Ext ρ H ρ' H') : ∀ {d : D} {v : V}, RD W Z ρ H d v → RD W Z ρ' H' d v
  | _, _, .non => .non
  | _, _, .bl b => .bl b
  | _, _, .int i => .int i
  | _, _, .str s => .str s
  | _, _, .tup z r q t => .tup z (x.tup r q).1 (x.tup r q).2 (RDs.mono x t)
  | _, _, .tupK k t => .tupK k (RDs.mono x t)
  | _, _, .lst z r q t => .lst z (x.keep _ _ r q).1 (x.keep _ _ r q).2 (RDs.mono x t)
  | _, _, .dct z r q t => .dct z (x.rd r q).1 (x.rd r q).2 (RKs.mono x t)
  | _, _, .obj z r q t => .obj z (x.keep _ _ r q).1 (x.keep _ _ r q).2 (RFs.mono x t)
  | _, _, .ref e => .ref (pre_get x.pre e)
  | _, _, .fn f => .fn f
  | _, _, .roi q => .roi (q.elim (fun ⟨z, r, q⟩ => .inl ⟨z, (x.rd r q).1, (x.rd r q).2⟩) .inr)
theorem RDs.mono (x : Ext ρ H ρ' H') : ∀ {ds : List D} {vs : List V}, RDs W Z ρ H ds vs → RDs W Z ρ' H' ds vs
  | _, _, .nil => .nil
  | _, _, .cons r t => .cons (RD.mono x r) (RDs.mono x t)
theorem RKs.mono (x : Ext ρ H ρ' H') : ∀ {ds : List (K1 × D)} {vs : List (Key × V)}, RKs W Z ρ H ds vs → RKs W Z ρ' H' ds vs
  | _, _, .nil => .nil
  | _, _, .cons r t => .cons (RD.mono x r) (RKs.mono x t)
theorem RFs.mono (x : Ext ρ H ρ' H') : ∀ {ds : List (Nat × D)} {vs : List (Str × V)}, RFs W Z ρ H ds vs → RFs W Z ρ' H' ds vs
  | _, _, .nil => .nil
  | _, _, .cons r t => .cons (RD.mono x r) (RFs.mono x t)
end
theorem RDs.length {ds : List D} {vs : List V} (r : RDs W Z ρ H ds vs) : ds.length = vs.length := by
  induction vs generalizing ds with
  | nil => cases r; rfl
  | cons v vs ih =>
    cases r with
    | cons _ t => simp [ih t]
theorem RDs.get {n : Nat} {d : D} : ∀ {ds : List D} {vs : List V}, RDs W Z ρ H ds vs → ds[n]? = some d → ∃ v, vs[n]? = some v ∧ RD W Z ρ H d v := by
  induction n with
  | zero =>
    intro ds vs r e
    cases r with
    | nil => simp at e
    | cons r t => simp at e; subst e; exact ⟨_, rfl, r⟩
  | succ n ih =>
    intro ds vs r e
    cases r with
    | nil => simp at e
    | cons r t => simpa using ih t (by simpa using e)
theorem RDs.append : ∀ {ds es : List D} {vs us : List V}, RDs W Z ρ H ds vs → RDs W Z ρ H es us → RDs W Z ρ H (ds ++ es) (vs ++ us) := by
  intro ds
  induction ds with
  | nil => intro es vs us r t; cases r; exact t
  | cons d ds ih => intro es vs us r t; cases r with | cons r1 r2 => exact .cons r1 (ih r2 t)
theorem RDs.drop : ∀ {n : Nat} {ds : List D} {vs : List V}, RDs W Z ρ H ds vs → RDs W Z ρ H (ds.drop n) (vs.drop n) := by
  intro n
  induction n with
  | zero => intro ds vs r; exact r
  | succ n ih => intro ds vs r; cases r with | nil => exact .nil | cons _ t => exact ih t
theorem RDs.take : ∀ {n : Nat} {ds : List D} {vs : List V}, RDs W Z ρ H ds vs → RDs W Z ρ H (ds.take n) (vs.take n) := by
  intro n
  induction n with
  | zero => intro ds vs r; exact .nil
  | succ n ih => intro ds vs r; cases r with | nil => exact .nil | cons r t => exact .cons r (ih t)
theorem RDs.reverse : ∀ {ds : List D} {vs : List V}, RDs W Z ρ H ds vs → RDs W Z ρ H ds.reverse vs.reverse := by
  intro ds
  induction ds with
  | nil => intro vs r; cases r; exact .nil
  | cons d ds ih => intro vs r; cases r with | cons r t => simpa using (ih t).append (.cons r .nil)
theorem RDs.set {d : D} {v : V} (r : RD W Z ρ H d v) : ∀ {n : Nat} {ds : List D} {vs : List V}, RDs W Z ρ H ds vs → RDs W Z ρ H (ds.set n d) (vs.set n v) := by
  intro n
  induction n with
  | zero => intro ds vs t; cases t with | nil => exact .nil | cons _ t => exact .cons r t
  | succ n ih => intro ds vs t; cases t with | nil => exact .nil | cons q t => exact .cons q (ih t)
end
inductive OR (W : Wd) (Z ρ : List Addr) (H : Hp) (a : Addr) : O → Prop
  | lst {ds : List D} {vs : List V} : H a = some (.lst vs) → RDs W Z ρ H ds vs → OR W Z ρ H a (.lst ds)
  | ro {ds : List D} {vs : List V} : Rd H a (.lst vs) → RDs W Z ρ H ds vs → OR W Z ρ H a (.ro ds)
  | dct {kds : List (K1 × D)} {kvs : List (Key × V)} : H a = some (.dK kvs) → RKs W Z ρ H kds kvs → OR W Z ρ H a (.dct kds)
  | ins {c : Nat} {dx : Addr} {fs : List (Nat × D)} {gs : List (Str × V)} : H a = some (.ins (W.ca c) dx gs) → RFs W Z ρ H fs gs → OR W Z ρ H a (.ins c fs)
  | dtu {kds : List (List K1 × D)} {kvs : List (List Key × V)} : H a = some (.dT kvs) → kvs.map (·.1) = kds.map (fun q => q.1.map keyS) → RDs W Z ρ H (kds.map (·.2)) (kvs.map (·.2)) → OR W Z ρ H a (.dtu kds)
  | rod {od : Obj} {kds : List (K1 × D)} {kvs : List (Key × V)} : H a = some (.frz od (.dK kvs)) → RKs W Z ρ H kds kvs → OR W Z ρ H a (.rod kds)
structure Sim (W : Wd) (Z ρ : List Addr) (h : Hh) (H : Hp) : Prop where
  len : ρ.length = h.length
  nd : ρ.Nodup
  dis : ∀ z ∈ Z, z ∉ ρ ∧ ∃ o, H z = some o
  obj : ∀ (n : Nat) (o : O) (a : Addr), h[n]? = some o → ρ[n]? = some a → OR W Z ρ H a o
section
variable {W : Wd} {Z ρ ρ' : List Addr} {h h' : Hh} {H H' : Hp}
theorem Sim.at_ (S : Sim W Z ρ h H) {n : Nat} {o : O} (e : h[n]? = some o) : ∃ a, ρ[n]? = some a ∧ OR W Z ρ H a o := by
  have hn : n < ρ.length := by rw [S.len]; exact (List.getElem?_eq_some_iff.mp e).1
  exact ⟨ρ[n], by simp [hn], S.obj n o _ e (by simp [hn])⟩
theorem OR.there {a : Addr} {o : O} (r : OR W Z ρ H a o) : ∃ u, H a = some u := by
  cases r with
  | lst e _ => exact ⟨_, e⟩
  | ro e _ =>
    rcases e with e | ⟨_, e⟩
    · exact ⟨_, e⟩
    · exact ⟨_, e⟩
  | dct e _ => exact ⟨_, e⟩
  | ins e _ => exact ⟨_, e⟩
  | dtu e _ _ => exact ⟨_, e⟩
  | rod e _ => exact ⟨_, e⟩
theorem Sim.new (S : Sim W Z ρ h H) {p : Addr} (n : H p = none) : p ∉ Z ∧ p ∉ ρ := by
  refine ⟨fun hz => ?_, fun hp => ?_⟩
  · obtain ⟨_, o, e⟩ := S.dis p hz
    rw [n] at e; cases e
  · obtain ⟨i, hi⟩ := List.mem_iff_getElem?.mp hp
    have hl : i < h.length := by rw [← S.len]; exact (List.getElem?_eq_some_iff.mp hi).1
    obtain ⟨u, e⟩ := (S.obj i h[i] p (by simp [hl]) hi).there
    rw [n] at e; cases e
theorem Ext.laid {p : Addr} {o : HO} (n : H p = none) : Ext ρ H ρ (upd H p o) :=
  ⟨List.prefix_rfl, fun a u h e => ⟨h, by rw [upd_ne (ne_of_none e n)]; exact e⟩, fun a od u e => by rw [upd_ne (ne_of_none e n)]; exact e⟩
theorem OR.laid {p a : Addr} {o : O} {u : HO} (n : H p = none) (r : OR W Z ρ H a o) : OR W Z ρ (upd H p u) a o := by
  have x : Ext ρ H ρ (upd H p u) := Ext.laid n
  cases r with
  | lst e t => exact .lst (by rw [upd_ne (ne_of_none e n)]; exact e) (t.mono x)
  | ro e t =>
    refine .ro ?_ (t.mono x)
    rcases e with e | ⟨ob, e⟩
    · exact .inl (by rw [upd_ne (ne_of_none e n)]; exact e)
    · exact .inr ⟨ob, by rw [upd_ne (ne_of_none e n)]; exact e⟩
  | dct e t => exact .dct (by rw [upd_ne (ne_of_none e n)]; exact e) (t.mono x)
  | ins e t => exact .ins (by rw [upd_ne (ne_of_none e n)]; exact e) (t.mono x)
  | dtu e k t => exact .dtu (by rw [upd_ne (ne_of_none e n)]; exact e) k (t.mono x)
  | rod e t => exact .rod (by rw [upd_ne (ne_of_none e n)]; exact e) (t.mono x)
theorem Sim.laid {p : Addr} {o : HO} (S : Sim W Z ρ h H) (n : H p = none) : Sim W Z ρ h (upd H p o) :=
  ⟨S.len, S.nd, fun z hz => let ⟨h1, u, e⟩ := S.dis z hz; ⟨h1, u, by rw [upd_ne (ne_of_none e n)]; exact e⟩, fun m u a e1 e2 => (S.obj m u a e1 e2).laid n⟩
end
def RX (W : Wd) (Z ρ : List Addr) (H : Hp) (x : Exn) (cls : Value) (dd : Option Addr) : Prop :=
  cls = .ref (W.ca x.cls) ∧ match x.fld with
    | none => dd = none
    | some (k, d) => ∃ a v, dd = some a ∧ H a = some (.xd [(W.an k, v)]) ∧ a ∉ ρ ∧ RD W Z ρ H d v
def Post {α : Type} (W : Wd) (Z ρ : List Addr) (H : Hp) (r : R α) (Q : α → List Addr → Hh → Hp → Prop) (E : XK) : Prop := match r with
  | .ok a h' => ∀ ρ' H', Ext ρ H ρ' H' → Sim W Z ρ' h' H' → Q a ρ' h' H'
  | .xn x h' => ∀ ρ' H' cls dd, Ext ρ H ρ' H' → Sim W Z ρ' h' H' → RX W Z ρ' H' x cls dd → E cls dd H'
  | .bad => False
section
variable {α β : Type} {W : Wd} {Z ρ ρ1 : List Addr} {H H1 : Hp} {r : R α} {Q Q' : α → List Addr → Hh → Hp → Prop} {E : XK}
theorem Post.mono (x : Ext ρ H ρ1 H1) (p : Post W Z ρ H r Q E) : Post W Z ρ1 H1 r Q E := by
  cases r with
  | ok a h => exact fun ρ' H' y S => p ρ' H' (x.trans y) S
  | xn e h => exact fun ρ' H' cls dd y S => p ρ' H' cls dd (x.trans y) S
  | bad => exact p
theorem Post.imp (p : Post W Z ρ H r Q E) (f : ∀ a ρ' h' H', Ext ρ H ρ' H' → Sim W Z ρ' h' H' → Q a ρ' h' H' → Q' a ρ' h' H') : Post W Z ρ H r Q' E := by
  cases r with
  | ok a h => exact fun ρ' H' y S => f _ _ _ _ y S (p ρ' H' y S)
  | xn e h => exact p
  | bad => exact p
theorem Post.bind {k : α → Hh → R β} {Q : β → List Addr → Hh → Hp → Prop} (p : Post W Z ρ H (r.bind k) Q E) : Post W Z ρ H r (fun a ρ1 h1 H1 => Post W Z ρ1 H1 (k a h1) Q E) E := by
  cases r with
  | ok a h => exact fun ρ' H' y S => p.mono y
  | xn e h => exact p
  | bad => exact p
end
structure RSg (W : Wd) (Z ρ : List Addr) (H : Hp) (σd : Sg) (σ : L2.St) : Prop where
  len : σd.length = σ.length
  at_ : ∀ (i : Nat) (d : D), σd[i]? = some (some d) → ∃ v, σ[i]? = some (some v) ∧ RD W Z ρ H d v
theorem RSg.mono {W : Wd} {Z ρ ρ1 : List Addr} {H H1 : Hp} {σd : Sg} {σ : L2.St} (x : Ext ρ H ρ1 H1) (r : RSg W Z ρ H σd σ) : RSg W Z ρ1 H1 σd σ :=
  ⟨r.len, fun i d e => let ⟨v, e1, r1⟩ := r.at_ i d e; ⟨v, e1, r1.mono x⟩⟩
def Ans (W : Wd) (Z ρ : List Addr) (h : Hh) (H : Hp) (r : D) (Q : VK) : Prop := ∀ ρ' H' v, Ext ρ H ρ' H' → Sim W Z ρ' h H' → RD W Z ρ' H' r v → Q v H'
theorem Ans.now {W : Wd} {Z ρ : List Addr} {h : Hh} {H : Hp} {r : D} {Q : VK} (a : Ans W Z ρ h H r Q) (S : Sim W Z ρ h H) {v : V} (rv : RD W Z ρ H r v) : Q v H := a ρ H v Ext.refl S rv
theorem Ans.tup {W : Wd} {Z ρ : List Addr} {h : Hh} {H : Hp} {ds : List D} {vs : List V} {Q : VK} (a : Ans W Z ρ h H (.tup ds) Q) (S : Sim W Z ρ h H) (r : RDs W Z ρ H ds vs) (p : Addr) (n : H p = none) (hpl : W.pl = false := by assumption) : Q (.ref p) (upd H p (.tup vs)) :=
  a ρ _ _ (Ext.laid n) (S.laid n) (.tup (S.new n).1 (S.new n).2 (.of hpl upd_same) (r.mono (Ext.laid n)))
theorem Ans.tupP {W : Wd} {Z ρ : List Addr} {h : Hh} {H : Hp} {ds : List D} {vs : List V} {Q : VK} (a : Ans W Z ρ h H (.tup ds) Q) (S : Sim W Z ρ h H) (r : RDs W Z ρ H ds vs) (p : Addr) (n : H p = none) {o : Obj} (d : o.dict = none) : Q (.ref p) (upd H p (.frz o (.tup vs))) :=
  a ρ _ _ (Ext.laid n) (S.laid n) (.tup (S.new n).1 (S.new n).2 (.ofP d upd_same) (r.mono (Ext.laid n)))
theorem Ans.lst {W : Wd} {Z ρ : List Addr} {h : Hh} {H : Hp} {ds : List D} {vs : List V} {Q : VK} (a : Ans W Z ρ h H (.lst ds) Q) (S : Sim W Z ρ h H) (r : RDs W Z ρ H ds vs) (p : Addr) (n : H p = none) : Q (.ref p) (upd H p (.lst vs)) :=
  a ρ _ _ (Ext.laid n) (S.laid n) (.lst (S.new n).1 (S.new n).2 upd_same (r.mono (Ext.laid n)))
theorem Ans.dct {W : Wd} {Z ρ : List Addr} {h : Hh} {H : Hp} {ds : List (K1 × D)} {vs : List (Key × V)} {Q : VK} (a : Ans W Z ρ h H (.dct ds) Q) (S : Sim W Z ρ h H) (r : RKs W Z ρ H ds vs) (p : Addr) (n : H p = none) : Q (.ref p) (upd H p (.dK vs)) :=
  a ρ _ _ (Ext.laid n) (S.laid n) (.dct (S.new n).1 (S.new n).2 (Rd.of upd_same) (r.mono (Ext.laid n)))
section
variable {W : Wd} {Z ρ : List Addr} {h : Hh} {H : Hp} {d : D} {v : V}
theorem asLst_ok (S : Sim W Z ρ h H) (r : RD W Z ρ H d v) {xs : List D} (e : asLst h d = some xs) : ∃ a vs, v = .ref a ∧ H a = some (.lst vs) ∧ RDs W Z ρ H xs vs := by
  cases r <;> simp only [asLst] at e
  case lst a ds vs z ra q t => cases e; exact ⟨_, _, rfl, q, t⟩
  case ref a n en =>
    cases eo : h[n]? with
    | none => rw [eo] at e; cases e
    | some o =>
      rw [eo] at e
      have q := S.obj n o a eo en
      cases o <;> dsimp only at e <;> cases e
      cases q with | lst q t => exact ⟨_, _, rfl, q, t⟩
  all_goals cases e
theorem asDct_ok (S : Sim W Z ρ h H) (r : RD W Z ρ H d v) {xs : List (K1 × D)} (e : asDct h d = some xs) : ∃ a vs, v = .ref a ∧ Rd H a (.dK vs) ∧ RKs W Z ρ H xs vs := by
  cases r <;> simp only [asDct] at e
  case dct a ds vs z ra q t => cases e; exact ⟨_, _, rfl, q, t⟩
  case ref a n en =>
    cases eo : h[n]? with
    | none => rw [eo] at e; cases e
    | some o =>
      rw [eo] at e
      have q := S.obj n o a eo en
      cases o <;> simp at e
      case dct ys => subst e; cases q with | dct q t => exact ⟨_, _, rfl, .inl q, t⟩
      case rod ys => subst e; cases q with | rod q t => exact ⟨_, _, rfl, .inr ⟨_, q⟩, t⟩
  all_goals cases e
theorem tup_ok {xs : List D} (r : RD W Z ρ H (.tup xs) v) : ∃ a vs, v = .ref a ∧ SqT W.K H a vs ∧ RDs W Z ρ H xs vs := by
  cases r with
  | tup z ra q t => exact ⟨_, _, rfl, .inl q.rd, t⟩
  | tupK k t => exact ⟨_, _, rfl, .inr k, t⟩
theorem rds_ints : ∀ is : List Int, RDs W Z ρ H (is.map .int) (is.map V.int)
  | [] => .nil
  | i :: is => .cons (.int i) (rds_ints is)
theorem RoI.sq {a : Addr} {is : List Int} (q : RoI W.K Z ρ H a is) : SqL W.K H a (is.map V.int) := q.elim (fun ⟨_, _, q⟩ => .inl q) .inr
theorem asSeq_ok (S : Sim W Z ρ h H) (r : RD W Z ρ H d v) {xs : List D} (e : asSeq h d = some xs) : ∃ a vs, v = .ref a ∧ (SqL W.K H a vs ∨ SqT W.K H a vs) ∧ RDs W Z ρ H xs vs := by
  cases r <;> simp only [asSeq] at e
  case tup a ds vs z ra q t => cases e; exact ⟨_, _, rfl, .inr (.inl q.rd), t⟩
  case tupK a ds vs q t => cases e; exact ⟨_, _, rfl, .inr (.inr q), t⟩
  case lst a ds vs z ra q t => cases e; exact ⟨_, _, rfl, .inl (SqL.of q), t⟩
  case roi a is q => cases e; exact ⟨_, _, rfl, .inl q.sq, rds_ints is⟩
  case ref a n en =>
    cases eo : h[n]? with
    | none => rw [eo] at e; cases e
    | some o =>
      rw [eo] at e
      have q := S.obj n o a eo en
      cases o <;> dsimp only at e <;> cases e
      · cases q with | lst q t => exact ⟨_, _, rfl, .inl (SqL.of q), t⟩
      · cases q with | ro q t => exact ⟨_, _, rfl, .inl (.inl q), t⟩
  all_goals cases e
theorem asInts_ok : ∀ {ds : List D} {vs : List V} {is : List Int}, RDs W Z ρ H ds vs → asInts ds = some is → vs = is.map V.int := by
  intro ds
  induction ds with
  | nil => intro vs is r e; cases r; simp [asInts] at e; subst e; rfl
  | cons d ds ih =>
    intro vs is r e
    cases r with
    | cons r t =>
      cases r <;> simp [asInts] at e
      case int i =>
        obtain ⟨js, e1, rfl⟩ := e
        simp [ih t e1]
theorem asBools_ok : ∀ {ds : List D} {vs : List V} {bs : List Bool}, RDs W Z ρ H ds vs → asBools ds = some bs → vs = bs.map V.bl := by
  intro ds
  induction ds with
  | nil => intro vs is r e; cases r; simp [asBools] at e; subst e; rfl
  | cons d ds ih =>
    intro vs is r e
    cases r with
    | cons r t =>
      cases r <;> simp [asBools] at e
      case bl i =>
        obtain ⟨js, e1, rfl⟩ := e
        simp [ih t e1]
end
section
variable {W : Wd} {Z ρ : List Addr} {h : Hh} {H : Hp} {d : D} {v : V}
theorem RKs.len {ds : List (K1 × D)} {vs : List (Key × V)} (r : RKs W Z ρ H ds vs) : ds.length = vs.length := by
  induction vs generalizing ds with
  | nil => cases r; rfl
  | cons v vs ih => cases r with | cons _ t => simp [ih t]
theorem isEmpty_eq {α β : Type} {xs : List α} {ys : List β} (e : xs.length = ys.length) : xs.isEmpty = ys.isEmpty := by
  cases xs <;> cases ys <;> simp_all
theorem tru_ok (S : Sim W Z ρ h H) (r : RD W Z ρ H d v) {t : Bool} (e : tru h d = some t) : L2.TruV W.K v H t := by
  cases r <;> simp only [tru] at e
  case non => cases e; rfl
  case bl b => cases e; rfl
  case int i => cases e; rfl
  case str s =>
    split at e
    · cases e
      rename_i hl
      refine ⟨by simpa [toS, Str.length, sizeLine_eq, line] using hl, ?_⟩
      cases s <;> simp [toS, Str.length]
      omega
    · cases e
  case tup a ds vs z ra q t =>
    cases e
    exact .inr (.inl ⟨vs, .inl q.rd, by rw [isEmpty_eq t.length]⟩)
  case tupK a ds vs q t =>
    cases e
    exact .inr (.inl ⟨vs, .inr q, by rw [isEmpty_eq t.length]⟩)
  case lst a ds vs z ra q t =>
    cases e
    exact .inl ⟨vs, SqL.of q, by rw [isEmpty_eq t.length]⟩
  case ref a n en =>
    cases eo : h[n]? with
    | none => rw [eo] at e; cases e
    | some o =>
      rw [eo] at e
      have q := S.obj n o a eo en
      cases o <;> dsimp only at e <;> cases e
      case some.lst.refl ys => cases q with | lst q t => exact .inl ⟨_, SqL.of q, by rw [isEmpty_eq t.length]⟩
      case some.ro.refl ys => cases q with | ro q t => exact .inl ⟨_, .inl q, by rw [isEmpty_eq t.length]⟩
  all_goals cases e
end
end Fw
end
section
set_option Elab.async false
set_option maxHeartbeats 1000000
namespace Fw
open PySem PySem.Spec PyProof.Rows L2
section
variable {X : Cx}
def TupQ (H : Hp) (xs : List V) (Q : VK) : Prop := ∀ p, H p = none → ∀ o : Obj, o.dict = none → Q (.ref p) (upd H p (.frz o (.tup xs)))
theorem tup_lay {pins : List (Addr × Obj)} {σ : L2.St} {H : Hp} {s : Shared} (I : Inv X pins σ H s) {xs : List V} {us : List Value} {n : Nat} (r : Vals xs us) (hz : xs.length ≤ sizeLine) (E : Value → Shared → Prop) {Q : VK} (q : TupQ H xs Q) (t' : Nat) :
    EP X pins σ Q (.ref s.heap.objs.size) { s with heap := s.heap.push { cls := .type "tuple", data := .seq us.toArray n }, toks := t' } :=
  ⟨.ref s.heap.objs.size, _, I.laid (t' := t') (o := .frz { cls := .type "tuple", data := .seq us.toArray n } (.tup xs)) (fun b ob q => Heap.get?_push_of_some _ q) (Nat.le_refl _) ⟨Heap.get?_push_size _ rfl, hz, us, r, ⟨_, Heap.get?_push_size _ rfl, rfl, n, rfl⟩⟩, rfl, q _ (I.hok.fresh (Nat.le_refl _)) _ rfl⟩
def rCatP (K : PySem.W.Frag) : R2 := fun x y H Q => ∃ a b xs ys, x = .ref a ∧ y = .ref b ∧ SqT K H a xs ∧ SqT K H b ys ∧ xs.length + ys.length ≤ sizeLine ∧
  (xs = [] → Q (.ref b) H) ∧ (xs ≠ [] → ys = [] → Q (.ref a) H) ∧ (xs ≠ [] → ys ≠ [] → TupQ H (xs ++ ys) Q)
theorem op_catP : OpR X (binaryOp .Add) (rCatP X.K) := by
  intro pins s σ H x y v u Q I rx ry h
  obtain ⟨a, b, xs, ys, rfl, rfl, ha, hb, hz, q0, q1, q2⟩ := h
  by_cases hx : xs = []
  · subst hx
    exact op_catA pins s σ H _ _ v u Q I rx ry ⟨a, b, [], ys, rfl, rfl, ha, hb, hz, q0, fun z => absurd rfl z, fun z => absurd rfl z⟩
  cases rx
  cases ry
  obtain ⟨its, r1, p1, _⟩ := I.tuple ha
  obtain ⟨its2, r2, p2, _⟩ := I.tuple hb
  refine HT.cat_tup p1 p2 (fun z => hx (r1.nil_iff.mp z)) (fun z => ⟨.ref a, H, I, rfl, q1 hx (r2.nil_iff.mp z)⟩) (fun z => ?_) (by rw [← r1.length, ← r2.length]; exact hz)
  exact tup_lay I (r1.append r2) (by rw [List.length_append]; exact hz) X.xe (q2 hx (fun w => z (r2.nil_iff.mpr w))) _
theorem call_tupleP : CallR X (.type "tuple") (fun xs H Q => ∃ p ys, xs = [.ref p] ∧ ((SqL X.K H p ys ∧ TupQ H ys Q) ∨ (SqT X.K H p ys ∧ Q (.ref p) H))) := by
  intro pins s σ H xs us Q I r h
  obtain ⟨p, ys, rfl, h⟩ := h
  rcases h with ⟨hq, q⟩ | h
  · obtain ⟨u, rfl, rx⟩ := vals1 r
    cases rx
    obtain ⟨its, r', pl, hz⟩ := I.list hq
    have hlen := r'.length
    refine call_tuple_list pl.isList (fun h' kp => ?_) (by simp only [List.size_toArray] <;> omega)
    have I1 : Inv X pins σ H { s with heap := h' } := I.kept (t' := s.toks) kp
    exact tup_lay I1 r' hz X.xe q s.toks
  · exact call_tuple_of pins s σ H _ us Q I r ⟨p, ys, rfl, .inr h⟩
def rRepP (K : PySem.W.Frag) : R2 := fun x y H Q => ∃ l k xs, x = .ref l ∧ y = .int k ∧ SqT K H l xs ∧ xs ≠ [] ∧ 2 ≤ k ∧ k ≤ 1000 ∧ xs.length ≤ 1000 ∧ TupQ H (List.replicate k.toNat xs).flatten Q
theorem op_repP : OpR X (binaryOp .Mult) (rRepP X.K) := by
  intro pins s σ H x y v u Q I rx ry h
  obtain ⟨l, k, xs, rfl, rfl, hT, hne, h1, h2, hz, qq⟩ := h
  cases rx
  obtain ⟨t, rfl⟩ := ry
  obtain ⟨its, r, ⟨⟨cls, dd, data, sl⟩, ho, hc, n, hd⟩, hs⟩ := I.tuple hT
  simp only at hc hd
  subst hc hd
  have hle : its.length = xs.length := r.length.symm
  have hn : its ≠ [] := fun e => hne (by
    rw [e] at hle
    exact List.eq_nil_of_length_eq_zero hle.symm)
  have hi : its.toArray.isEmpty = false := by
    cases its with
    | nil => exact absurd rfl hn
    | cons a b => rfl
  have hsz0 : its.toArray.size = xs.length := by rw [List.size_toArray, hle]
  have hm : ((its.toArray.size : Nat) : Int) * k ≤ 1000000 := by
    rw [hsz0]
    have a1 : ((xs.length : Nat) : Int) * k ≤ 1000 * k := Int.mul_le_mul_of_nonneg_right (by omega) (by omega)
    omega
  have flen : (List.replicate k.toNat its).flatten.length ≤ sizeLine := by
    rw [PyProof.Rows.lm_len_rep_flat, hle, sizeLine_eq]
    have a1 : k.toNat * xs.length ≤ 1000 * 1000 := Nat.mul_le_mul (by omega) hz
    omega
  have c0 : (decide (k < -(2 ^ 63)) || decide (k ≥ 2 ^ 63)) = false := by
    rw [decide_eq_false (by omega), decide_eq_false (by omega)] <;> rfl
  have c1 : (its.toArray.isEmpty || k == 1) = false := by
    rw [hi, Bool.false_or]
    exact beq_eq_false_iff_ne.mpr (by omega)
  have c2 : (decide (k ≤ 0) || its.toArray.isEmpty) = false := by
    rw [hi, Bool.or_false]
    exact decide_eq_false (by omega)
  have c4 : Builtin.Tuple.tupleTooMany (((its.toArray.size : Nat) : Int) * k) = false := by
    unfold Builtin.Tuple.tupleTooMany
    rw [sizeLine_eq]
    exact decide_eq_false (by omega)
  refine wpAny_binaryOp_repeat_ref (T := "tuple") (U := "int") (by decide) ⟨_, ho, rfl⟩ (fun s' => typeIs_int s' k t) noFill_tuple_mul F.fills_int_mul F.slot_int_rmul repeat_tuple F.slot_int_index.lookup
    (call_meets F.slot_int_rmul (typeIs_int s k t) F.entry_int_rmul (F.args_int_rmul_2 _ _) (int_rmul_tuple k t l its.toArray n dd sl)
      ⟨ho, rfl, ⟨_, ho, rfl⟩, call_meets F.slot_tuple_mul ⟨_, ho, rfl⟩ F.entry_tuple_mul (F.args_tuple_mul_2 _ _) (tuple_mulW l its.toArray n dd sl k t c0 c1 c2 (by omega) c4 (by rw [size_rep, List.size_toArray]; exact flen)) ⟨ho, ?_⟩⟩)
  rw [size_rep]
  exact tup_lay I (r.rep k.toNat) (by rw [PyProof.Rows.lm_len_rep_flat, sizeLine_eq]; have a1 : k.toNat * xs.length ≤ 1000 * 1000 := Nat.mul_le_mul (by omega) hz; omega) X.xe qq _
end
section
variable {X : Cx} {es : List Expr} {t : TA} {pos : Pos}
def tTupP (t : TA) : TE := fun σ H Q => t σ H fun xs H1 => xs.length ≤ sizeLine ∧ TupQ H1 xs Q
theorem pe_tupP {x1} (h : PA X es t) : PE X (.Tuple es x1 pos) (tTupP t) := by
  refine ⟨fun pins s σ H Q I hq => wpAny_Tuple_spliced (thn (h.run pos pins s σ H _ I hq) fun us s1 ⟨xs, H1, I1, r, z, q⟩ => ⟨by rw [← r.length]; exact z, ?_⟩)⟩
  exact tup_lay I1 r z X.xe q s1.toks
end
end Fw
end
section
set_option Elab.async false
set_option maxHeartbeats 1000000
namespace Fw
open PySem PySem.Spec PyProof.Rows L2
theorem toS_len (t : Tx) : (toS t).length = t.length := by simp [toS, Str.length]
theorem toS_cat (a b : Tx) : toS a ++ toS b = toS (a ++ b) := by
  show Str.append _ _ = _
  simp [toS, Str.append]
theorem toS_list (t : Tx) : (toS t).cps.toList = t := by simp [toS]
theorem toS_of (s : Str) : toS s.cps.toList = s := by cases s; simp [toS]
theorem line_eq : line = sizeLine := by rw [sizeLine_eq]; rfl
def copOf : Cop → CmpOp
  | .eq => .Eq | .ne => .NotEq | .lt => .Lt | .le => .LtE | .gt => .Gt | .ge => .GtE | .is_ => .Is | .isnt => .IsNot | .in_ => .In | .notin => .NotIn
def bopOf : Bop → Operator
  | .add => .Add | .sub => .Sub | .mul => .Mult | .fdiv => .FloorDiv | .mod => .Mod | .pow => .Pow
def r2 (W : Wd) (f : Hh → D → D → Option D) : R2 := fun x y H Q => ∃ Z ρ h d e r, Sim W Z ρ h H ∧ RD W Z ρ H d x ∧ RD W Z ρ H e y ∧ f h d e = some r ∧ Fw.Ans W Z ρ h H r Q
section
variable {X : Cx} {W : Wd}
theorem mul_text {x : Tx} {j : Int} (h0 : 0 ≤ j) (h1 : j ≤ 100000) (h2 : x.length * j.toNat ≤ line) : MulOk (toS x) j ∧ Txt.mul (toS x) j = toS (List.replicate j.toNat x).flatten := by
  have hn : ((j.toNat : Nat) : Int) = j := Int.toNat_of_nonneg h0
  refine ⟨⟨?_, fun h3 _ => ?_, fun _ _ => ?_⟩, ?_⟩
  · simp only [Bool.or_eq_false_iff, decide_eq_false_iff_not]
    omega
  · rw [toS_len]
    intro hgt
    have hj : 0 < j := by omega
    refine absurd hgt (Int.not_lt.mpr ?_)
    rw [Int.le_ediv_iff_mul_le hj]
    have h4 : ((x.length * j.toNat : Nat) : Int) ≤ (line : Int) := by exact_mod_cast h2
    rw [Int.natCast_mul, hn] at h4
    have : (line : Int) ≤ 2 ^ 63 - 1 := by decide
    omega
  · rw [toS_len]
    simp only [Builtin.Str.tooLong, decide_eq_false_iff_not, ← line_eq]
    omega
  · unfold Txt.mul
    by_cases h3 : j < 1
    · rw [if_pos h3]
      have : j.toNat = 0 := by omega
      rw [this]
      rfl
    · rw [if_neg h3]
      have fold : ∀ (n : Nat) (a : Array Nat), ((List.replicate n (toS x).cps).foldl (· ++ ·) a).toList = a.toList ++ (List.replicate n x).flatten := by
        intro n
        induction n with
        | zero => intro a; simp
        | succ n ih => intro a; rw [List.replicate_succ, List.foldl_cons, ih]; simp [List.replicate_succ, toS]
      split
      · rename_i hc
        simp only [Bool.or_eq_true, beq_iff_eq] at hc
        rcases hc with hc | hc
        · subst hc; simp
        · have : x = [] := by rw [toS_len] at hc; exact List.length_eq_zero_iff.mp hc
          subst this
          simp
      · show (⟨_⟩ : Str) = ⟨_⟩
        congr 1
        apply Array.toList_inj.mp
        rw [fold]
        simp
theorem op_bin (hK : X.K = W.K) (op : Bop) : OpR X (binaryOp (bopOf op)) (r2 W fun h => binop h op) := by
  intro pins s σ H x y v u Q I rx ry hq
  obtain ⟨Z, ρ, h, d, e, r, S, rd, re, hf, hA⟩ := hq
  cases op
  case add =>
    show wpAny _ _ (binaryOp .Add v u) _ _ s
    by_cases hi : ∃ i j, d = .int i ∧ e = .int j
    · obtain ⟨i, j, rfl, rfl⟩ := hi
      cases rd; cases re
      simp only [binop] at hf
      cases hf
      exact op_add pins s σ H _ _ v u Q I rx ry ⟨i, j, rfl, rfl, hA.now S (.int _)⟩
    by_cases hs : ∃ i j, d = .str i ∧ e = .str j
    · obtain ⟨i, j, rfl, rfl⟩ := hs
      cases rd; cases re
      simp only [binop] at hf
      split at hf
      · cases hf
        rename_i hl
        exact op_add_str pins s σ H _ _ v u Q I rx ry ⟨_, _, rfl, rfl, by rw [toS_len, toS_len, ← line_eq]; exact hl, by rw [toS_cat]; exact hA.now S (.str _)⟩
      · cases hf
    by_cases ht : ∃ i j, d = .tup i ∧ e = .tup j
    · obtain ⟨ds, es, rfl, rfl⟩ := ht
      simp only [binop] at hf
      split at hf
      · cases hf
        rename_i hl
        obtain ⟨a, vs, rfl, qa, ra⟩ := tup_ok rd
        obtain ⟨b, us, rfl, qb, rb⟩ := tup_ok re
        refine op_catP pins s σ H _ _ v u Q I rx ry ⟨a, b, vs, us, rfl, rfl, hK ▸ qa, hK ▸ qb, by rw [← ra.length, ← rb.length, ← line_eq]; exact hl, fun e0 => ?_, fun _ e0 => ?_, fun _ _ p n o hd => ?_⟩
        · subst e0
          cases ra
          exact hA.now S re
        · subst e0
          cases rb
          rw [List.append_nil] at hA
          exact hA.now S rd
        · exact hA.tupP S (ra.append rb) p n hd
      · cases hf
    · have hf' : (match asLst h d, asLst h e with
        | some xs, some ys => if xs.length + ys.length ≤ line then some (D.lst (xs ++ ys)) else none
        | _, _ => none) = some r := by
        rw [← hf]
        cases d <;> cases e <;> first
          | rfl
          | exact absurd ⟨_, _, rfl, rfl⟩ hi
          | exact absurd ⟨_, _, rfl, rfl⟩ hs
          | exact absurd ⟨_, _, rfl, rfl⟩ ht
      cases e1 : asLst h d with
      | none => rw [e1] at hf'; cases hf'
      | some xs =>
        cases e2 : asLst h e with
        | none => rw [e1, e2] at hf'; cases hf'
        | some ys =>
          rw [e1, e2] at hf'
          dsimp only at hf'
          split at hf'
          · cases hf'
            rename_i hl
            obtain ⟨a, vs, rfl, qa, ra⟩ := asLst_ok S rd e1
            obtain ⟨b, us, rfl, qb, rb⟩ := asLst_ok S re e2
            exact op_cat pins s σ H _ _ v u Q I rx ry ⟨a, b, vs, us, rfl, rfl, qa, qb, by rw [← ra.length, ← rb.length, ← line_eq]; exact hl, fun p n => hA.lst S (ra.append rb) p n⟩
          · cases hf'
  case sub =>
    cases d <;> cases e <;> simp only [binop] at hf <;> first | (cases hf; done) | skip
    cases rd; cases re
    cases hf
    exact op_sub pins s σ H _ _ v u Q I rx ry ⟨_, _, rfl, rfl, hA.now S (.int _)⟩
  case mul =>
    cases d <;> cases e <;> simp only [binop] at hf <;> first | (cases hf; done) | skip
    · cases rd; cases re
      split at hf
      · cases hf
        rename_i hl
        exact op_mul pins s σ H _ _ v u Q I rx ry ⟨_, _, rfl, rfl, hl, hA.now S (.int _)⟩
      · cases hf
    · cases rd; cases re
      split at hf
      · cases hf
        rename_i x j hl
        obtain ⟨tk, rfl⟩ := rx
        obtain ⟨tk', rfl⟩ := ry
        obtain ⟨m1, m2⟩ := mul_text hl.1 hl.2.1 hl.2.2
        refine SB.mul m1 fun t' k => ?_
        exact ⟨.str (Txt.mul (toS x) j), H, I.tok _, ⟨_, rfl⟩, by rw [m2]; exact hA.now S (.str _)⟩
      · cases hf
    · cases re
      split at hf
      · cases hf
        rename_i xs j hl
        obtain ⟨a, vs, rfl, qa, ra⟩ := tup_ok rd
        refine op_repP pins s σ H _ _ v u Q I rx ry ⟨a, j, vs, rfl, rfl, hK ▸ qa, fun z => hl.1 ?_, hl.2.1, hl.2.2.1, by rw [← ra.length]; exact hl.2.2.2, fun p n o hd => hA.tupP S ?_ p n hd⟩
        · subst z; cases ra; rfl
        · generalize j.toNat = m
          induction m with
          | zero => exact .nil
          | succ m ih => simpa [List.replicate_succ] using ra.append ih
      · cases hf
    · cases re
      split at hf
      · cases hf
        rename_i xs j hl
        obtain ⟨a, vs, rfl, qa, ra⟩ := asLst_ok S rd (show asLst h (.lst xs) = some xs from rfl)
        refine op_rep pins s σ H _ _ v u Q I rx ry ⟨a, j, vs, rfl, rfl, qa, by omega, by omega, ?_, fun p n => hA.lst S ?_ p n⟩
        · rw [← ra.length, ← line_eq]
          have h1 : xs.length * j.toNat ≤ 1000 * 1000 := Nat.mul_le_mul hl.2.2 (by omega)
          have h2 : 1000 * 1000 ≤ line := by decide
          omega
        · generalize j.toNat = m
          induction m with
          | zero => exact .nil
          | succ m ih => simpa [List.replicate_succ] using ra.append ih
      · cases hf
  case fdiv =>
    cases d <;> cases e <;> simp only [binop] at hf <;> first | (cases hf; done) | skip
    cases rd; cases re
    split at hf
    · cases hf
      rename_i hl
      exact op_fdiv pins s σ H _ _ v u Q I rx ry ⟨_, _, rfl, rfl, hl, hA.now S (.int _)⟩
    · cases hf
  case mod =>
    cases d <;> cases e <;> simp only [binop] at hf <;> first | (cases hf; done) | skip
    cases rd; cases re
    split at hf
    · cases hf
      rename_i hl
      exact op_mod pins s σ H _ _ v u Q I rx ry ⟨_, _, rfl, rfl, hl, hA.now S (.int _)⟩
    · cases hf
  case pow =>
    cases d <;> cases e <;> simp only [binop] at hf <;> first | (cases hf; done) | skip
    cases rd; cases re
    split at hf
    · cases hf
      rename_i hl
      exact op_pow pins s σ H _ _ v u Q I rx ry ⟨_, _, rfl, rfl, hl, hA.now S (.int _)⟩
    · cases hf
end
theorem strOk_of {s : Tx} (h : s.all (fun c => decide (c < 1114112)) = true) : PyData.strOk (toS s) = true := by
  simp only [PyData.strOk, toS, ← Array.all_toList]
  exact h
mutual
theorem flat_py : ∀ (n : Nat) (d : D), d.flat n = true → d.py.canLay0 = true ∧ d.py.depth ≤ n + 1
  | n, .non, _ => by simp [D.py, PyData.canLay0, PyData.depth]
  | n, .bl _, _ => by simp [D.py, PyData.canLay0, PyData.depth]
  | n, .int _, _ => by simp [D.py, PyData.canLay0, PyData.depth]
  | n, .str s, h => by
    have h' : s.all (fun c => decide (c < 1114112)) = true := by simpa [D.flat] using h
    have h2 := strOk_of h'
    simp only [D.py, PyData.canLay0, PyData.depth]
    exact ⟨h2, Nat.zero_le _⟩
  | 0, .tup xs, h => by
    have : xs = [] := by simpa [D.flat] using h
    subst this
    simp [D.py, pyAll, PyData.canLay0, PyData.canLayAll0, PyData.depth, PyData.depthAll]
  | n + 1, .tup xs, h => by
    have h' := flatAll_py n xs (by simpa [D.flat] using h)
    simp only [D.py, PyData.canLay0, PyData.depth]
    exact ⟨h'.1, by omega⟩
  | 0, .lst xs, h => by
    have : xs = [] := by simpa [D.flat] using h
    subst this
    simp [D.py, pyAll, PyData.canLay0, PyData.canLayAll0, PyData.depth, PyData.depthAll]
  | n + 1, .lst xs, h => by
    have h' := flatAll_py n xs (by simpa [D.flat] using h)
    simp only [D.py, PyData.canLay0, PyData.depth]
    exact ⟨h'.1, by omega⟩
  | _, .dct _, h => by simp [D.flat] at h
  | _, .obj _ _, h => by simp [D.flat] at h
  | _, .ref _, h => by simp [D.flat] at h
  | _, .fn _, h => by simp [D.flat] at h
  | _, .roi _, h => by simp [D.flat] at h
theorem flatAll_py : ∀ (n : Nat) (xs : List D), flatAll n xs = true → PyData.canLayAll0 (pyAll xs) = true ∧ PyData.depthAll (pyAll xs) ≤ n + 1
  | n, [], _ => by simp [pyAll, PyData.canLayAll0, PyData.depthAll]
  | n, x :: xs, h => by
    have h' : x.flat n = true ∧ flatAll n xs = true := by simpa [flatAll] using h
    have h1 := flat_py n x h'.1
    have h2 := flatAll_py n xs h'.2
    simp only [pyAll, PyData.canLayAll0, PyData.depthAll]
    exact ⟨by simp [h1.1, h2.1], by omega⟩
end
theorem flat_shaped {d : D} (h : d.flat 60 = true) : SeqAt.shaped d.py = true := by
  have := flat_py 60 d h
  simp only [SeqAt.shaped, Bool.and_eq_true, decide_eq_true_eq]
  exact ⟨this.1, by omega⟩
mutual
theorem flat_eqv : ∀ (n m : Nat) (d e : D), d.flat n = true → e.flat m = true → PyData.eqv d.py e.py = d.eqv e
  | n, m, d, e, h1, h2 => by
    cases d <;> cases e <;> first
      | (simp [D.flat] at h1; done)
      | (simp [D.flat] at h2; done)
      | (simp [D.py, PyData.eqv, D.eqv]; done)
      | skip
    · simp only [D.py, PyData.eqv, D.eqv]
      rename_i a b
      by_cases e : a = b
      · subst e; simp
      · have : ¬ (⟨a.toArray⟩ : Str) = ⟨b.toArray⟩ := fun q => e (toS_inj q)
        rw [beq_eq_false_iff_ne.mpr this, beq_eq_false_iff_ne.mpr e]
    · rename_i xs ys
      simp only [D.py, PyData.eqv, D.eqv]
      cases n <;> cases m
      · have a1 : xs = [] := by simpa [D.flat] using h1
        have a2 : ys = [] := by simpa [D.flat] using h2
        subst a1 a2; simp [pyAll, PyData.eqvAll, eqvAll]
      · have a1 : xs = [] := by simpa [D.flat] using h1
        subst a1; cases ys <;> simp [pyAll, PyData.eqvAll, eqvAll]
      · have a2 : ys = [] := by simpa [D.flat] using h2
        subst a2; cases xs <;> simp [pyAll, PyData.eqvAll, eqvAll]
      · exact flatAll_eqv _ _ xs ys (by simpa [D.flat] using h1) (by simpa [D.flat] using h2)
    · rename_i xs ys
      simp only [D.py, PyData.eqv, D.eqv]
      cases n <;> cases m
      · have a1 : xs = [] := by simpa [D.flat] using h1
        have a2 : ys = [] := by simpa [D.flat] using h2
        subst a1 a2; simp [pyAll, PyData.eqvAll, eqvAll]
      · have a1 : xs = [] := by simpa [D.flat] using h1
        subst a1; cases ys <;> simp [pyAll, PyData.eqvAll, eqvAll]
      · have a2 : ys = [] := by simpa [D.flat] using h2
        subst a2; cases xs <;> simp [pyAll, PyData.eqvAll, eqvAll]
      · exact flatAll_eqv _ _ xs ys (by simpa [D.flat] using h1) (by simpa [D.flat] using h2)
theorem flatAll_eqv : ∀ (n m : Nat) (xs ys : List D), flatAll n xs = true → flatAll m ys = true → PyData.eqvAll (pyAll xs) (pyAll ys) = eqvAll xs ys
  | n, m, [], [], _, _ => by simp [pyAll, PyData.eqvAll, eqvAll]
  | n, m, [], y :: ys, _, _ => by simp [pyAll, PyData.eqvAll, eqvAll]
  | n, m, x :: xs, [], _, _ => by simp [pyAll, PyData.eqvAll, eqvAll]
  | n, m, x :: xs, y :: ys, h1, h2 => by
    have h1' : x.flat n = true ∧ flatAll n xs = true := by simpa [flatAll] using h1
    have h2' : y.flat m = true ∧ flatAll m ys = true := by simpa [flatAll] using h2
    simp only [pyAll, PyData.eqvAll, eqvAll]
    rw [flat_eqv n m x y h1'.1 h2'.1, flatAll_eqv n m xs ys h1'.2 h2'.2]
end
section
variable {W : Wd} {Z ρ : List Addr} {h : Hh} {H : Hp}
mutual
theorem flat_dp : ∀ {d : D} {v : V} (n : Nat), d.flat n = true → RD W Z ρ H d v → Dp W.K H v d.py
  | _, _, _, _, .non => by simpa [D.py] using Dp.non
  | _, _, _, _, .bl b => by simpa [D.py] using Dp.bl b
  | _, _, _, _, .int i => by simpa [D.py] using Dp.int i
  | _, _, _, _, .str s => by simp only [D.py]; exact Dp.str (toS s)
  | _, _, 0, h, .tup _ _ q t => by simp only [D.py]; exact .tup (.inl q.rd) (flat_dps 0 (by cases t with | nil => simp [flatAll] | cons _ _ => simp [D.flat] at h) t)
  | _, _, n + 1, h, .tup _ _ q t => by simp only [D.py]; exact .tup (.inl q.rd) (flat_dps n (by simpa [D.flat] using h) t)
  | _, _, 0, h, .tupK q t => by simp only [D.py]; exact .tup (.inr q) (flat_dps 0 (by cases t with | nil => simp [flatAll] | cons _ _ => simp [D.flat] at h) t)
  | _, _, n + 1, h, .tupK q t => by simp only [D.py]; exact .tup (.inr q) (flat_dps n (by simpa [D.flat] using h) t)
  | _, _, 0, h, .lst _ _ q t => by simp only [D.py]; exact .lst (SqL.of q) (flat_dps 0 (by cases t with | nil => simp [flatAll] | cons _ _ => simp [D.flat] at h) t)
  | _, _, n + 1, h, .lst _ _ q t => by simp only [D.py]; exact .lst (SqL.of q) (flat_dps n (by simpa [D.flat] using h) t)
  | _, _, n, h, .dct _ _ _ _ => by cases n <;> simp [D.flat] at h
  | _, _, n, h, .obj _ _ _ _ => by cases n <;> simp [D.flat] at h
  | _, _, n, h, .ref _ => by cases n <;> simp [D.flat] at h
  | _, _, n, h, .fn _ => by cases n <;> simp [D.flat] at h
  | _, _, n, h, .roi _ => by cases n <;> simp [D.flat] at h
theorem flat_dps : ∀ {ds : List D} {vs : List V} (n : Nat), flatAll n ds = true → RDs W Z ρ H ds vs → DpAll W.K H vs (pyAll ds)
  | _, _, _, _, .nil => by simpa [pyAll] using DpAll.nil
  | _, _, n, h, .cons r t => by
    simp only [flatAll, Bool.and_eq_true] at h
    simp only [pyAll]
    exact .cons (flat_dp n h.1 r) (flat_dps n h.2 t)
end
theorem seen_dp (S : Sim W Z ρ h H) {d d' : D} {v : V} (r : RD W Z ρ H d v) (e : seen h 0 d = some d') (f : d'.flat 60 = true) : Dp W.K H v d'.py := by
  have r0 := r
  cases r
  case ref a n en =>
    simp only [seen] at e
    cases eo : h[n]? with
    | none => rw [eo] at e; cases e
    | some o =>
      rw [eo] at e
      have q := S.obj n o a eo en
      cases o <;> dsimp only at e <;> cases e
      · cases q with | lst q t => simp only [D.py]; exact .lst (SqL.of q) (flat_dps 59 (by simpa [D.flat] using f) t)
      · cases q with | ro q t => simp only [D.py]; exact .lst (.inl q) (flat_dps 59 (by simpa [D.flat] using f) t)
      · simp [D.flat] at f
  all_goals
    simp only [seen, Option.some.injEq] at e
    subst e
    exact flat_dp 60 f r0
theorem seen_lst (S : Sim W Z ρ h H) {d : D} {v : V} {ds : List D} (r : RD W Z ρ H d v) (e : seen h 0 d = some (.lst ds)) : ∃ a vs, v = .ref a ∧ SqL W.K H a vs ∧ vs.length = ds.length := by
  cases r
  case ref a n en =>
    simp only [seen] at e
    cases eo : h[n]? with
    | none => rw [eo] at e; cases e
    | some o =>
      rw [eo] at e
      have q := S.obj n o a eo en
      cases o <;> dsimp only at e <;> cases e
      · cases q with | lst q t => exact ⟨a, _, rfl, SqL.of q, t.length.symm⟩
      · cases q with | ro q t => exact ⟨a, _, rfl, .inl q, t.length.symm⟩
  all_goals
    simp only [seen, Option.some.injEq] at e
    cases e
  case lst a vs h1 h2 q t => exact ⟨a, _, rfl, SqL.of q, t.length.symm⟩
theorem seen_tup {d : D} {v : V} {ds : List D} (r : RD W Z ρ H d v) (e : seen h 0 d = some (.tup ds)) : ∃ a vs, v = .ref a ∧ SqT W.K H a vs ∧ vs.length = ds.length := by
  cases r
  case ref a n en =>
    simp only [seen] at e
    cases eo : h[n]? with
    | none => rw [eo] at e; cases e
    | some o => rw [eo] at e; cases o <;> dsimp only at e <;> cases e
  all_goals
    simp only [seen, Option.some.injEq] at e
    cases e
  case tup a vs h1 h2 q t => exact ⟨a, _, rfl, .inl q.rd, t.length.symm⟩
  case tupK a vs q t => exact ⟨a, _, rfl, .inr q, t.length.symm⟩
theorem eqvAll_len : ∀ {xs ys : List D}, xs = [] ∨ ys = [] → eqvAll xs ys = decide (xs.length = ys.length)
  | [], [], _ => rfl
  | [], _ :: _, _ => rfl
  | _ :: _, [], _ => rfl
  | _ :: _, _ :: _, h => by simp at h
theorem emptyPair_cases {a b : D} (e : emptyPair a b = true) : (∃ xs ys, a = .lst xs ∧ b = .lst ys ∧ (xs = [] ∨ ys = [])) ∨ (∃ xs ys, a = .tup xs ∧ b = .tup ys ∧ (xs = [] ∨ ys = [])) := by
  unfold emptyPair at e
  split at e
  · exact .inl ⟨_, _, rfl, rfl, .inl rfl⟩
  · exact .inl ⟨_, _, rfl, rfl, .inr rfl⟩
  · exact .inr ⟨_, _, rfl, rfl, .inl rfl⟩
  · exact .inr ⟨_, _, rfl, rfl, .inr rfl⟩
  · cases e
theorem empty_rc {X : Cx} {pins : List (Addr × Obj)} {σ : L2.St} {s : Shared} {A : Around} (I : Inv X pins σ H s) (hK : X.K = W.K) (hu : A.units < cLine) (S : Sim W Z ρ h H) {d e a b : D} {x y : V} {v u : Value}
    (rd : RD W Z ρ H d x) (re : RD W Z ρ H e y) (ea : seen h 0 d = some a) (eb : seen h 0 e = some b) (he : emptyPair a b = true) (rx : RelV x v) (ry : RelV y u) :
    SeqAt.RcAt A s v u (a.eqv b) ∧ SeqAt.RcNeAt A s v u (!a.eqv b) := by
  rcases emptyPair_cases he with ⟨xs, ys, rfl, rfl, hz⟩ | ⟨xs, ys, rfl, rfl, hz⟩
  · obtain ⟨p, vs, rfl, q1, l1⟩ := seen_lst S rd ea
    obtain ⟨p', vs', rfl, q2, l2⟩ := seen_lst S re eb
    cases rx; cases ry
    obtain ⟨its, r1, ⟨o1, n1, ho1, hc1, _, hd1⟩, _⟩ := I.list (hK ▸ q1)
    obtain ⟨its', r2, ⟨o2, n2, ho2, hc2, _, hd2⟩, _⟩ := I.list (hK ▸ q2)
    have m1 : its.length = xs.length := by rw [← r1.length]; exact l1
    have m2 : its'.length = ys.length := by rw [← r2.length]; exact l2
    have h1 : s.heap.IsList p its.toArray := ⟨o1, ho1, hc1, n1, hd1⟩
    have h2 : s.heap.IsList p' its'.toArray := ⟨o2, ho2, hc2, n2, hd2⟩
    simp only [D.eqv, eqvAll_len hz]
    by_cases q : xs.length = ys.length
    · have z1 : xs.length = 0 := by rcases hz with rfl | rfl <;> simp_all
      have z2 : its.toArray.size = 0 := by simp [m1, z1]
      have hs : its.toArray.size = its'.toArray.size := by simp [m1, m2, q]
      have k1 := SeqAt.RcAt.lists (e := fun _ => true) h1 h2 hs hu (fun j h1 h2 => absurd h1 (by omega))
      have k2 := SeqAt.RcNeAt.lists (e := fun _ => true) h1 h2 hs hu (fun j h1 h2 => absurd h1 (by omega))
      rw [z2] at k1 k2
      simpa [q] using And.intro k1 k2
    · have hs : (its.toArray.size != its'.toArray.size) = true := by simp [m1, m2, q]
      have k1 := SeqAt.RcAt.lists_lengths h1 h2 hs hu
      have k2 := SeqAt.RcNeAt.lists_lengths h1 h2 hs hu
      simpa [q] using And.intro k1 k2
  · obtain ⟨p, vs, rfl, q1, l1⟩ := seen_tup rd ea
    obtain ⟨p', vs', rfl, q2, l2⟩ := seen_tup re eb
    cases rx; cases ry
    obtain ⟨its, r1, ⟨o1, ho1, hc1, n1, hd1⟩, _⟩ := I.tuple (hK ▸ q1)
    obtain ⟨its', r2, ⟨o2, ho2, hc2, n2, hd2⟩, _⟩ := I.tuple (hK ▸ q2)
    have m1 : its.length = xs.length := by rw [← r1.length]; exact l1
    have m2 : its'.length = ys.length := by rw [← r2.length]; exact l2
    have h1 : s.heap.IsTuple p its.toArray := ⟨o1, ho1, hc1, n1, hd1⟩
    have h2 : s.heap.IsTuple p' its'.toArray := ⟨o2, ho2, hc2, n2, hd2⟩
    simp only [D.eqv, eqvAll_len hz]
    have z2 : min its.toArray.size its'.toArray.size = 0 := by rcases hz with rfl | rfl <;> simp_all
    have k1 := SeqAt.RcAt.tuples (e := fun _ => true) h1 h2 hu (fun j h1 h2 => absurd (Nat.lt_min.mpr ⟨h1, h2⟩) (by omega))
    have k2 := SeqAt.RcNeAt.tuples (e := fun _ => true) h1 h2 hu (fun j h1 h2 => absurd (Nat.lt_min.mpr ⟨h1, h2⟩) (by omega))
    rw [z2] at k1 k2
    have m : (its.toArray.size == its'.toArray.size) = decide (xs.length = ys.length) := by
      rw [Bool.eq_iff_iff]
      simp [m1, m2]
    rw [m] at k1 k2
    simpa using And.intro k1 k2
end
section
variable {W : Wd} {Z ρ : List Addr} {h : Hh} {H : Hp} {a b : D} {v u : V}
theorem scal_ok (ra : RD W Z ρ H a v) (rb : RD W Z ρ H b u) (e : scalPair a b = true) : scal v u = true ∧ decide (v = u) = a.eqv b := by
  cases ra <;> cases rb <;> first
    | (simp [scalPair, scalar] at e; done)
    | (simp [scal, D.eqv]; done)
    | skip
  · exact ⟨rfl, by simp only [D.eqv]; exact dec_bl⟩
  · exact ⟨rfl, by simp only [D.eqv]; exact dec_int⟩
  · refine ⟨rfl, ?_⟩
    rename_i x y
    simp only [D.eqv]
    rw [dec_str]
    by_cases q : x = y
    · subst q; simp
    · have : ¬ toS x = toS y := fun z => q (toS_inj z)
      rw [beq_eq_false_iff_ne.mpr this, beq_eq_false_iff_ne.mpr q]
theorem flatV_ok (ra : RD W Z ρ H a v) (e : scalar a = true) : flatV v = true := by
  cases ra <;> simp [scalar] at e <;> rfl
theorem eqV_ok (ra : RD W Z ρ H a v) (rb : RD W Z ρ H b u) (e : scalar a = true) (f : scalar b = true) : eqV v u = a.eqv b := by
  cases ra <;> cases rb <;> first
    | (simp [scalar] at e; done)
    | (simp [scalar] at f; done)
    | (simp [eqV, D.eqv]; done)
    | skip
  rename_i x y
  simp only [D.eqv, eqV]
  by_cases q : x = y
  · subst q; simp
  · have : ¬ toS x = toS y := fun z => q (toS_inj z)
    rw [beq_eq_false_iff_ne.mpr this, beq_eq_false_iff_ne.mpr q]
theorem inV_ok (ra : RD W Z ρ H a v) (e : scalar a = true) : ∀ {xs : List D} {vs : List V}, RDs W Z ρ H xs vs → xs.all scalar = true → vs.all flatV = true ∧ inV v vs = xs.any fun y => y.eqv a := by
  intro xs
  induction xs with
  | nil => intro vs r _; cases r; exact ⟨rfl, rfl⟩
  | cons x xs ih =>
    intro vs r f
    cases r with
    | cons r t =>
      rw [List.all_cons, Bool.and_eq_true] at f
      obtain ⟨i1, i2⟩ := ih t f.2
      refine ⟨by rw [List.all_cons, flatV_ok r f.1, i1]; rfl, ?_⟩
      simp only [inV, List.any_cons] at i2 ⊢
      rw [eqV_ok r ra f.1 e, i2]
end
section
variable {X : Cx} {W : Wd}
def r2b (W : Wd) (f : Hh → D → D → Option Bool) : R2 := fun x y H Q => ∃ Z ρ h d e r, Sim W Z ρ h H ∧ RD W Z ρ H d x ∧ RD W Z ρ H e y ∧ f h d e = some r ∧ Fw.Ans W Z ρ h H (.bl r) Q
theorem key1_ok {Z ρ : List Addr} {H : Hp} {d : D} {v : V} {k : K1} (r : RD W Z ρ H d v) (e : key1 d = some k) : v = kV (keyS k) := by
  cases r <;> simp [key1] at e <;> subst e <;> rfl
theorem RKs.any {Z ρ : List Addr} {H : Hp} (k : K1) : ∀ {kds : List (K1 × D)} {kvs : List (Key × V)}, RKs W Z ρ H kds kvs → (kds.any fun q => decide (q.1 = k)) = (valV kvs (keyS k)).isSome := by
  intro kds
  induction kds with
  | nil => intro kvs r; cases r; rfl
  | cons q kds ih =>
    intro kvs r
    cases r with
    | @cons k' d _ v vs r t =>
      rw [List.any_cons, ih t]
      by_cases e : k' = k
      · subst e
        rw [valV_pos (by rfl)]
        simp
      · rw [valV_neg (fun z => e (keyS_inj z))]
        simp [e]
theorem RKs.look {Z ρ : List Addr} {H : Hp} {k : K1} {d : D} : ∀ {kds : List (K1 × D)} {kvs : List (Key × V)}, RKs W Z ρ H kds kvs → Fw.look k kds = some d → ∃ v, valV kvs (keyS k) = some v ∧ RD W Z ρ H d v := by
  intro kds
  induction kds with
  | nil => intro kvs r e; simp [Fw.look] at e
  | cons q kds ih =>
    intro kvs r e
    cases r with
    | @cons k' d' _ v vs r t =>
      simp only [Fw.look] at e
      by_cases q : k' = k
      · subst q
        rw [if_pos rfl] at e
        cases e
        exact ⟨v, valV_pos (by rfl), r⟩
      · rw [if_neg q] at e
        rw [valV_neg (fun z => q (keyS_inj z))]
        exact ih t e
theorem mem_in (hK : X.K = W.K) (hu : X.A.units + 64 < cLine) (pins : List (Addr × Obj)) (s : Shared) (σ : L2.St) (H : Hp) (x y : V) (v u : Value) (Q : VK) (I : Inv X pins σ H s) (rx : RelV x v) (ry : RelV y u)
    {Z ρ : List Addr} {h : Hh} {d e : D} {r : Bool} (S : Sim W Z ρ h H) (rd : RD W Z ρ H d x) (re : RD W Z ρ H e y) (hm : isMem h d e = some r) (hb : ∀ b, b = r → Q (.bl b) H) :
    wpAny (model X.prog X.w) X.A (compareOp .In v u) (EP X pins σ Q) X.xe s := by
  have hu1 : X.A.units + 1 < cLine := by omega
  unfold isMem at hm
  cases e1 : asDct h e with
  | some kvs =>
    rw [e1] at hm
    cases e2 : key1 d with
    | none => rw [e2] at hm; cases hm
    | some k =>
      rw [e2] at hm
      cases hm
      obtain ⟨a, vs, rfl, q, t⟩ := asDct_ok S re e1
      obtain rfl : u = Value.ref a := ry
      have hk := key1_ok rd e2
      exact d_in hu1 I (o := valV vs (keyS k)) (.inl ⟨vs, keyS k, q, hk, rfl⟩) rx fun s' I' => ⟨.bl _, H, I', rfl, hb _ (t.any k).symm⟩
  | none =>
    rw [e1] at hm
    cases e2 : asSeq h e with
    | none => rw [e2] at hm; cases hm
    | some xs =>
      rw [e2] at hm
      dsimp only at hm
      split at hm
      · rename_i hc
        cases hm
        rw [Bool.and_eq_true] at hc
        obtain ⟨a, vs, rfl, q, t⟩ := asSeq_ok S re e2
        obtain ⟨i1, i2⟩ := inV_ok rd hc.1 t hc.2
        exact op_in_seq pins s σ H _ _ v u Q I rx ry ⟨a, vs, rfl, hK ▸ q, flatV_ok rd hc.1, i1, hb _ (by simpa using i2)⟩
      · cases hm
theorem mem_notin (hK : X.K = W.K) (hu : X.A.units + 64 < cLine) (pins : List (Addr × Obj)) (s : Shared) (σ : L2.St) (H : Hp) (x y : V) (v u : Value) (Q : VK) (I : Inv X pins σ H s) (rx : RelV x v) (ry : RelV y u)
    {Z ρ : List Addr} {h : Hh} {d e : D} {r : Bool} (S : Sim W Z ρ h H) (rd : RD W Z ρ H d x) (re : RD W Z ρ H e y) (hm : isMem h d e = some r) (hb : ∀ b, b = !r → Q (.bl b) H) :
    wpAny (model X.prog X.w) X.A (compareOp .NotIn v u) (EP X pins σ Q) X.xe s := by
  have hu1 : X.A.units + 1 < cLine := by omega
  unfold isMem at hm
  cases e1 : asDct h e with
  | some kvs =>
    rw [e1] at hm
    cases e2 : key1 d with
    | none => rw [e2] at hm; cases hm
    | some k =>
      rw [e2] at hm
      cases hm
      obtain ⟨a, vs, rfl, q, t⟩ := asDct_ok S re e1
      obtain rfl : u = Value.ref a := ry
      have hk := key1_ok rd e2
      exact d_notIn hu1 I (o := valV vs (keyS k)) (.inl ⟨vs, keyS k, q, hk, rfl⟩) rx fun s' I' => ⟨.bl _, H, I', rfl, hb _ (congrArg (fun b => !b) (t.any k).symm)⟩
  | none =>
    rw [e1] at hm
    cases e2 : asSeq h e with
    | none => rw [e2] at hm; cases hm
    | some xs =>
      rw [e2] at hm
      dsimp only at hm
      split at hm
      · rename_i hc
        cases hm
        rw [Bool.and_eq_true] at hc
        obtain ⟨a, vs, rfl, q, t⟩ := asSeq_ok S re e2
        obtain ⟨i1, i2⟩ := inV_ok rd hc.1 t hc.2
        exact op_notIn_seq pins s σ H _ _ v u Q I rx ry ⟨a, vs, rfl, hK ▸ q, flatV_ok rd hc.1, i1, hb _ (by simp [i2])⟩
      · cases hm
theorem op_cmp (hK : X.K = W.K) (hu : X.A.units + 64 < cLine) (op : Cop) : OpR X (compareOp (copOf op)) (r2b W fun h => cmpop h op) := by
  intro pins s σ H x y v u Q I rx ry hq
  obtain ⟨Z, ρ, h, d, e, r, S, rd, re, hf, hA⟩ := hq
  have hb : ∀ {b : Bool}, b = r → Q (.bl b) H := fun {b} q => by subst q; exact hA.now S (.bl _)
  cases op
  case eq =>
    simp only [cmpop, eqD] at hf
    split at hf
    · rename_i hs
      cases hf
      obtain ⟨h1, h2⟩ := scal_ok rd re hs
      exact op_eq pins s σ H _ _ v u Q I rx ry ⟨h1, hb h2⟩
    · split at hf
      · rename_i a b ea eb
        split at hf
        · rename_i hep
          cases hf
          exact EqBoolInt.of_rc (empty_rc I hK (by omega) S rd re ea eb hep rx ry).1 ⟨.bl _, H, I, rfl, hb rfl⟩
        split at hf
        · rename_i hfl
          cases hf
          rw [Bool.and_eq_true] at hfl
          exact op_eqD hu pins s σ H _ _ v u Q I rx ry ⟨a.py, b.py, hK ▸ seen_dp S rd ea hfl.1, hK ▸ seen_dp S re eb hfl.2, flat_shaped hfl.1, flat_shaped hfl.2, hb (flat_eqv 60 60 a b hfl.1 hfl.2)⟩
        · cases hf
      · cases hf
  case ne =>
    simp only [cmpop, eqD] at hf
    split at hf
    · rename_i hs
      cases hf
      obtain ⟨h1, h2⟩ := scal_ok rd re hs
      exact op_ne pins s σ H _ _ v u Q I rx ry ⟨h1, hb (by rw [h2])⟩
    · split at hf
      · rename_i a b ea eb
        split at hf
        · rename_i hep
          cases hf
          exact EqBoolInt.of_rcne (empty_rc I hK (by omega) S rd re ea eb hep rx ry).2 ⟨.bl _, H, I, rfl, hb rfl⟩
        split at hf
        · rename_i hfl
          cases hf
          rw [Bool.and_eq_true] at hfl
          exact op_neD hu pins s σ H _ _ v u Q I rx ry ⟨a.py, b.py, hK ▸ seen_dp S rd ea hfl.1, hK ▸ seen_dp S re eb hfl.2, flat_shaped hfl.1, flat_shaped hfl.2, hb (by rw [flat_eqv 60 60 a b hfl.1 hfl.2])⟩
        · cases hf
      · cases hf
  case lt =>
    cases d <;> cases e <;> simp only [cmpop] at hf <;> first | (cases hf; done) | skip
    · cases rd; cases re; cases hf
      exact op_lt pins s σ H _ _ v u Q I rx ry ⟨_, _, rfl, rfl, hb rfl⟩
    · cases rd; cases re; cases hf
      exact op_lt_str pins s σ H _ _ v u Q I rx ry ⟨_, _, rfl, rfl, hb (by rw [toS_list, toS_list])⟩
  case le =>
    cases d <;> cases e <;> simp only [cmpop] at hf <;> first | (cases hf; done) | skip
    · cases rd; cases re; cases hf
      exact op_le pins s σ H _ _ v u Q I rx ry ⟨_, _, rfl, rfl, hb rfl⟩
    · cases rd; cases re; cases hf
      exact op_le_str pins s σ H _ _ v u Q I rx ry ⟨_, _, rfl, rfl, hb (by rw [toS_list, toS_list])⟩
  case gt =>
    cases d <;> cases e <;> simp only [cmpop] at hf <;> first | (cases hf; done) | skip
    cases rd; cases re; cases hf
    exact op_gt pins s σ H _ _ v u Q I rx ry ⟨_, _, rfl, rfl, hb rfl⟩
  case ge =>
    cases d <;> cases e <;> simp only [cmpop] at hf <;> first | (cases hf; done) | skip
    cases rd; cases re; cases hf
    exact op_ge pins s σ H _ _ v u Q I rx ry ⟨_, _, rfl, rfl, hb rfl⟩
  case is_ =>
    by_cases he : e = .non
    · subst he
      cases re
      have hr : d.isNon = r := by cases d <;> simpa [cmpop] using hf
      refine op_isN pins s σ H _ _ v u Q I rx ry ⟨rfl, hb ?_⟩
      rw [← hr]
      cases rd <;> rfl
    · cases d <;> cases e <;> simp only [cmpop] at hf <;> first | (cases hf; done) | (exact absurd rfl he) | skip
      cases rd; cases re; cases hf
      exact op_isBl pins s σ H _ _ v u Q I rx ry ⟨_, _, rfl, rfl, hb (by rename_i a b; cases a <;> cases b <;> rfl)⟩
  case isnt =>
    by_cases he : e = .non
    · subst he
      cases re
      have hr : (!d.isNon) = r := by cases d <;> simpa [cmpop] using hf
      refine op_notN pins s σ H _ _ v u Q I rx ry ⟨rfl, hb ?_⟩
      rw [← hr]
      cases rd <;> rfl
    · cases d <;> cases e <;> simp only [cmpop] at hf <;> first | (cases hf; done) | (exact absurd rfl he) | skip
      cases rd; cases re; cases hf
      exact op_notBl pins s σ H _ _ v u Q I rx ry ⟨_, _, rfl, rfl, hb (by rename_i a b; cases a <;> cases b <;> rfl)⟩
  case in_ =>
    by_cases hs : ∃ c y, d = .str [c] ∧ e = .str y
    · obtain ⟨c, z, rfl, rfl⟩ := hs
      cases rd; cases re
      simp only [cmpop, Option.some.injEq] at hf
      exact op_in_sign pins s σ H _ _ v u Q I rx ry ⟨c, toS z, rfl, rfl, hb (by rw [toS_list]; exact hf)⟩
    · have hm : isMem h d e = some r := by
        rw [← hf]
        cases d <;> try (cases e <;> rfl)
        rename_i a
        match a, hs with
        | [], _ => cases e <;> rfl
        | [c], hs => cases e <;> first | rfl | (exact absurd ⟨c, _, rfl, rfl⟩ hs)
        | _ :: _ :: _, _ => cases e <;> rfl
      exact mem_in hK hu pins s σ H _ _ v u Q I rx ry S rd re hm (fun b q => hb q)
  case notin =>
    by_cases hs : ∃ c y, d = .str [c] ∧ e = .str y
    · obtain ⟨c, z, rfl, rfl⟩ := hs
      cases rd; cases re
      simp only [cmpop, Option.some.injEq] at hf
      exact op_notIn_sign pins s σ H _ _ v u Q I rx ry ⟨c, toS z, rfl, rfl, hb (by rw [toS_list]; exact hf)⟩
    · have hm : (isMem h d e).map (!·) = some r := by
        rw [← hf]
        cases d <;> try (cases e <;> rfl)
        rename_i a
        match a, hs with
        | [], _ => cases e <;> rfl
        | [c], hs => cases e <;> first | rfl | (exact absurd ⟨c, _, rfl, rfl⟩ hs)
        | _ :: _ :: _, _ => cases e <;> rfl
      cases hm' : isMem h d e with
      | none => rw [hm'] at hm; cases hm
      | some r' =>
        rw [hm'] at hm
        cases hm
        exact mem_notin hK hu pins s σ H _ _ v u Q I rx ry S rd re hm' (fun b q => hb (by rw [q]))
theorem ixn_eq (n : Nat) (i : Int) : ixn n i = L2.ixN n i := rfl
theorem ix_all (hK : X.K = W.K) (hu : X.A.units + 64 < cLine) : IxR X (r2 W index) := by
  intro value sl pins s σ H x y v u Q I rx ry hq hs
  obtain ⟨Z, ρ, h, d, e, r, S, rd, re, hf, hA⟩ := hq
  have dict : ∀ {k : K1} {kvs : List (K1 × D)}, asDct h d = some kvs → key1 e = some k → look k kvs = some r → wpAny (model X.prog X.w) X.A (subscriptTail value sl v u) (EP X pins σ Q) X.xe s := by
    intro k kvs e1 e2 e3
    obtain ⟨a, vs, rfl, q, t⟩ := asDct_ok S rd e1
    obtain rfl : v = Value.ref a := rx
    obtain ⟨z, hz, rz⟩ := t.look e3
    have g : DGet H a y (some z) := .inl ⟨vs, keyS k, q, key1_ok re e2, hz.symm⟩
    exact tail_any (dict_typeIs I g) PySem.F.slot_dict_getitem.lookup (d_getItem (by omega) I g ry fun w' s3 I3 rw' => ⟨z, H, I3, rw', hA.now S rz⟩) hs
  cases e <;> simp only [index] at hf <;> first | (cases hf; done) | skip
  · rename_i i
    by_cases hd : ∃ t, d = .str t
    · obtain ⟨t, rfl⟩ := hd
      simp only at hf
      split at hf
      · rename_i hl
        cases e1 : (ixn t.length i).bind fun j => t[j]? with
        | none => rw [e1] at hf; cases hf
        | some c =>
          rw [e1] at hf
          cases hf
          cases rd
          cases re
          refine ix_str value sl pins s σ H _ _ v u Q I rx ry ⟨toS t, i, c, rfl, rfl, by rw [toS_len, ← line_eq]; exact hl, ?_, hA.now S (.str [c])⟩ hs
          rw [toS_list]
          exact e1
      · cases hf
    · have hf' : (match asSeq h d with
        | some xs => (ixn xs.length i).bind fun j => xs[j]?
        | none => (asDct h d).bind fun kvs => look (.inl i) kvs) = some r := by
        rw [← hf]
        cases d <;> first | rfl | (exact absurd ⟨_, rfl⟩ hd)
      cases e1 : asSeq h d with
      | some xs =>
        rw [e1] at hf'
        dsimp only at hf'
        obtain ⟨a, vs, rfl, q, t⟩ := asSeq_ok S rd e1
        cases re
        cases e2 : ixn xs.length i with
        | none => rw [e2] at hf'; cases hf'
        | some j =>
          rw [e2] at hf'
          obtain ⟨z, hz, rz⟩ := t.get hf'
          have hat : atI vs i = some z := by
            show (L2.ixN vs.length i).bind _ = _
            rw [← t.length, ← ixn_eq, e2]
            exact hz
          rcases q with q | q
          · exact ix_list value sl pins s σ H _ _ v u Q I rx ry ⟨a, vs, i, z, rfl, rfl, hK ▸ q, hat, hA.now S rz⟩ hs
          · exact ix_tup value sl pins s σ H _ _ v u Q I rx ry ⟨a, vs, i, z, rfl, rfl, hK ▸ q, hat, hA.now S rz⟩ hs
      | none =>
        rw [e1] at hf'
        cases e2 : asDct h d with
        | none => rw [e2] at hf'; cases hf'
        | some kvs => rw [e2] at hf'; exact dict e2 rfl hf'
  · rename_i t
    cases e2 : asDct h d with
    | none => rw [e2] at hf; cases hf
    | some kvs => rw [e2] at hf; exact dict e2 rfl hf
end
end Fw
end
section
set_option Elab.async false
set_option maxHeartbeats 1000000
namespace Fw
open PySem PySem.Spec PyProof.Rows L2
def tE (W : Wd) (wx : WX) (f : TM) : TE := fun σ H Q => ∃ Z ρ σd h, Sim W Z ρ h H ∧ RSg W Z ρ H σd σ ∧ Post W Z ρ H (f σd h) (fun d ρ' _ H' => ∀ v, RD W Z ρ' H' d v → Q v H') (fun cls dd H' => wx cls dd σ H')
def tA (W : Wd) (wx : WX) (f : AM) : TA := fun σ H Q => ∃ Z ρ σd h, Sim W Z ρ h H ∧ RSg W Z ρ H σd σ ∧ Post W Z ρ H (f σd h) (fun ds ρ' _ H' => ∀ vs, RDs W Z ρ' H' ds vs → Q vs H') (fun cls dd H' => wx cls dd σ H')
def tB (W : Wd) (wx : WX) (f : BM) : TT := fun σ H Q => ∃ Z ρ σd h, Sim W Z ρ h H ∧ RSg W Z ρ H σd σ ∧ Post W Z ρ H (f σd h) (fun k _ _ H' => Q k H') (fun cls dd H' => wx cls dd σ H')
structure Jc (X : Cx) (W : Wd) (wx : WX) : Prop where
  hK : X.K = W.K
  hu : X.A.units + 64 < cLine
  hu2 : X.A.units + 190 < cLine
  gd : X.A.guards = some []
  tk : Takes X wx
abbrev EJ (X : Cx) (W : Wd) (wx : WX) (e : Expr) (f : TM) : Prop := PE X e (tE W wx f)
abbrev AJ (X : Cx) (W : Wd) (wx : WX) (es : List Expr) (f : AM) : Prop := PA X es (tA W wx f)
abbrev BJ (X : Cx) (W : Wd) (wx : WX) (e : Expr) (f : BM) : Prop := PT X e (tB W wx f)
abbrev WJ (X : Cx) (W : Wd) (wx : WX) (e : Expr) (f : BM) : Prop := PW X e (tB W wx f)
section
variable {W : Wd} {Z ρ : List Addr} {h : Hh} {H : Hp} {E : XK}
theorem post_opt {o : Option D} {Q : VK} (p : Post W Z ρ H (opt o h) (fun d ρ' _ H' => ∀ v, RD W Z ρ' H' d v → Q v H') E) : ∃ r, o = some r ∧ Fw.Ans W Z ρ h H r Q := by
  cases o with
  | none => exact p.elim
  | some r => exact ⟨r, rfl, fun ρ' H' v x S rv => p ρ' H' x S v rv⟩
theorem post_optB {o : Option Bool} {Q : Bool → Hp → Prop} (S : Sim W Z ρ h H) (p : Post W Z ρ H (optB o h) (fun k _ _ H' => Q k H') E) : ∃ r, o = some r ∧ Q r H := by
  cases o with
  | none => exact p.elim
  | some r => exact ⟨r, rfl, p ρ H Ext.refl S⟩
theorem post_now {α : Type} {a : α} {Q : α → List Addr → Hh → Hp → Prop} (S : Sim W Z ρ h H) (p : Post W Z ρ H (.ok a h) Q E) : Q a ρ h H := p ρ H Ext.refl S
end
variable {X : Cx} {W : Wd} {wx : WX} {a b c e : Expr} {fa fb fc f : TM} {ga gb : BM} {pos : Pos} {es rest : List Expr} {fs : AM}
theorem ej_c {v : V} {d : D} (h : PE X e (tC v)) (hd : ∀ Z ρ H, RD W Z ρ H d v) : EJ X W wx e (eC d) :=
  ⟨fun pins s σ H Q I ⟨Z, ρ, σd, h0, S, rs, p⟩ => h.run pins s σ H Q I (post_now S p v (hd Z ρ H))⟩
theorem ej_int {i : Int} {j pos} : EJ X W wx (.Constant (.int i) j pos) (eC (.int i)) := ej_c pe_int fun _ _ _ => .int i
theorem ej_bl {i : Bool} {j pos} : EJ X W wx (.Constant (.bool i) j pos) (eC (.bl i)) := ej_c pe_bl fun _ _ _ => .bl i
theorem ej_non {j pos} : EJ X W wx (.Constant .none j pos) (eC .non) := ej_c pe_non fun _ _ _ => .non
theorem ej_str {x : Str} {t : Tx} {j pos} (h : x = toS t := by rfl) : EJ X W wx (.Constant (.str x) j pos) (eC (.str t)) := by subst h; exact ej_c pe_str fun _ _ _ => .str t
theorem ej_v {i : Nat} {x : Str} (hN : X.N[i]? = some x) (hv : Vis X.env.scope x) (hd : (x == ("__debug__" : Str)) = false := by decide) (hcd : (x == ("__classdict__" : Str)) = false := by decide) : EJ X W wx (.Name x pos) (eV i) :=
  ⟨fun pins s σ H Q I ⟨Z, ρ, σd, h0, S, rs, p⟩ => by
    obtain ⟨d, hd', hA⟩ := post_opt p
    have : σd[i]? = some (some d) := by
      unfold sget at hd'
      split at hd'
      · rename_i d' q; cases hd'; exact q
      · cases hd'
    obtain ⟨v, hv', rv⟩ := rs.at_ i d this
    exact (pe_var hN hv hd hcd).run pins s σ H Q I ⟨v, hv', hA.now S rv⟩⟩
theorem aj_nil : AJ X W wx [] aNil := ⟨fun pos pins s σ H Q I ⟨Z, ρ, σd, h0, S, rs, p⟩ => pa_nil.run pos pins s σ H Q I (post_now S p [] .nil)⟩
theorem aj_cons (ha : EJ X W wx e f) (hr : AJ X W wx es fs) (hs : starEach (e :: es) X.env = (false, eval e X.env) :: starEach es X.env := by rfl) : AJ X W wx (e :: es) (aCons f fs) :=
  ⟨fun pos pins s σ H Q I ⟨Z, ρ, σd, h0, S, rs, p⟩ => (pa_cons ha hr hs).run pos pins s σ H Q I
    ⟨Z, ρ, σd, h0, S, rs, (Post.bind p).imp fun d ρ1 h1 H1 x1 S1 p1 v rv =>
      ⟨Z, ρ1, σd, h1, S1, rs.mono x1, (Post.bind p1).imp fun ds ρ2 h2 H2 x2 S2 p2 vs rvs => post_now S2 p2 (v :: vs) (.cons (rv.mono x2) rvs)⟩⟩⟩
theorem ej_tup {k} (ha : AJ X W wx es fs) : EJ X W wx (.Tuple es k pos) (eTup fs) :=
  ⟨fun pins s σ H Q I ⟨Z, ρ, σd, h0, S, rs, p⟩ => (pe_tupP ha).run pins s σ H Q I
    ⟨Z, ρ, σd, h0, S, rs, (Post.bind p).imp fun ds ρ1 h1 H1 x1 S1 p1 vs rvs => by
      split at p1
      · rename_i hl
        refine ⟨by rw [← rvs.length, ← line_eq]; exact hl, fun q n o hd => ?_⟩
        exact Fw.Ans.tupP (fun ρ' H' v x S rv => p1 ρ' H' x S v rv) S1 rvs q n hd
      · exact p1.elim⟩⟩
theorem ej_lst (ha : AJ X W wx es fs) : EJ X W wx (.List es pos) (eLst fs) :=
  ⟨fun pins s σ H Q I ⟨Z, ρ, σd, h0, S, rs, p⟩ => (pe_lst ha).run pins s σ H Q I
    ⟨Z, ρ, σd, h0, S, rs, (Post.bind p).imp fun ds ρ1 h1 H1 x1 S1 p1 vs rvs => by
      split at p1
      · rename_i hl
        refine ⟨by rw [← rvs.length, ← line_eq]; exact hl, fun q n => ?_⟩
        exact Fw.Ans.lst (fun ρ' H' v x S rv => p1 ρ' H' x S v rv) S1 rvs q n
      · exact p1.elim⟩⟩
theorem getElem?_snoc {α : Type} {xs : List α} {x : α} {n : Nat} {y : α} (h : (xs ++ [x])[n]? = some y) : (n < xs.length ∧ xs[n]? = some y) ∨ (n = xs.length ∧ y = x) := by
  by_cases hn : n < xs.length
  · rw [List.getElem?_append_left hn] at h
    exact .inl ⟨hn, h⟩
  · rw [List.getElem?_append_right (by omega)] at h
    have : n - xs.length = 0 := by
      have := (List.getElem?_eq_some_iff.mp h).1
      simp at this
      omega
    rw [this] at h
    simp at h
    exact .inr ⟨by omega, h.symm⟩
section
variable {Z ρ : List Addr} {h : Hh} {H : Hp}
theorem Ext.own {p : Addr} {o : HO} (n : H p = none) : Ext ρ H (ρ ++ [p]) (upd H p o) :=
  ⟨List.prefix_append _ _, fun a u hr e => by
    refine ⟨fun hm => ?_, ?_⟩
    · rcases List.mem_append.mp hm with hm | hm
      · exact hr hm
      · have : a = p := by simpa using hm
        subst this; rw [n] at e; cases e
    · rw [upd_ne (ne_of_none e n)]; exact e, fun a od u e => by rw [upd_ne (ne_of_none e n)]; exact e⟩
theorem OR.mono' {p a : Addr} {o : O} {u : HO} (n : H p = none) (r : OR W Z ρ H a o) : OR W Z (ρ ++ [p]) (upd H p u) a o := by
  have x : Ext ρ H (ρ ++ [p]) (upd H p u) := Ext.own n
  cases r with
  | lst e t => exact .lst (by rw [upd_ne (ne_of_none e n)]; exact e) (t.mono x)
  | ro e t =>
    refine .ro ?_ (t.mono x)
    rcases e with e | ⟨ob, e⟩
    · exact .inl (by rw [upd_ne (ne_of_none e n)]; exact e)
    · exact .inr ⟨ob, by rw [upd_ne (ne_of_none e n)]; exact e⟩
  | dct e t => exact .dct (by rw [upd_ne (ne_of_none e n)]; exact e) (t.mono x)
  | ins e t => exact .ins (by rw [upd_ne (ne_of_none e n)]; exact e) (t.mono x)
  | dtu e k t => exact .dtu (by rw [upd_ne (ne_of_none e n)]; exact e) k (t.mono x)
  | rod e t => exact .rod (by rw [upd_ne (ne_of_none e n)]; exact e) (t.mono x)
theorem Sim.own {p : Addr} {o : HO} {ob : O} (S : Sim W Z ρ h H) (n : H p = none) (r : OR W Z (ρ ++ [p]) (upd H p o) p ob) : Sim W Z (ρ ++ [p]) (h ++ [ob]) (upd H p o) where
  len := by simp [S.len]
  nd := List.nodup_append.mpr ⟨S.nd, by simp, fun a ha b hb => by
    have hb : b = p := by simpa using hb
    subst hb; exact fun e => (S.new n).2 (e ▸ ha)⟩
  dis := fun z hz => by
    obtain ⟨h1, u, e⟩ := S.dis z hz
    refine ⟨fun hm => ?_, u, by rw [upd_ne (ne_of_none e n)]; exact e⟩
    rcases List.mem_append.mp hm with hm | hm
    · exact h1 hm
    · have : z = p := by simpa using hm
      subst this; exact (S.new n).1 hz
  obj := fun m u a e1 e2 => by
    rcases getElem?_snoc e1 with ⟨hm, e1⟩ | ⟨hm, rfl⟩
    · rw [List.getElem?_append_left (by rw [S.len]; exact hm)] at e2
      exact (S.obj m u a e1 e2).mono' n
    · subst hm
      rw [List.getElem?_append_right (by rw [S.len]; exact Nat.le_refl _), S.len] at e2
      simp at e2
      subst e2
      exact r
end
theorem ej_newL (ha : AJ X W wx es fs) : EJ X W wx (.List es pos) (eNewL fs) :=
  ⟨fun pins s σ H Q I ⟨Z, ρ, σd, h0, S, rs, p⟩ => (pe_lst ha).run pins s σ H Q I
    ⟨Z, ρ, σd, h0, S, rs, (Post.bind p).imp fun ds ρ1 h1 H1 x1 S1 p1 vs rvs => by
      split at p1
      · rename_i hl
        refine ⟨by rw [← rvs.length, ← line_eq]; exact hl, fun q n => ?_⟩
        have S2 := S1.own (o := .lst vs) (ob := .lst ds) n (.lst upd_same (rvs.mono (Ext.own n)))
        exact p1 (ρ1 ++ [q]) _ (Ext.own n) S2 (.ref q) (.ref (by rw [← S1.len]; simp))
      · exact p1.elim⟩⟩
theorem ej_bin (J : Jc X W wx) {op : Bop} {o : Operator} (ho : o = bopOf op := by rfl) (ha : EJ X W wx a fa) (hb : EJ X W wx b fb) : EJ X W wx (.BinOp a o b pos) (eBin op fa fb) := by
  subst ho
  exact ⟨fun pins s σ H Q I ⟨Z, ρ, σd, h0, S, rs, p⟩ => (pe_op (op_bin J.hK op) ha hb).run pins s σ H Q I
    ⟨Z, ρ, σd, h0, S, rs, (Post.bind p).imp fun d ρ1 h1 H1 x1 S1 p1 v rv =>
      ⟨Z, ρ1, σd, h1, S1, rs.mono x1, (Post.bind p1).imp fun e ρ2 h2 H2 x2 S2 p2 u ru => by
        obtain ⟨r, e1, hA⟩ := post_opt p2
        exact ⟨Z, ρ2, h2, d, e, r, S2, rv.mono x2, ru, e1, hA⟩⟩⟩⟩
section
variable {Z ρ : List Addr} {h : Hh} {H : Hp} {E : XK}
theorem post_cmp {o : Option Bool} {Q : VK} (p : Post W Z ρ H (opt (o.map .bl) h) (fun d ρ' _ H' => ∀ v, RD W Z ρ' H' d v → Q v H') E) : ∃ r, o = some r ∧ Fw.Ans W Z ρ h H (.bl r) Q := by
  obtain ⟨r, e, hA⟩ := post_opt p
  cases o with
  | none => cases e
  | some k => cases e; exact ⟨k, rfl, hA⟩
end
theorem ej_cmp (J : Jc X W wx) {op : Cop} {o : CmpOp} (ho : o = copOf op := by rfl) (ha : EJ X W wx a fa) (hb : EJ X W wx b fb) (hm : behindInMarks o b = false := by with_unfolding_all rfl) : EJ X W wx (.Compare a [o] [b] pos) (eCmp op fa fb) := by
  subst ho
  exact ⟨fun pins s σ H Q I ⟨Z, ρ, σd, h0, S, rs, p⟩ => (pe_cmpR (op_cmp J.hK J.hu op) ha hb hm).run pins s σ H Q I
    ⟨Z, ρ, σd, h0, S, rs, (Post.bind p).imp fun d ρ1 h1 H1 x1 S1 p1 v rv =>
      ⟨Z, ρ1, σd, h1, S1, rs.mono x1, (Post.bind p1).imp fun e ρ2 h2 H2 x2 S2 p2 u ru => by
        obtain ⟨r, e1, hA⟩ := post_cmp p2
        exact ⟨Z, ρ2, h2, d, e, r, S2, rv.mono x2, ru, e1, hA⟩⟩⟩⟩
theorem bj_cmp (J : Jc X W wx) {op : Cop} {o : CmpOp} (ho : o = copOf op := by rfl) (ha : EJ X W wx a fa) (hb : EJ X W wx b fb) (hm : behindInMarks o b = false := by with_unfolding_all rfl) : BJ X W wx (.Compare a [o] [b] pos) (bCmp op fa fb) := by
  subst ho
  exact ⟨fun pins s σ H Q I ⟨Z, ρ, σd, h0, S, rs, p⟩ => (pt_cmpR (op_cmp J.hK J.hu op) ha hb hm).run pins s σ H Q I
    ⟨Z, ρ, σd, h0, S, rs, (Post.bind p).imp fun d ρ1 h1 H1 x1 S1 p1 v rv =>
      ⟨Z, ρ1, σd, h1, S1, rs.mono x1, (Post.bind p1).imp fun e ρ2 h2 H2 x2 S2 p2 u ru => by
        obtain ⟨r, e1, q⟩ := post_optB S2 p2
        refine ⟨Z, ρ2, h2, d, e, r, S2, rv.mono x2, ru, e1, fun ρ' H' v x S' rv' => ?_⟩
        cases rv'
        exact ⟨r, rfl, by
          have := p2
          rw [e1] at this
          exact this ρ' H' x S'⟩⟩⟩⟩
theorem chain_core {op op' : Cop} {Z ρ : List Addr} {h : Hh} {H : Hp} {d e : D} {v u : V} {σd : Sg} {σ : L2.St} {Q : Bool → List Addr → Hh → Hp → Prop} {Q' : VK} (S : Sim W Z ρ h H) (rs : RSg W Z ρ H σd σ) (rv : RD W Z ρ H d v) (ru : RD W Z ρ H e u)
    (p : Post W Z ρ H (match cmpop h op d e with
      | none => .bad
      | some false => R.ok false h
      | some true => (fc σd h).bind fun f h => optB (cmpop h op' e f) h) Q fun cls dd H' => wx cls dd σ H')
    (q : ∀ k ρ' h' H', Sim W Z ρ' h' H' → Q k ρ' h' H' → Q' (.bl k) H') :
    r2b W (fun h => cmpop h op) v u H fun z H3 => ∃ k, z = .bl k ∧ (if k = true then tE W wx fc σ H3 fun w' H4 => r2b W (fun h => cmpop h op') u w' H4 Q' else Q' (.bl false) H3) := by
  cases hc : cmpop h op d e with
  | none => rw [hc] at p; exact p.elim
  | some k =>
    rw [hc] at p
    refine ⟨Z, ρ, h, d, e, k, S, rv, ru, hc, fun ρ' H' w x S' rw' => ?_⟩
    cases rw'
    refine ⟨k, rfl, ?_⟩
    cases k with
    | false => exact q _ _ _ _ S' (p ρ' H' x S')
    | true =>
      have p' := p.mono x
      rw [if_pos rfl]
      refine ⟨Z, ρ', σd, h, S', rs.mono x, (Post.bind p').imp fun g ρ2 h2 H2 x2 S2 p2 w rw2 => ?_⟩
      cases hc2 : cmpop h2 op' e g with
      | none => rw [hc2] at p2; exact p2.elim
      | some k2 =>
        rw [hc2] at p2
        exact ⟨Z, ρ2, h2, e, g, k2, S2, (ru.mono x).mono x2, rw2, hc2, fun ρ3 H3 w3 x3 S3 r3 => by cases r3; exact q _ _ _ _ S3 (p2 ρ3 H3 x3 S3)⟩
theorem ej_ch (J : Jc X W wx) {op op' : Cop} {o o' : CmpOp} (ho : o = copOf op := by rfl) (ho' : o' = copOf op' := by rfl) (ha : EJ X W wx a fa) (hb : EJ X W wx b fb) (hc : EJ X W wx c fc)
    (hm : lastMarks [o, o'] [b, c] = false := by with_unfolding_all rfl) : EJ X W wx (.Compare a [o, o'] [b, c] pos) (eCh op op' fa fb fc) := by
  subst ho ho'
  exact ⟨fun pins s σ H Q I ⟨Z, ρ, σd, h0, S, rs, p⟩ => (pe_chain (op_cmp J.hK J.hu op) (op_cmp J.hK J.hu op') ha hb hc hm).run pins s σ H Q I
    ⟨Z, ρ, σd, h0, S, rs, (Post.bind (Post.bind p)).imp fun d ρ1 h1 H1 x1 S1 p1 v rv =>
      ⟨Z, ρ1, σd, h1, S1, rs.mono x1, (Post.bind p1).imp fun e ρ2 h2 H2 x2 S2 p2 u ru =>
        chain_core S2 ((rs.mono x1).mono x2) (rv.mono x2) ru p2 fun k _ _ H' S' q => post_now S' q _ (.bl k)⟩⟩⟩
theorem ej_and (J : Jc X W wx) (ha : EJ X W wx a fa) (hb : EJ X W wx (.BoolOp .And (b :: rest) pos) fb) : EJ X W wx (.BoolOp .And (a :: b :: rest) pos) (eAnd fa fb) :=
  ⟨fun pins s σ H Q I ⟨Z, ρ, σd, h0, S, rs, p⟩ => (pe_andT ha hb).run pins s σ H Q I
    ⟨Z, ρ, σd, h0, S, rs, (Post.bind p).imp fun d ρ1 h1 H1 x1 S1 p1 v rv => by
      cases ht : tru h1 d with
      | none => rw [ht] at p1; exact p1.elim
      | some k =>
        rw [ht] at p1
        refine ⟨k, J.hK ▸ tru_ok S1 rv ht, ?_⟩
        cases k with
        | true => exact ⟨Z, ρ1, σd, h1, S1, rs.mono x1, p1⟩
        | false => exact post_now S1 p1 v rv⟩⟩
theorem ej_one {op} (ha : EJ X W wx a fa) : EJ X W wx (.BoolOp op [a] pos) fa := pe_one ha
theorem ej_not (J : Jc X W wx) (ha : EJ X W wx a fa) : EJ X W wx (.UnaryOp .Not a pos) (eNot fa) :=
  ⟨fun pins s σ H Q I ⟨Z, ρ, σd, h0, S, rs, p⟩ => (pe_notT ha).run pins s σ H Q I
    ⟨Z, ρ, σd, h0, S, rs, (Post.bind p).imp fun d ρ1 h1 H1 x1 S1 p1 v rv => by
      cases ht : tru h1 d with
      | none => rw [ht] at p1; exact p1.elim
      | some k =>
        rw [ht] at p1
        exact ⟨k, J.hK ▸ tru_ok S1 rv ht, post_now S1 p1 _ (.bl _)⟩⟩⟩
theorem bj_t (J : Jc X W wx) (ha : EJ X W wx a fa) (he : ∀ whole, isTrue a X.env whole = (do let v ← whole; standAt a.pos; holding [v] (truthy v)) := by intro _; rfl) : BJ X W wx a (bT fa) :=
  ⟨fun pins s σ H Q I ⟨Z, ρ, σd, h0, S, rs, p⟩ => (pt_truth ha he).run pins s σ H Q I
    ⟨Z, ρ, σd, h0, S, rs, (Post.bind p).imp fun d ρ1 h1 H1 x1 S1 p1 v rv => by
      obtain ⟨k, ht, q⟩ := post_optB S1 p1
      exact ⟨k, J.hK ▸ tru_ok S1 rv ht, q⟩⟩⟩
theorem wj_and1 (ha : BJ X W wx a ga) : WJ X W wx (.BoolOp .And [a] pos) ga := pw_and1 ha
theorem wj_or1 (ha : BJ X W wx a ga) : WJ X W wx (.BoolOp .Or [a] pos) ga := pw_or1 ha
theorem wj_and (ha : BJ X W wx a ga) (hb : WJ X W wx (.BoolOp .And (b :: rest) pos) gb) : WJ X W wx (.BoolOp .And (a :: b :: rest) pos) (bAnd ga gb) :=
  ⟨fun whole pins s σ H Q I ⟨Z, ρ, σd, h0, S, rs, p⟩ => (pw_and ha hb).run whole pins s σ H Q I
    ⟨Z, ρ, σd, h0, S, rs, (Post.bind p).imp fun k ρ1 h1 H1 x1 S1 p1 => by
      cases k with
      | true => exact ⟨Z, ρ1, σd, h1, S1, rs.mono x1, p1⟩
      | false => exact post_now S1 p1⟩⟩
theorem wj_or (ha : BJ X W wx a ga) (hb : WJ X W wx (.BoolOp .Or (b :: rest) pos) gb) : WJ X W wx (.BoolOp .Or (a :: b :: rest) pos) (bOr ga gb) :=
  ⟨fun whole pins s σ H Q I ⟨Z, ρ, σd, h0, S, rs, p⟩ => (pw_or ha hb).run whole pins s σ H Q I
    ⟨Z, ρ, σd, h0, S, rs, (Post.bind p).imp fun k ρ1 h1 H1 x1 S1 p1 => by
      cases k with
      | false => exact ⟨Z, ρ1, σd, h1, S1, rs.mono x1, p1⟩
      | true => exact post_now S1 p1⟩⟩
theorem bj_w (h : WJ X W wx a ga) : BJ X W wx a ga := PW.pt h
theorem bj_not (ha : BJ X W wx a ga) : BJ X W wx (.UnaryOp .Not a pos) (bNot ga) :=
  ⟨fun pins s σ H Q I ⟨Z, ρ, σd, h0, S, rs, p⟩ => (pt_not ha).run pins s σ H Q I
    ⟨Z, ρ, σd, h0, S, rs, (Post.bind p).imp fun k ρ1 h1 H1 x1 S1 p1 => post_now S1 p1⟩⟩
theorem ej_ix (J : Jc X W wx) (ha : EJ X W wx a fa) (hb : EJ X W wx b fb) (hs : PlainIx b := by intro _ _; rfl) : EJ X W wx (.Subscript a b pos) (eIx fa fb) :=
  ⟨fun pins s σ H Q I ⟨Z, ρ, σd, h0, S, rs, p⟩ => (pe_ix (ix_all J.hK J.hu) ha hb hs).run pins s σ H Q I
    ⟨Z, ρ, σd, h0, S, rs, (Post.bind p).imp fun d ρ1 h1 H1 x1 S1 p1 v rv =>
      ⟨Z, ρ1, σd, h1, S1, rs.mono x1, (Post.bind p1).imp fun e ρ2 h2 H2 x2 S2 p2 u ru => by
        obtain ⟨r, e1, hA⟩ := post_opt p2
        exact ⟨Z, ρ2, h2, d, e, r, S2, rv.mono x2, ru, e1, hA⟩⟩⟩⟩
end Fw
end
section
set_option Elab.async false
set_option maxHeartbeats 1000000
namespace Fw
open PySem PySem.Spec PyProof.Rows L2
section
variable {W : Wd} {Z ρ : List Addr} {H : Hp} {σd : Sg} {σ : L2.St}
theorem RSg.set (r : RSg W Z ρ H σd σ) {i : Nat} {d : D} {v : V} (rv : RD W Z ρ H d v) : RSg W Z ρ H (σd.set i (some d)) (σ.set i (some v)) where
  len := by simp [r.len]
  at_ := fun j e h => by
    by_cases hij : i = j
    · subst hij
      by_cases hl : i < σd.length
      · rw [List.getElem?_set_self hl] at h
        cases h
        exact ⟨v, by rw [List.getElem?_set_self (by rw [← r.len]; exact hl)], rv⟩
      · rw [List.getElem?_eq_none (by simpa using hl)] at h; cases h
    · rw [List.getElem?_set_ne hij] at h
      rw [List.getElem?_set_ne hij]
      exact r.at_ j e h
theorem RSg.wipe (r : RSg W Z ρ H σd σ) : ∀ vs : List Nat, RSg W Z ρ H (Fw.wipe σd vs) (L2.wipe σ vs)
  | [] => r
  | v :: vs => by
    have ih := r.wipe vs
    refine ⟨by simp [Fw.wipe, L2.wipe, ih.len], fun j e h => ?_⟩
    simp only [Fw.wipe] at h
    by_cases hij : v = j
    · subst hij
      by_cases hl : v < (Fw.wipe σd vs).length
      · rw [List.getElem?_set_self hl] at h; cases h
      · rw [List.getElem?_eq_none (by simpa using hl)] at h; cases h
    · rw [List.getElem?_set_ne hij] at h
      simp only [L2.wipe]
      rw [List.getElem?_set_ne hij]
      exact ih.at_ j e h
end
theorem wipe_set {σ : L2.St} {i : Nat} {x : Option V} : ∀ {vs : List Nat}, i ∈ vs → L2.wipe (σ.set i x) vs = L2.wipe σ vs
  | [], h => absurd h (by simp)
  | v :: vs, h => by
    simp only [L2.wipe]
    by_cases hv : i ∈ vs
    · rw [wipe_set hv]
    · have : i = v := by simpa [hv] using h
      subst this
      have out : ∀ (vs : List Nat) (σ : L2.St), i ∉ vs → L2.wipe (σ.set i x) vs = (L2.wipe σ vs).set i x := by
        intro vs
        induction vs with
        | nil => intro σ _; rfl
        | cons w ws ih =>
          intro σ hw
          simp only [L2.wipe]
          rw [ih σ (fun q => hw (List.mem_cons_of_mem _ q))]
          exact List.set_comm _ _ (fun q => hw (by subst q; exact List.mem_cons_self))
      rw [out vs σ hv, List.set_set]
mutual
def gOf (K : PySem.W.Frag) : G → TG
  | .nm i => gName i
  | .tp gs => fun v σ H Q => gTup K gs.length (gsOf K gs) v σ H Q ∨ gLst K gs.length (gsOf K gs) v σ H Q
def gsOf (K : PySem.W.Frag) : List G → TGs
  | [] => gNil
  | g :: gs => gCons (gOf K g) (gsOf K gs)
end
theorem bindGs_len : ∀ {gs : List G} {xs : List D} {σ σ' : Sg}, bindGs σ gs xs = some σ' → xs.length = gs.length
  | [], [], _, _, _ => rfl
  | [], _ :: _, _, _, h => by simp [bindGs] at h
  | _ :: _, [], _, _, h => by simp [bindGs] at h
  | g :: gs, x :: xs, σ, σ', h => by
    simp only [bindGs] at h
    split at h
    · simp [bindGs_len h]
    · cases h
section
variable {W : Wd} {K : PySem.W.Frag} {Z ρ : List Addr} {H : Hp}
mutual
theorem bindG_ok (hK : K = W.K) : ∀ (g : G) {d : D} {v : V} {σd σd' : Sg} {σ : L2.St} {Q : L2.St → Hp → Prop}, RSg W Z ρ H σd σ → RD W Z ρ H d v → bindG σd g d = some σd' →
    (∀ σ', RSg W Z ρ H σd' σ' → (∀ own : List Nat, (∀ i ∈ g.ix, i ∈ own) → L2.wipe σ' own = L2.wipe σ own) → Q σ' H) → gOf K g v σ H Q
  | .nm i, d, v, σd, σd', σ, Q, rs, rv, e, q => by
    simp only [bindG] at e
    cases e
    exact q _ (rs.set rv) fun own ho => wipe_set (ho i (by simp [G.ix]))
  | .tp gs, d, v, σd, σd', σ, Q, rs, rv, e, q => by
    cases rv <;> simp only [bindG] at e <;> first | (cases e; done) | skip
    case tup a ds vs z ra h t =>
      refine .inl ⟨a, vs, rfl, .inl h.rd, by rw [← t.length]; exact bindGs_len e, bindGs_ok hK gs rs t e fun σ' r w => q σ' r fun own ho => w own (by simpa [G.ix] using ho)⟩
    case tupK a ds vs h t =>
      refine .inl ⟨a, vs, rfl, hK ▸ .inr h, by rw [← t.length]; exact bindGs_len e, bindGs_ok hK gs rs t e fun σ' r w => q σ' r fun own ho => w own (by simpa [G.ix] using ho)⟩
    case lst a ds vs z ra h t =>
      refine .inr ⟨a, vs, rfl, SqL.of h, by rw [← t.length]; exact bindGs_len e, bindGs_ok hK gs rs t e fun σ' r w => q σ' r fun own ho => w own (by simpa [G.ix] using ho)⟩
theorem bindGs_ok (hK : K = W.K) : ∀ (gs : List G) {ds : List D} {vs : List V} {σd σd' : Sg} {σ : L2.St} {Q : L2.St → Hp → Prop}, RSg W Z ρ H σd σ → RDs W Z ρ H ds vs → bindGs σd gs ds = some σd' →
    (∀ σ', RSg W Z ρ H σd' σ' → (∀ own : List Nat, (∀ i ∈ ixs gs, i ∈ own) → L2.wipe σ' own = L2.wipe σ own) → Q σ' H) → gsOf K gs vs σ H Q
  | [], ds, vs, σd, σd', σ, Q, rs, rv, e, q => by
    cases rv with
    | nil => simp only [bindGs] at e; cases e; exact ⟨rfl, q _ rs fun _ _ => rfl⟩
    | cons _ _ => simp [bindGs] at e
  | g :: gs, ds, vs, σd, σd', σ, Q, rs, rv, e, q => by
    cases rv with
    | nil => simp [bindGs] at e
    | cons r t =>
      simp only [bindGs] at e
      split at e
      · rename_i σ1 e1
        refine ⟨_, _, rfl, bindG_ok hK g rs r e1 fun σ' r1 w1 => bindGs_ok hK gs r1 t e fun σ2 r2 w2 => q σ2 r2 fun own ho => ?_⟩
        rw [w2 own (fun i hi => ho i (by simp [ixs, hi])), w1 own (fun i hi => ho i (by simp [ixs, hi]))]
      · cases e
end
end
abbrev GJ (X : Cx) (tg : Expr) (g : G) : Prop := PG X tg (gOf X.K g)
abbrev GsJ (X : Cx) (tg : List Expr) (gs : List G) : Prop := PGs X tg (gsOf X.K gs)
section
variable {X : Cx} {pos : Pos}
theorem gj_nm {i : Nat} {x : Str} (hN : X.N.Nodup) (hi : X.N[i]? = some x) (hx : Loc X.env.scope x) (hf : X.fn x = true ∨ X.env.scope.names.lookup x = some .local := by first | exact .inl rfl | exact .inr rfl | assumption) : GJ X (.Name x pos) (.nm i) := pg_name hN hi hx hf
theorem gsj_nil : GsJ X [] [] := pgs_nil
theorem gsj_cons {e : Expr} {es : List Expr} {g : G} {gs : List G} (h1 : GJ X e g) (h2 : GsJ X es gs)
    (hs : (assignEach (e :: es) X.env).map (·.2) = assign e X.env :: (assignEach es X.env).map (·.2) := by rfl) : GsJ X (e :: es) (g :: gs) := pgs_cons h1 h2 hs
theorem gj_tp {es : List Expr} {k : Nat} {gs : List G} (hc : X.calm = true) (h : GsJ X es gs)
    (hn : (assignEach es X.env).length = gs.length := by rfl) (hst : (assignEach es X.env).findIdx? (·.1) = none := by rfl) : GJ X (.Tuple es k pos) (.tp gs) := by
  refine ⟨fun pins s σ H v u Q I r q => ?_⟩
  rcases q with q | q
  · exact (pg_tup hc h hn hst).run pins s σ H v u Q I r q
  · exact (pg_lst hc h hn hst).run pins s σ H v u Q I r q
end
def PostS (W : Wd) (Z ρ : List Addr) (H : Hp) (r : SR) (D : Ends) (wx : WX) : Prop := match r with
  | .nx σd h => ∀ ρ' H' σ', Ext ρ H ρ' H' → Sim W Z ρ' h H' → RSg W Z ρ' H' σd σ' → D.nx σ' H'
  | .bk σd h => ∀ ρ' H' σ', Ext ρ H ρ' H' → Sim W Z ρ' h H' → RSg W Z ρ' H' σd σ' → D.bk σ' H'
  | .ct σd h => ∀ ρ' H' σ', Ext ρ H ρ' H' → Sim W Z ρ' h H' → RSg W Z ρ' H' σd σ' → D.ct σ' H'
  | .rt d h => ∀ ρ' H' v, Ext ρ H ρ' H' → Sim W Z ρ' h H' → RD W Z ρ' H' d v → D.rt v H'
  | .xn x σd h => ∀ ρ' H' σ' cls dd, Ext ρ H ρ' H' → Sim W Z ρ' h H' → RSg W Z ρ' H' σd σ' → RX W Z ρ' H' x cls dd → wx cls dd σ' H'
  | .bad => False
def tS (W : Wd) (wx : WX) (f : SM) : TS := fun D σ H => ∃ Z ρ σd h, Sim W Z ρ h H ∧ RSg W Z ρ H σd σ ∧ PostS W Z ρ H (f σd h) D wx
abbrev SJ (X : Cx) (W : Wd) (wx : WX) (st : Stmt) (f : SM) : Prop := PS X st (tS W wx f)
abbrev SsJ (X : Cx) (W : Wd) (wx : WX) (st : List Stmt) (f : SM) : Prop := PSs X st (tS W wx f)
section
variable {W : Wd} {Z ρ ρ1 : List Addr} {H H1 : Hp} {r : SR} {D D' : Ends} {wx wx' : WX}
theorem PostS.mono (x : Ext ρ H ρ1 H1) (p : PostS W Z ρ H r D wx) : PostS W Z ρ1 H1 r D wx := by
  cases r with
  | nx σ h => exact fun ρ' H' σ' y => p ρ' H' σ' (x.trans y)
  | bk σ h => exact fun ρ' H' σ' y => p ρ' H' σ' (x.trans y)
  | ct σ h => exact fun ρ' H' σ' y => p ρ' H' σ' (x.trans y)
  | rt d h => exact fun ρ' H' v y => p ρ' H' v (x.trans y)
  | xn e σ h => exact fun ρ' H' σ' cls dd y => p ρ' H' σ' cls dd (x.trans y)
  | bad => exact p
theorem PostS.of {α : Type} {σd : Sg} {σ : L2.St} {a : R α} {k : α → Hh → SR} (rs : RSg W Z ρ H σd σ) (p : PostS W Z ρ H (SR.of σd a k) D wx) :
    Post W Z ρ H a (fun v ρ1 h1 H1 => PostS W Z ρ1 H1 (k v h1) D wx) (fun cls dd H' => wx cls dd σ H') := by
  cases a with
  | ok v h => exact fun ρ' H' x _ => p.mono x
  | xn e h => exact fun ρ' H' cls dd x S rx => p ρ' H' σ cls dd x S (rs.mono x) rx
  | bad => exact p
theorem PostS.nx {σd : Sg} {σ : L2.St} {h : Hh} (S : Sim W Z ρ h H) (rs : RSg W Z ρ H σd σ) (p : PostS W Z ρ H (.nx σd h) D wx) : D.nx σ H := p ρ H σ Ext.refl S rs
theorem PostS.then_ {k : Sg → Hh → SR} (p : PostS W Z ρ H (r.then_ k) D wx) : PostS W Z ρ H r { D with nx := fun σ' H' => ∃ ρ' σd' h', Sim W Z ρ' h' H' ∧ RSg W Z ρ' H' σd' σ' ∧ PostS W Z ρ' H' (k σd' h') D wx } wx := by
  cases r with
  | nx σ h => exact fun ρ' H' σ' x S rs => ⟨ρ', σ, h, S, rs, PostS.mono x p⟩
  | bk σ h => exact p
  | ct σ h => exact p
  | rt d h => exact p
  | xn e σ h => exact p
  | bad => exact p
end
structure Js (X : Cx) (W : Wd) (wx : WX) : Prop extends Jc X W wx where
  hN : X.N.Nodup
  hc : X.calm = true
  hp : PassesOwn (model X.prog X.w) X.A X.env X.xe
section
variable {X : Cx} {W : Wd} {wx : WX} {e c : Expr} {f : TM} {g : BM} {fs : AM} {pos : Pos} {st : Stmt} {rest : List Stmt} {a b : SM}
theorem ss_nil : SsJ X W wx [] sNil := ⟨fun pins s σ H D I ⟨Z, ρ, σd, h0, S, rs, p⟩ => pss_nil.run pins s σ H D I (p.nx S rs)⟩
theorem ss_cons (h1 : SJ X W wx st a) (h2 : SsJ X W wx rest b) : SsJ X W wx (st :: rest) (sCons a b) :=
  ⟨fun pins s σ H D I ⟨Z, ρ, σd, h0, S, rs, p⟩ => (pss_cons h1 h2).run pins s σ H D I
    ⟨Z, ρ, σd, h0, S, rs, by
      have q := PostS.then_ p
      cases hr : a σd h0 with
      | nx σ h => rw [hr] at q; exact fun ρ' H' σ' x S rs => let ⟨ρ2, σ2, h2, S2, r2, p2⟩ := q ρ' H' σ' x S rs; ⟨Z, ρ2, σ2, h2, S2, r2, p2⟩
      | bk σ h => rw [hr] at q; exact q
      | ct σ h => rw [hr] at q; exact q
      | rt d h => rw [hr] at q; exact q
      | xn e σ h => rw [hr] at q; exact q
      | bad => rw [hr] at q; exact q⟩⟩
theorem sj_ex (he : EJ X W wx e f) (hs : swapsWith e none pos.line X.env = pure false := by rfl) : SJ X W wx (.Expr e pos) (sEx f) :=
  ⟨fun pins s σ H D I ⟨Z, ρ, σd, h0, S, rs, p⟩ => (ps_expr he hs).run pins s σ H D I
    ⟨Z, ρ, σd, h0, S, rs, (PostS.of rs p).imp fun d ρ1 h1 H1 x1 S1 p1 v rv => p1.nx S1 (rs.mono x1)⟩⟩
theorem sj_ret (he : EJ X W wx e f) : SJ X W wx (.Return (some e) pos) (sRet f) :=
  ⟨fun pins s σ H D I ⟨Z, ρ, σd, h0, S, rs, p⟩ => (ps_ret he).run pins s σ H D I
    ⟨Z, ρ, σd, h0, S, rs, (PostS.of rs p).imp fun d ρ1 h1 H1 x1 S1 p1 v rv => p1 ρ1 H1 v Ext.refl S1 rv⟩⟩
theorem sj_if {p q : List Stmt} (hc : BJ X W wx c g) (ha : SsJ X W wx p a) (hb : SsJ X W wx q b) : SJ X W wx (.If c p q pos) (sIf g a b) :=
  ⟨fun pins s σ H D I ⟨Z, ρ, σd, h0, S, rs, p⟩ => (ps_if hc ha hb).run pins s σ H D I
    ⟨Z, ρ, σd, h0, S, rs, (PostS.of rs p).imp fun k ρ1 h1 H1 x1 S1 p1 => by
      cases k with
      | true => exact ⟨Z, ρ1, σd, h1, S1, rs.mono x1, p1⟩
      | false => exact ⟨Z, ρ1, σd, h1, S1, rs.mono x1, p1⟩⟩⟩
theorem sj_set {i : Nat} {x : Str} {pos' : Pos} (J : Js X W wx) (hi : X.N[i]? = some x) (hx : Loc X.env.scope x) (he : EJ X W wx e f) (hs : swapsWith e (some (.Name x pos')) pos.line X.env = pure false := by rfl) (hf : X.fn x = true ∨ X.env.scope.names.lookup x = some .local := by first | exact .inl rfl | exact .inr rfl | assumption) :
    SJ X W wx (.Assign [.Name x pos'] e pos) (sSet i f) :=
  ⟨fun pins s σ H D I ⟨Z, ρ, σd, h0, S, rs, p⟩ => (ps_set J.hN hi hx he hs hf).run pins s σ H D I
    ⟨Z, ρ, σd, h0, S, rs, (PostS.of rs p).imp fun d ρ1 h1 H1 x1 S1 p1 v rv => p1.nx S1 ((rs.mono x1).set rv)⟩⟩
theorem sj_asg {tg : Expr} {gt : G} (J : Js X W wx) (he : EJ X W wx e f) (hg : GJ X tg gt) (hs : swapsWithSole [tg] e pos.line X.env = pure false := by rfl) (hw : swappedStores [tg] e X.env = pure none := by rfl)
    (h1 : (assignEach [tg] X.env).map (·.2) = [assign tg X.env] := by rfl) : SJ X W wx (.Assign [tg] e pos) (sAsg gt f) :=
  ⟨fun pins s σ H D I ⟨Z, ρ, σd, h0, S, rs, p⟩ => (ps_asg he hg hs hw h1).run pins s σ H D I
    ⟨Z, ρ, σd, h0, S, rs, (PostS.of rs p).imp fun d ρ1 h1 H1 x1 S1 p1 v rv => by
      cases hb : bindG σd gt d with
      | none => rw [hb] at p1; exact p1.elim
      | some σ2 =>
        rw [hb] at p1
        exact bindG_ok J.hK gt (rs.mono x1) rv hb fun σ' r' _ => p1.nx S1 r'⟩⟩
theorem wh_post {Z ρ : List Addr} {H : Hp} {r : SR} {D : Ends} {k : Sg → Hh → SR} (p : PostS W Z ρ H (match r with
      | .nx σ h => k σ h
      | .ct σ h => k σ h
      | .bk σ h => .nx σ h
      | r => r) D wx) {N : L2.St → Hp → Prop} (hN : ∀ ρ' H' σ' σd' h', Sim W Z ρ' h' H' → RSg W Z ρ' H' σd' σ' → Ext ρ H ρ' H' → PostS W Z ρ' H' (k σd' h') D wx → N σ' H') :
    PostS W Z ρ H r { D with nx := N, ct := N, bk := D.nx } wx := by
  cases r with
  | nx σ h => exact fun ρ' H' σ' x S rs => hN ρ' H' σ' σ h S rs x (PostS.mono x p)
  | ct σ h => exact fun ρ' H' σ' x S rs => hN ρ' H' σ' σ h S rs x (PostS.mono x p)
  | bk σ h => exact p
  | rt d h => exact p
  | xn e σ h => exact p
  | bad => exact p
theorem sj_wh {p : List Stmt} {n : Nat} (J : Js X W wx) (hc : BJ X W wx c g) (hb : SsJ X W wx p b) : SJ X W wx (.While c p [] pos) (sWh n g b) :=
  ⟨fun pins s σ H D I ⟨Z, ρ, σd, h0, S, rs, p⟩ => (ps_while J.hp hc hb).run pins s σ H D I
    ⟨fun m σ H => ∃ ρ σd h, Sim W Z ρ h H ∧ RSg W Z ρ H σd σ ∧ PostS W Z ρ H (whL g b m σd h) D wx, ⟨n, ρ, σd, h0, S, rs, p⟩, fun m σ H ⟨ρ, σd, h, S, rs, p⟩ => by
      cases m with
      | zero => exact p.elim
      | succ m =>
        refine ⟨Z, ρ, σd, h, S, rs, (PostS.of rs p).imp fun k ρ1 h1 H1 x1 S1 p1 => ?_⟩
        cases k with
        | false => exact p1.nx S1 (rs.mono x1)
        | true =>
          rw [if_pos rfl]
          refine ⟨fun σ' H' => ∃ ρ σd h, Sim W Z ρ h H' ∧ RSg W Z ρ H' σd σ' ∧ PostS W Z ρ H' (whL g b m σd h) D wx, fun σ' H' q => ⟨m, Nat.lt_succ_self m, q⟩, Z, ρ1, σd, h1, S1, rs.mono x1, ?_⟩
          exact wh_post p1 fun ρ' H' σ' σd' h' S' rs' _ q => ⟨ρ', σd', h', S', rs', q⟩⟩⟩
end
structure ExtZ (Z ρ : List Addr) (H : Hp) (ρ' : List Addr) (H' : Hp) : Prop where
  pre : ρ <+: ρ'
  keep : ∀ a o, a ∉ Z → a ∉ ρ → H a = some o → a ∉ ρ' ∧ H' a = some o
  fz : ∀ a od u, H a = some (.frz od u) → H' a = some (.frz od u)
theorem Ext.z {Z ρ ρ' : List Addr} {H H' : Hp} (x : Ext ρ H ρ' H') : ExtZ Z ρ H ρ' H' := ⟨x.pre, fun a o _ => x.keep a o, x.fz⟩
theorem ExtZ.tup {W : Wd} {Z ρ ρ' : List Addr} {H H' : Hp} (x : ExtZ Z ρ H ρ' H') {a : Addr} {vs : List V} (z : a ∉ Z) (h : a ∉ ρ) (r : TupAt W H a vs) : a ∉ ρ' ∧ TupAt W H' a vs :=
  ⟨let ⟨_, e, _⟩ := r; (x.keep a _ z h e).1, r.map fun u e => (x.keep a u z h e).2⟩
theorem ExtZ.rd {Z ρ ρ' : List Addr} {H H' : Hp} (x : ExtZ Z ρ H ρ' H') {a : Addr} {u : HO} (z : a ∉ Z) (h : a ∉ ρ) (r : Rd H a u) : a ∉ ρ' ∧ Rd H' a u := by
  rcases r with r | ⟨o, r⟩
  · exact ⟨(x.keep a _ z h r).1, .inl (x.keep a _ z h r).2⟩
  · exact ⟨(x.keep a _ z h r).1, .inr ⟨o, (x.keep a _ z h r).2⟩⟩
section
variable {W : Wd} {Z ρ ρ' : List Addr} {H H' : Hp}
mutual
theorem RD.monoZ (x : ExtZ Z ρ H ρ' H') : ∀ {d : D} {v : V}, RD W Z ρ H d v → RD W Z ρ' H' d v
  | _, _, .non => .non
  | _, _, .bl b => .bl b
  | _, _, .int i => .int i
  | _, _, .str s => .str s
  | _, _, .tup z r q t => .tup z (x.tup z r q).1 (x.tup z r q).2 (RDs.monoZ x t)
  | _, _, .tupK k t => .tupK k (RDs.monoZ x t)
  | _, _, .lst z r q t => .lst z (x.keep _ _ z r q).1 (x.keep _ _ z r q).2 (RDs.monoZ x t)
  | _, _, .dct z r q t => .dct z (x.rd z r q).1 (x.rd z r q).2 (RKs.monoZ x t)
  | _, _, .obj z r q t => .obj z (x.keep _ _ z r q).1 (x.keep _ _ z r q).2 (RFs.monoZ x t)
  | _, _, .ref e => .ref (pre_get x.pre e)
  | _, _, .fn f => .fn f
  | _, _, .roi q => .roi (q.elim (fun ⟨z, r, q⟩ => .inl ⟨z, (x.rd z r q).1, (x.rd z r q).2⟩) .inr)
theorem RDs.monoZ (x : ExtZ Z ρ H ρ' H') : ∀ {ds : List D} {vs : List V}, RDs W Z ρ H ds vs → RDs W Z ρ' H' ds vs
  | _, _, .nil => .nil
  | _, _, .cons r t => .cons (RD.monoZ x r) (RDs.monoZ x t)
theorem RKs.monoZ (x : ExtZ Z ρ H ρ' H') : ∀ {ds : List (K1 × D)} {vs : List (Key × V)}, RKs W Z ρ H ds vs → RKs W Z ρ' H' ds vs
  | _, _, .nil => .nil
  | _, _, .cons r t => .cons (RD.monoZ x r) (RKs.monoZ x t)
theorem RFs.monoZ (x : ExtZ Z ρ H ρ' H') : ∀ {ds : List (Nat × D)} {vs : List (Str × V)}, RFs W Z ρ H ds vs → RFs W Z ρ' H' ds vs
  | _, _, .nil => .nil
  | _, _, .cons r t => .cons (RD.monoZ x r) (RFs.monoZ x t)
end
end
def Walks (W : Wd) (Z ρ : List Addr) (H : Hp) (J : L2.It) (xs : List D) : Prop := ∀ Z' ρ' h' H', (∀ z ∈ Z', z ∈ Z ∨ H z = none) → ExtZ Z' ρ H ρ' H' → Sim W Z' ρ' h' H' →
  (∀ (i : Nat) (x : D), xs[i]? = some x → J.go i H' ∧ ∀ v H2, J.yld i H' v H2 → Ext ρ' H' ρ' H2 ∧ Sim W Z' ρ' h' H2 ∧ RD W Z' ρ' H2 x v) ∧ J.stop xs.length H'
def tI (W : Wd) (wx : WX) (it : It) (src : AM) : TI := fun σ H R => ∃ Z ρ σd h, Sim W Z ρ h H ∧ RSg W Z ρ H σd σ ∧ Post W Z ρ H (itM it src σd h) (fun xs ρ' _ H' => ∀ J, Walks W Z ρ' H' J xs → R J H') (fun cls dd H' => wx cls dd σ H')
abbrev IJ (X : Cx) (W : Wd) (wx : WX) (tg e : Expr) (it : It) (src : AM) : Prop := PI X tg e (tI W wx it src)
theorem fl_post {W : Wd} {wx : WX} {Z ρ : List Addr} {H : Hp} {D : Ends} {body : Fw.D → Sg → Hh → SR} {x : Fw.D} {xs : List Fw.D} {σd : Sg} {h : Hh} (p : PostS W Z ρ H (forL body (x :: xs) σd h) D wx)
    {N : L2.St → Hp → Prop} (hN : ∀ ρ' H' σ' σd' h', Sim W Z ρ' h' H' → RSg W Z ρ' H' σd' σ' → Ext ρ H ρ' H' → PostS W Z ρ' H' (forL body xs σd' h') D wx → N σ' H') :
    PostS W Z ρ H (body x σd h) { D with nx := N, ct := N, bk := D.nx } wx := by
  simp only [forL] at p
  exact wh_post p hN
theorem sj_for {X : Cx} {W : Wd} {wx : WX} {tg iter : Expr} {body : List Stmt} {it : It} {src : AM} {g : G} {b : SM} {pos : Pos} (J : Js X W wx) (hi : IJ X W wx tg iter it src) (hg : GJ X tg g) (hb : SsJ X W wx body b)
    (hs : ∀ x, foldedSetIterable iter X.env x = pure x := by intro _; rfl) : SJ X W wx (.For tg iter body [] pos) (sFor g it src b) :=
  ⟨fun pins s σ H D I ⟨Z, ρ, σd, h0, S, rs, p⟩ => (ps_for J.hp J.hc hi hg hb hs).run pins s σ H D I
    ⟨Z, ρ, σd, h0, S, rs, (PostS.of rs p).imp fun xs ρ1 h1 H1 x1 S1 p1 Ji hw => by
      refine ⟨fun i m σ H => ∃ ρ σd h, i ≤ xs.length ∧ m = xs.length - i ∧ Ext ρ1 H1 ρ H ∧ Sim W Z ρ h H ∧ RSg W Z ρ H σd σ ∧ PostS W Z ρ H (forL (forB g b) (xs.drop i) σd h) D wx,
        ⟨xs.length, ρ1, σd, h1, Nat.zero_le _, rfl, Ext.refl, S1, rs.mono x1, p1⟩, fun i m σ H ⟨ρ2, σ2, h2, hi, hm, x2, S2, r2, p2⟩ => ?_⟩
      have w := hw Z ρ2 h2 H (fun z hz => .inl hz) x2.z S2
      by_cases he : i = xs.length
      · subst he
        rw [List.drop_length] at p2
        exact .inl ⟨w.2, p2.nx S2 r2⟩
      · have hlt : i < xs.length := by omega
        obtain ⟨go, yl⟩ := w.1 i xs[i] (by simp [hlt])
        rw [List.drop_eq_getElem_cons hlt] at p2
        refine .inr ⟨go, fun σ' H' => ∃ ρ σd h, i + 1 ≤ xs.length ∧ Ext ρ1 H1 ρ H' ∧ Sim W Z ρ h H' ∧ RSg W Z ρ H' σd σ' ∧ PostS W Z ρ H' (forL (forB g b) (xs.drop (i + 1)) σd h) D wx,
          fun σ' H' ⟨ρ3, σ3, h3, a1, a2, a3, a4, a5⟩ => ⟨xs.length - (i + 1), by omega, ρ3, σ3, h3, a1, rfl, a2, a3, a4, a5⟩, fun v H' hy => ?_⟩
        obtain ⟨x3, S3, rv⟩ := yl v H' hy
        have q := fl_post (N := fun σ' H' => ∃ ρ σd h, i + 1 ≤ xs.length ∧ Ext ρ1 H1 ρ H' ∧ Sim W Z ρ h H' ∧ RSg W Z ρ H' σd σ' ∧ PostS W Z ρ H' (forL (forB g b) (xs.drop (i + 1)) σd h) D wx) (p2.mono x3)
          fun ρ' H4 σ' σd' h' S' rs' x4 q => ⟨ρ', σd', h', by omega, (x2.trans x3).trans x4, S', rs', q⟩
        unfold forB at q
        cases hb' : bindG σ2 g xs[i] with
        | none => rw [hb'] at q; exact q.elim
        | some σ4 =>
          rw [hb'] at q
          exact bindG_ok J.hK g (r2.mono x3) rv hb' fun σ5 r5 _ => ⟨Z, ρ2, σ4, h2, S3, r5, q⟩⟩⟩
end Fw
end
section
set_option Elab.async false
set_option maxHeartbeats 1000000
namespace Fw
open PySem PySem.Spec PyProof.Rows L2
section
variable {W : Wd} {Z Z' ρ : List Addr} {H : Hp}
theorem Rd.there {a : Addr} {u : HO} (r : Rd H a u) : ∃ o, H a = some o := by
  rcases r with r | ⟨o, r⟩
  · exact ⟨_, r⟩
  · exact ⟨_, r⟩
mutual
theorem RD.reZ (hz : ∀ z ∈ Z', z ∈ Z ∨ H z = none) : ∀ {d : D} {v : V}, RD W Z ρ H d v → RD W Z' ρ H d v
  | _, _, .non => .non
  | _, _, .bl b => .bl b
  | _, _, .int i => .int i
  | _, _, .str s => .str s
  | _, _, .tup z r q t => .tup (fun m => (hz _ m).elim z fun n => q.there n) r q (RDs.reZ hz t)
  | _, _, .tupK k t => .tupK k (RDs.reZ hz t)
  | _, _, .lst z r q t => .lst (fun m => (hz _ m).elim z fun n => by rw [q] at n; cases n) r q (RDs.reZ hz t)
  | _, _, .dct z r q t => .dct (fun m => (hz _ m).elim z fun n => by obtain ⟨o, e⟩ := Fw.Rd.there q; rw [e] at n; cases n) r q (RKs.reZ hz t)
  | _, _, .obj z r q t => .obj (fun m => (hz _ m).elim z fun n => by rw [q] at n; cases n) r q (RFs.reZ hz t)
  | _, _, .ref e => .ref e
  | _, _, .fn f => .fn f
  | _, _, .roi q => .roi (q.elim (fun ⟨z, r, q⟩ => .inl ⟨(fun m => (hz _ m).elim z fun n => by obtain ⟨o, e⟩ := Fw.Rd.there q; rw [e] at n; cases n), r, q⟩) .inr)
theorem RDs.reZ (hz : ∀ z ∈ Z', z ∈ Z ∨ H z = none) : ∀ {ds : List D} {vs : List V}, RDs W Z ρ H ds vs → RDs W Z' ρ H ds vs
  | _, _, .nil => .nil
  | _, _, .cons r t => .cons (RD.reZ hz r) (RDs.reZ hz t)
theorem RKs.reZ (hz : ∀ z ∈ Z', z ∈ Z ∨ H z = none) : ∀ {ds : List (K1 × D)} {vs : List (Key × V)}, RKs W Z ρ H ds vs → RKs W Z' ρ H ds vs
  | _, _, .nil => .nil
  | _, _, .cons r t => .cons (RD.reZ hz r) (RKs.reZ hz t)
theorem RFs.reZ (hz : ∀ z ∈ Z', z ∈ Z ∨ H z = none) : ∀ {ds : List (Nat × D)} {vs : List (Str × V)}, RFs W Z ρ H ds vs → RFs W Z' ρ H ds vs
  | _, _, .nil => .nil
  | _, _, .cons r t => .cons (RD.reZ hz r) (RFs.reZ hz t)
end
end
section
variable {W : Wd} {K : PySem.W.Frag} {Z ρ : List Addr} {H : Hp} {a b : Addr} {xs ys : List D} {vs us : List V}
theorem walks_list (az : a ∉ Z) (ha : a ∉ ρ) (h : H a = some (.lst vs)) (t : RDs W Z ρ H xs vs) : Walks W Z ρ H (Itl K a) xs := by
  intro Z' ρ' h' H' hz x S
  have az' : a ∉ Z' := fun m => (hz a m).elim az fun n => by rw [h] at n; cases n
  obtain ⟨ha', hh'⟩ := x.keep a _ az' ha h
  have q : SqL K H' a vs := SqL.of hh'
  refine ⟨fun i d e => ?_, vs, q, by rw [t.length]; exact Nat.le_refl _⟩
  obtain ⟨v, ev, rv⟩ := t.get e
  refine ⟨⟨vs, v, q, ev⟩, fun w H2 ⟨e2, hw⟩ => ?_⟩
  subst e2
  have := hw vs q
  rw [ev] at this
  cases this
  exact ⟨Ext.refl, S, (rv.reZ hz).monoZ x⟩
theorem walks_tup (hr : (a ∉ Z ∧ a ∉ ρ ∧ TupAt W H a vs) ∨ KTup K a vs) (t : RDs W Z ρ H xs vs) : Walks W Z ρ H (Itt K a) xs := by
  intro Z' ρ' h' H' hz x S
  have q : SqT K H' a vs := by
    rcases hr with ⟨az, ha, h⟩ | k
    · exact .inl (x.tup (fun m => (hz a m).elim az fun n => h.there n) ha h).2.rd
    · exact .inr k
  refine ⟨fun i d e => ?_, vs, q, by rw [t.length]; exact Nat.le_refl _⟩
  obtain ⟨v, ev, rv⟩ := t.get e
  refine ⟨⟨vs, v, q, ev⟩, fun w H2 ⟨e2, hw⟩ => ?_⟩
  subst e2
  have := hw vs q
  rw [ev] at this
  cases this
  exact ⟨Ext.refl, S, (rv.reZ hz).monoZ x⟩
theorem walks_str (s : Tx) : Walks W Z ρ H (Its (toS s)) (s.map fun c => .str [c]) := by
  intro Z' ρ' h' H' hz x S
  refine ⟨fun i d e => ?_, by simp [Its, toS]⟩
  rw [List.getElem?_map] at e
  cases ec : s[i]? with
  | none => rw [ec] at e; cases e
  | some c =>
    rw [ec] at e
    cases e
    refine ⟨by simpa [Its, toS] using (List.getElem?_eq_some_iff.mp ec).1, fun w H2 ⟨e2, c', hc, hw⟩ => ?_⟩
    subst e2 hw
    have hc' : s[i]? = some c' := by simpa [toS] using hc
    rw [ec] at hc'
    cases hc'
    exact ⟨Ext.refl, S, .str [c]⟩
theorem walks_range (lo : Int) (n : Nat) : Walks W Z ρ H (Itr lo n) (rangeD lo n) := by
  intro Z' ρ' h' H' hz x S
  refine ⟨fun i d e => ?_, by simp [Itr, rangeD]⟩
  unfold rangeD at e
  rw [List.getElem?_map] at e
  cases ec : (List.range n)[i]? with
  | none => rw [ec] at e; cases e
  | some c =>
    rw [ec] at e
    cases e
    have hi : i < n := by simpa using (List.getElem?_eq_some_iff.mp ec).1
    have : c = i := by rw [List.getElem?_range hi] at ec; cases ec; rfl
    subst this
    refine ⟨hi, fun w H2 ⟨e2, hw⟩ => ?_⟩
    subst e2 hw
    exact ⟨Ext.refl, S, .int _⟩
theorem pair_ok {Z' ρ' : List Addr} {h' : Hh} {H' : Hp} {T : Addr} {d e : D} {x y : V} (S : Sim W Z' ρ' h' H') (n : H' T = none) (r1 : RD W Z' ρ' H' d x) (r2 : RD W Z' ρ' H' e y) (hpl : W.pl = false := by assumption) :
    Ext ρ' H' ρ' (upd H' T (.tup [x, y])) ∧ Sim W Z' ρ' h' (upd H' T (.tup [x, y])) ∧ RD W Z' ρ' (upd H' T (.tup [x, y])) (.tup [d, e]) (.ref T) :=
  ⟨Ext.laid n, S.laid n, .tup (S.new n).1 (S.new n).2 (.of hpl upd_same) (.cons (r1.mono (Ext.laid n)) (.cons (r2.mono (Ext.laid n)) .nil))⟩
end
def IterV (X : Cx) (tg : Expr) (pins : List (Addr × Obj)) (σ : L2.St) (R : L2.It → Hp → Prop) (v : V) (H : Hp) : Prop :=
  ∀ (s : Shared) (u : Value), Inv X pins σ H s → RelV v u → wpAny (model X.prog X.w) X.A (pyIter u) (PIE X pins σ tg R) X.xe s
section
variable {X : Cx} {tg : Expr} {pins : List (Addr × Obj)} {σ : L2.St} {R : L2.It → Hp → Prop} {H : Hp} {a : Addr} {xs : List V}
theorem iter_list (hq : SqL X.K H a xs) (q : R (Itl X.K a) H) : IterV X tg pins σ R (.ref a) H := by
  intro s1 u I1 r1
  cases r1
  obtain ⟨its, rv, p, hz⟩ := I1.list hq
  refine wpAny_pyIter_list p.isList ?_
  refine ⟨s1.heap.objs.size, [s1.heap.objs.size], _, _, H, rfl, I1.kept (t' := s1.toks) fun b o e => Heap.get?_push_of_some _ e, turn_list a _, ⟨_, Heap.get?_push_size _ rfl, rfl, rfl⟩, fun b hb => ?_, q⟩
  have e : b = s1.heap.objs.size := by simpa using hb
  subst e
  exact I1.fpOk (Nat.le_refl _) (I1.hok.fresh (Nat.le_refl _))
theorem iter_tup (hq : SqT X.K H a xs) (q : R (Itt X.K a) H) : IterV X tg pins σ R (.ref a) H := by
  intro s1 u I1 r1
  cases r1
  obtain ⟨its, rv, p, hz⟩ := I1.tuple hq
  refine wpAny_pyIter_tuple (show s1.heap.IsTuple a its.toArray from p) ?_
  refine ⟨s1.heap.objs.size, [s1.heap.objs.size], _, _, H, rfl, I1.kept (t' := s1.toks) fun b o e => Heap.get?_push_of_some _ e, turn_tuple a _, ⟨_, Heap.get?_push_size _ rfl, rfl, rfl⟩, fun b hb => ?_, q⟩
  have e : b = s1.heap.objs.size := by simpa using hb
  subst e
  exact I1.fpOk (Nat.le_refl _) (I1.hok.fresh (Nat.le_refl _))
theorem iter_str {x : Str} (q : R (Its x) H) : IterV X tg pins σ R (.str x) H := by
  intro s1 u I1 r1
  obtain ⟨t, rfl⟩ := r1
  cases ha : x.cps.all (· < 128)
  · exact wpAny_pyIter_wide ha (pi_one (tk := s1.toks) I1 _ (turn_str _ x t "str_iterator" (.inr rfl)) ⟨_, Heap.get?_push_size _ rfl, rfl, rfl⟩ q)
  · exact wpAny_pyIter_ascii ha (pi_one (tk := s1.toks) I1 _ (turn_str _ x t "str_ascii_iterator" (.inl rfl)) ⟨_, Heap.get?_push_size _ rfl, rfl, rfl⟩ q)
end
theorem tup_at {W : Wd} {Z ρ : List Addr} {H : Hp} {xs : List D} {v : V} (r : RD W Z ρ H (.tup xs) v) : ∃ a vs, v = .ref a ∧ ((a ∉ Z ∧ a ∉ ρ ∧ TupAt W H a vs) ∨ KTup W.K a vs) ∧ RDs W Z ρ H xs vs := by
  cases r with
  | tup z ra q t => exact ⟨_, _, rfl, .inl ⟨z, ra, q⟩, t⟩
  | tupK k t => exact ⟨_, _, rfl, .inr k, t⟩
theorem sqT_of {W : Wd} {K : PySem.W.Frag} {Z ρ : List Addr} {H : Hp} {a : Addr} {vs : List V} (h : (a ∉ Z ∧ a ∉ ρ ∧ TupAt W H a vs) ∨ KTup K a vs) : SqT K H a vs := by
  rcases h with ⟨_, h⟩ | k
  · exact .inl h.2.rd
  · exact .inr k
section
variable {X : Cx} {W : Wd} {wx : WX} {tg e e2 : Expr} {f f2 : TM} {fs : AM}
theorem ij_e (J : Jc X W wx) (he : EJ X W wx e f) : IJ X W wx tg e .e (aCons f aNil) := by
  refine ⟨fun pins s σ H R I ⟨Z, ρ, σd, h0, S, rs, p⟩ => ?_⟩
  have p1 := Post.bind p
  refine thn (he.run pins s σ H (fun v H1 => IterV X tg pins σ R v H1) I ⟨Z, ρ, σd, h0, S, rs, (Post.bind p1).imp fun d ρ1 h1 H1 x1 S1 p2 v rv => ?_⟩) fun u s1 ⟨v, H1, I1, r1, q1⟩ => q1 s1 u I1 r1
  have p3 := post_now S1 p2
  cases d <;> first | (exact False.elim p3) | skip
  case str t =>
    cases rv
    exact iter_str (post_now S1 p3 _ (walks_str t))
  case tup xs =>
    obtain ⟨a, vs, rfl, ha, t⟩ := tup_at rv
    have ha' := J.hK ▸ ha
    exact iter_tup (sqT_of ha') (post_now S1 p3 _ (walks_tup ha' t))
  case lst xs =>
    cases rv with
    | lst z ra q t => exact iter_list (SqL.of q) (post_now S1 p3 _ (walks_list z ra q t))
theorem len1 {σ : Sg} {h : Hh} {Z ρ : List Addr} {H : Hp} {Q : List D → List Addr → Hh → Hp → Prop} {E : XK} (p : Post W Z ρ H (aCons f aNil σ h) Q E) : Post W Z ρ H (aCons f aNil σ h) (fun ds ρ h H => (∃ d, ds = [d]) ∧ Q ds ρ h H) E := by
  unfold aCons aNil at p ⊢
  cases hf : f σ h with
  | ok d h1 => rw [hf] at p; exact fun ρ' H' x S => ⟨⟨d, rfl⟩, p ρ' H' x S⟩
  | xn x h1 => rw [hf] at p; exact p
  | bad => rw [hf] at p; exact p
theorem walk_some {it : It} {ds : List D} {h : Hh} {Z ρ : List Addr} {H : Hp} {R : List D → List Addr → Hh → Hp → Prop} {E : XK} (S : Sim W Z ρ h H) (p : Post W Z ρ H (match walk it ds with
    | none => .bad
    | some xs => .ok xs h) R E) : ∃ xs, walk it ds = some xs ∧ R xs ρ h H := by
  cases hw : walk it ds with
  | none => rw [hw] at p; exact p.elim
  | some xs => rw [hw] at p; exact ⟨xs, rfl, post_now S p⟩
theorem lim_eq : lim = 2 ^ 62 := by decide
theorem ij_range1 {a : Expr} {p pos : Pos} (ha : EJ X W wx a f) (hg : Gl X "range" := by rfl) (hm : X.mg "range" = none := by assumption) (hs : starEach [a] X.env = (false, eval a X.env) :: starEach [] X.env := by rfl) : IJ X W wx tg (.Call (.Name "range" p) [a] [] pos) .range (aCons f aNil) := by
  refine ⟨fun pins s σ H R I ⟨Z, ρ, σd, h0, S, rs, p⟩ => (pi_range1 (tg := tg) hg hm (aj_cons ha aj_nil hs) hs).run pins s σ H R I ⟨Z, ρ, σd, h0, S, rs, (len1 (Post.bind p)).imp fun ds ρ1 h1 H1 x1 S1 p1 vs rvs => ?_⟩⟩
  obtain ⟨⟨d, rfl⟩, p1⟩ := p1
  obtain ⟨xs, hw, q⟩ := walk_some S1 p1
  cases d <;> simp only [walk] at hw <;> first | (cases hw; done) | skip
  split at hw
  · rename_i n hl
    cases hw
    cases rvs with
    | cons r t =>
      cases t
      cases r
      exact ⟨n, rfl, lim_eq ▸ hl.1, lim_eq ▸ hl.2, q _ (walks_range 0 n.toNat)⟩
  · cases hw
end
def hid (H : Hp) (D : Addr) : Hp := fun b => if b = D then none else H b
theorem hid_self {H : Hp} {D : Addr} : hid H D D = none := by simp [hid]
theorem hid_ne {H : Hp} {D b : Addr} (h : b ≠ D) : hid H D b = H b := by simp [hid, h]
theorem upd_hid {H : Hp} {D : Addr} {o : HO} : upd (hid H D) D o = upd H D o := by
  funext b
  by_cases h : b = D
  · subst h; rw [upd_same, upd_same]
  · rw [upd_ne h, upd_ne h, hid_ne h]
theorem upd_self {H : Hp} {D : Addr} {o : HO} (h : H D = some o) : upd (hid H D) D o = H := by
  funext b
  by_cases e : b = D
  · subst e; rw [upd_same, h]
  · rw [upd_ne e, hid_ne e]
section
variable {W : Wd} {Z ρ ρ' : List Addr} {H H' Hc : Hp} {D : Addr} {h h' : Hh} {acc : List V}
theorem nin {a D : Addr} {Z : List Addr} (z : a ∉ D :: Z) : a ≠ D := fun e => z (by rw [e]; exact List.mem_cons_self)
theorem Rd.hid {a : Addr} {u : HO} (r : Rd H a u) (n : a ≠ D) : Rd (hid H D) a u := by
  rcases r with r | ⟨o, r⟩
  · exact .inl (by rw [hid_ne n]; exact r)
  · exact .inr ⟨o, by rw [hid_ne n]; exact r⟩
mutual
theorem RD.hid : ∀ {d : Fw.D} {v : V}, RD W (D :: Z) ρ H d v → RD W Z ρ (hid H D) d v
  | _, _, .non => .non
  | _, _, .bl b => .bl b
  | _, _, .int i => .int i
  | _, _, .str s => .str s
  | _, _, .tup z r q t => .tup (fun m => z (List.mem_cons_of_mem _ m)) r (q.map fun u e => by rw [hid_ne (nin z)]; exact e) (RDs.hid t)
  | _, _, .tupK k t => .tupK k (RDs.hid t)
  | _, _, .lst z r q t => .lst (fun m => z (List.mem_cons_of_mem _ m)) r (by rw [hid_ne (nin z)]; exact q) (RDs.hid t)
  | _, _, .dct z r q t => .dct (fun m => z (List.mem_cons_of_mem _ m)) r (Fw.Rd.hid q (nin z)) (RKs.hid t)
  | _, _, .obj z r q t => .obj (fun m => z (List.mem_cons_of_mem _ m)) r (by rw [hid_ne (nin z)]; exact q) (RFs.hid t)
  | _, _, .ref e => .ref e
  | _, _, .fn f => .fn f
  | _, _, .roi q => .roi (q.elim (fun ⟨z, r, q⟩ => .inl ⟨fun m => z (List.mem_cons_of_mem _ m), r, Fw.Rd.hid q (nin z)⟩) .inr)
theorem RDs.hid : ∀ {ds : List Fw.D} {vs : List V}, RDs W (D :: Z) ρ H ds vs → RDs W Z ρ (hid H D) ds vs
  | _, _, .nil => .nil
  | _, _, .cons r t => .cons (RD.hid r) (RDs.hid t)
theorem RKs.hid : ∀ {ds : List (K1 × Fw.D)} {vs : List (Key × V)}, RKs W (D :: Z) ρ H ds vs → RKs W Z ρ (hid H D) ds vs
  | _, _, .nil => .nil
  | _, _, .cons r t => .cons (RD.hid r) (RKs.hid t)
theorem RFs.hid : ∀ {ds : List (Nat × Fw.D)} {vs : List (Str × V)}, RFs W (D :: Z) ρ H ds vs → RFs W Z ρ (hid H D) ds vs
  | _, _, .nil => .nil
  | _, _, .cons r t => .cons (RD.hid r) (RFs.hid t)
end
theorem Sim.hid (hD : D ∉ Z) (S : Sim W (D :: Z) ρ h H) : Sim W Z ρ h (hid H D) where
  len := S.len
  nd := S.nd
  dis := fun z hz => by
    obtain ⟨h1, o, e⟩ := S.dis z (List.mem_cons_of_mem _ hz)
    exact ⟨h1, o, by rw [hid_ne fun e2 => hD (by rw [← e2]; exact hz)]; exact e⟩
  obj := fun n o a e1 e2 => by
    have na : a ≠ D := fun e => (S.dis D List.mem_cons_self).1 (e ▸ List.mem_of_getElem? e2)
    cases S.obj n o a e1 e2 with
    | lst q t => exact .lst (by rw [hid_ne na]; exact q) t.hid
    | ro q t => exact .ro (Fw.Rd.hid q na) t.hid
    | dct q t => exact .dct (by rw [hid_ne na]; exact q) t.hid
    | ins q t => exact .ins (by rw [hid_ne na]; exact q) t.hid
    | dtu q k t => exact .dtu (by rw [hid_ne na]; exact q) k t.hid
    | rod q t => exact .rod (by rw [hid_ne na]; exact q) t.hid
theorem Ext.hid (n : Hc D = none) (x : Ext ρ (upd Hc D (.lst acc)) ρ' H') : Ext ρ Hc ρ' (Fw.hid H' D) :=
  ⟨x.pre, fun a o hr e => by
    have na : a ≠ D := ne_of_none e n
    obtain ⟨h1, h2⟩ := x.keep a o hr (by rw [upd_ne na]; exact e)
    exact ⟨h1, by rw [hid_ne na]; exact h2⟩, fun a od u e => by
    have na : a ≠ D := ne_of_none e n
    rw [hid_ne na]
    exact x.fz a od u (by rw [upd_ne na]; exact e)⟩
theorem Sim.shown {o : HO} (n : Hc D = none) (S : Sim W Z ρ h Hc) : Sim W (D :: Z) ρ h (upd Hc D o) where
  len := S.len
  nd := S.nd
  dis := fun z hz => by
    rcases List.mem_cons.mp hz with e | hz
    · subst e; exact ⟨(S.new n).2, o, upd_same⟩
    · exact (S.laid n).dis z hz
  obj := fun m u a e1 e2 => by
    have hz : ∀ z ∈ D :: Z, z ∈ Z ∨ Hc z = none := fun z hz => (List.mem_cons.mp hz).elim (fun e => .inr (by rw [e]; exact n)) .inl
    have x : Ext ρ Hc ρ (upd Hc D o) := Ext.laid n
    cases S.obj m u a e1 e2 with
    | lst q t => exact .lst (by rw [upd_ne (ne_of_none q n)]; exact q) ((t.reZ hz).mono x)
    | ro q t =>
      refine .ro ?_ ((t.reZ hz).mono x)
      rcases q with q | ⟨ob, q⟩
      · exact .inl (by rw [upd_ne (ne_of_none q n)]; exact q)
      · exact .inr ⟨ob, by rw [upd_ne (ne_of_none q n)]; exact q⟩
    | dct q t => exact .dct (by rw [upd_ne (ne_of_none q n)]; exact q) ((t.reZ hz).mono x)
    | ins q t => exact .ins (by rw [upd_ne (ne_of_none q n)]; exact q) ((t.reZ hz).mono x)
    | dtu q k t => exact .dtu (by rw [upd_ne (ne_of_none q n)]; exact q) k ((t.reZ hz).mono x)
    | rod q t => exact .rod (by rw [upd_ne (ne_of_none q n)]; exact q) ((t.reZ hz).mono x)
theorem RX.hid {e : Exn} {cls : Value} {dd : Option Addr} (hl : H D = some (.lst acc)) (r : RX W (D :: Z) ρ H e cls dd) : RX W Z ρ (hid H D) e cls dd := by
  refine ⟨r.1, ?_⟩
  have r2 := r.2
  cases hf : e.fld with
  | none => rw [hf] at r2; exact r2
  | some d =>
    obtain ⟨f, d⟩ := d
    rw [hf] at r2
    obtain ⟨a, v, e1, e2, e3, e4⟩ := r2
    exact ⟨a, v, e1, by rw [hid_ne (fun z => by rw [z, hl] at e2; cases e2)]; exact e2, e3, e4.hid⟩
theorem Post.shown {α : Type} {r : R α} {Q : α → List Addr → Hh → Hp → Prop} (hD : D ∉ Z) (hρ : D ∉ ρ) (n : Hc D = none) (p : Post W Z ρ Hc r Q fun _ _ _ => False) {E : XK} :
    Post W (D :: Z) ρ (upd Hc D (.lst acc)) r (fun a ρ' h' H' => H' D = some (.lst acc) ∧ Sim W Z ρ' h' (hid H' D) ∧ Ext ρ Hc ρ' (hid H' D) ∧ Q a ρ' h' (hid H' D)) E := by
  cases r with
  | ok a h => exact fun ρ' H' x S => ⟨(x.keep D _ hρ upd_same).2, S.hid hD, Ext.hid n x, p ρ' (hid H' D) (Ext.hid n x) (S.hid hD)⟩
  | xn e h =>
    intro ρ' H' cls dd x S rx
    exact (p ρ' (Fw.hid H' D) cls dd (Ext.hid n x) (S.hid hD) (RX.hid (x.keep D _ hρ upd_same).2 rx)).elim
  | bad => exact p
theorem noX_bind {α β : Type} {r : R α} {k : α → Hh → R β} {Q : β → List Addr → Hh → Hp → Prop} {E : XK} (p : Post W Z ρ H (noX (r.bind k)) Q E) : Post W Z ρ H r (fun a ρ' h' H' => Post W Z ρ' H' (noX (k a h')) Q E) fun _ _ _ => False := by
  cases r with
  | ok a h => exact fun ρ' H' x S => Post.mono x p
  | xn e h => exact p.elim
  | bad => exact p
theorem noX_ok' {α : Type} {r : R α} {Q : α → List Addr → Hh → Hp → Prop} {E : XK} (p : Post W Z ρ H (noX r) Q E) : Post W Z ρ H r Q fun _ _ _ => False := by
  cases r with
  | ok a h => exact p
  | xn e h => exact p.elim
  | bad => exact p
end
abbrev CJ (X : Cx) (W : Wd) (ifs : List Expr) (f : BM) : Prop := PTs X ifs (tB W (fun _ _ _ _ => False) f)
section
variable {X : Cx} {W : Wd} {wx : WX} {tg iter elt : Expr} {ifs : List Expr} {scope : Scope} {own : List (Str × Nat)} {pos : Pos} {f : TM} {gb : BM} {it : It} {src : AM} {g : G}
theorem cj_nil : CJ X W [] bYes := ⟨fun pins s σ H Q I ⟨Z, ρ, σd, h0, S, rs, p⟩ => pts_nil.run pins s σ H Q I (post_now S p)⟩
theorem cj_one {c : Expr} {f : BM} (h : BJ X W (fun _ _ _ _ => False) c f) : CJ X W [c] f := ⟨fun pins s σ H Q I q => (pts_one h).run pins s σ H Q I q⟩
theorem lc_step {Z ρ : List Addr} {Hc : Hp} {D : Addr} {acc : List V} {accd : List Fw.D} {h : Hh} {σd : Sg} {σ : L2.St} {x : Fw.D} {v : V} {ownI : List Nat} {xs : List Fw.D} {Q : List Fw.D → List Addr → Hh → Hp → Prop} {E : XK} {Nx : Hp → Prop}
    (hK : X.K = W.K) (hg : ∀ i ∈ g.ix, i ∈ ownI) (hD : D ∉ Z) (n : Hc D = none) (S : Sim W Z ρ h Hc) (rs : RSg W Z ρ Hc σd σ) (ra : RDs W Z ρ Hc accd acc)
    {H' : Hp} (hH : H' = upd (hid H' D) D (.lst acc)) (hx : Ext ρ Hc ρ (hid H' D)) (S' : Sim W (D :: Z) ρ h H') (rv : RD W (D :: Z) ρ H' x v)
    (p : Post W Z ρ Hc (noX (lcL (lcStep f g gb ownI σd) (x :: xs) accd h)) Q E)
    (hN : ∀ ρ' h' Hc' acc' accd', Hc' D = none → Ext ρ Hc ρ' Hc' → Sim W Z ρ' h' Hc' → RDs W Z ρ' Hc' accd' acc' → Post W Z ρ' Hc' (noX (lcL (lcStep f g gb ownI σd) xs accd' h')) Q E → Nx (upd Hc' D (.lst acc'))) :
    gOf X.K g v (L2.wipe σ ownI) H' fun σ2 H2 => L2.wipe σ2 ownI = L2.wipe σ ownI ∧ tB W (fun _ _ _ _ => False) gb σ2 H2 fun b H3 =>
      if b = true then tE W (fun _ _ _ _ => False) f σ2 H3 fun y H4 => ∃ acc, H4 D = some (.lst acc) ∧ acc.length < sizeLine ∧ Nx (upd H4 D (.lst (acc ++ [y]))) else Nx H3 := by
  simp only [lcL] at p
  have p1 := noX_bind p
  unfold lcStep at p1
  have hzz : ∀ z ∈ D :: Z, z ∈ Z ∨ Hc z = none := fun z hz => (List.mem_cons.mp hz).elim (fun e => .inr (by rw [e]; exact n)) .inl
  have hn' : hid H' D D = none := hid_self
  have hzz' : ∀ z ∈ D :: Z, z ∈ Z ∨ hid H' D z = none := fun z hz => (List.mem_cons.mp hz).elim (fun e => .inr (by rw [e]; exact hn')) .inl
  have xl : Ext ρ (hid H' D) ρ H' := by
    have := Ext.laid (ρ := ρ) (H := hid H' D) (o := .lst acc) hn'
    rw [← hH] at this
    exact this
  have rs' : RSg W (D :: Z) ρ H' (wipe σd ownI) (L2.wipe σ ownI) := by
    refine RSg.wipe ⟨rs.len, fun i d e => ?_⟩ ownI
    obtain ⟨w, e1, r1⟩ := rs.at_ i d e
    exact ⟨w, e1, ((r1.mono hx).reZ hzz').mono xl⟩
  cases hb : bindG (wipe σd ownI) g x with
  | none => rw [hb] at p1; exact p1.elim
  | some σ1 =>
    rw [hb] at p1
    dsimp only at p1
    refine bindG_ok hK g rs' rv hb fun σ2 r2 hw => ⟨?_, ?_⟩
    · rw [hw ownI hg]
      have idem : ∀ (vs : List Nat), (∀ i ∈ vs, i ∈ ownI) → L2.wipe (L2.wipe σ vs) ownI = L2.wipe σ ownI := by
        intro vs
        induction vs with
        | nil => intro _; rfl
        | cons w ws ih =>
          intro hw
          simp only [L2.wipe]
          rw [wipe_set (hw w List.mem_cons_self)]
          exact ih fun i hi => hw i (List.mem_cons_of_mem _ hi)
      exact idem ownI fun i hi => hi
    · have pa := Post.mono hx p1
      have hDρ : D ∉ ρ := (S'.dis D List.mem_cons_self).1
      have q := Post.shown (acc := acc) (E := fun _ _ _ => False) hD hDρ hn' (Post.bind pa)
      rw [← hH] at q
      refine ⟨D :: Z, ρ, σ1, h, S', r2, q.imp fun k ρ3 h3 H3 x3 S3 q3 => ?_⟩
      obtain ⟨e3, S3', x3', p3⟩ := q3
      have hH3 : upd (hid H3 D) D (.lst acc) = H3 := upd_self e3
      cases k with
      | false =>
        have p4 := post_now S3' p3
        rw [if_neg (by decide)]
        rw [← hH3]
        exact hN ρ3 h3 (hid H3 D) acc accd hid_self (hx.trans x3') S3' (ra.mono (hx.trans x3')) p4
      | true =>
        rw [if_pos rfl]
        have hDρ3 : D ∉ ρ3 := (S3.dis D List.mem_cons_self).1
        have q4 := Post.shown (acc := acc) (E := fun _ _ _ => False) hD hDρ3 hid_self (Post.bind p3)
        rw [hH3] at q4
        refine ⟨D :: Z, ρ3, σ1, h3, S3, r2.mono x3, q4.imp fun d ρ4 h4 H4 x4 S4 q5 v4 rv4 => ?_⟩
        obtain ⟨e4, S4', x4', p5⟩ := q5
        have p6 : Post W Z ρ4 (hid H4 D) (noX (if accd.length < line then lcL (lcStep f g gb ownI σd) xs (accd ++ [d]) h4 else .bad)) Q E := post_now S4' p5
        by_cases hlen : accd.length < line
        · rw [if_pos hlen] at p6
          have hx4 := (hx.trans x3').trans x4'
          refine ⟨acc, e4, by rw [← ra.length, ← line_eq]; exact hlen, ?_⟩
          rw [← upd_hid]
          exact hN ρ4 h4 (hid H4 D) (acc ++ [v4]) (accd ++ [d]) hid_self hx4 S4' ((ra.mono hx4).append (.cons rv4.hid .nil)) p6
        · rw [if_neg hlen] at p6
          exact p6.elim
theorem lc_read (hK : X.K = W.K) {ownI : List Nat} (hix : ∀ i ∈ g.ix, i ∈ ownI) {σ : L2.St} {H : Hp} {Q : VK} (p : tE W wx (eLc f g it src gb ownI) σ H Q) :
    tLc (tI W wx it src) (gOf X.K g) (tB W (fun _ _ _ _ => False) gb) (tE W (fun _ _ _ _ => False) f) ownI σ H Q := by
  obtain ⟨Z, ρ, σd, h0, S, rs, p⟩ := p
  exact
    ⟨Z, ρ, σd, h0, S, rs, (Post.bind p).imp fun xs ρ1 h1 H1 x1 S1 p1 Ji hw D hD => by
      have rs1 := rs.mono x1
      have hDZ := (S1.new hD).1
      have pl := Post.bind p1
      refine ⟨fun i m H => i ≤ xs.length ∧ m = xs.length - i ∧ ∃ ρ h Hc acc accd, Hc D = none ∧ H = upd Hc D (.lst acc) ∧ Ext ρ1 H1 ρ Hc ∧ Sim W Z ρ h Hc ∧ RDs W Z ρ Hc accd acc ∧
          Post W Z ρ Hc (noX (lcL (lcStep f g gb ownI σd) (xs.drop i) accd h)) (fun (a : List Fw.D) ρ h H => Post W Z ρ H (R.ok (Fw.D.lst a) h) (fun d ρ' _ H' => ∀ v, RD W Z ρ' H' d v → Q v H') (fun cls dd H' => wx cls dd σ H')) (fun cls dd H' => wx cls dd σ H'),
        ⟨xs.length, Nat.zero_le _, rfl, ρ1, h1, H1, [], [], hD, rfl, Ext.refl, S1, .nil, pl⟩, ?_⟩
      rintro i m H' ⟨hi, hm, ρ2, h2, Hc, acc, accd, n2, e2, x2, S2, ra, p2⟩
      subst e2
      have hwz : ∀ z ∈ D :: Z, z ∈ Z ∨ H1 z = none := fun z hz => (List.mem_cons.mp hz).elim (fun e => .inr (by rw [e]; exact hD)) .inl
      have xD : Ext ρ1 H1 ρ2 (upd Hc D (.lst acc)) := x2.trans (Ext.laid n2)
      have SD : Sim W (D :: Z) ρ2 h2 (upd Hc D (.lst acc)) := S2.shown n2
      have w := hw (D :: Z) ρ2 h2 _ hwz xD.z SD
      by_cases hE : i = xs.length
      · subst hE
        rw [List.drop_length] at p2
        have p3 := post_now S2 (post_now S2 p2)
        refine .inl ⟨w.2, ?_⟩
        have hl2 := Ext.laid (ρ := ρ2) (o := .lst acc) n2
        have p4 := p2 ρ2 Hc Ext.refl S2
        exact (Post.mono hl2 p4) ρ2 _ Ext.refl (S2.laid n2) (.ref D) (.lst hDZ (S2.new n2).2 upd_same (ra.mono hl2))
      · have hlt : i < xs.length := by omega
        obtain ⟨go, yl⟩ := w.1 i xs[i] (by simp [hlt])
        rw [List.drop_eq_getElem_cons hlt] at p2
        refine .inr ⟨go, fun H' => i + 1 ≤ xs.length ∧ ∃ ρ h Hc acc accd, Hc D = none ∧ H' = upd Hc D (.lst acc) ∧ Ext ρ1 H1 ρ Hc ∧ Sim W Z ρ h Hc ∧ RDs W Z ρ Hc accd acc ∧
          Post W Z ρ Hc (noX (lcL (lcStep f g gb ownI σd) (xs.drop (i + 1)) accd h)) (fun (a : List Fw.D) ρ h H => Post W Z ρ H (R.ok (Fw.D.lst a) h) (fun d ρ' _ H' => ∀ v, RD W Z ρ' H' d v → Q v H') (fun cls dd H' => wx cls dd σ H')) (fun cls dd H' => wx cls dd σ H'),
          fun H' ⟨a1, a2⟩ => ⟨xs.length - (i + 1), by omega, a1, rfl, a2⟩, fun v H4 hy => ?_⟩
        obtain ⟨x3, S3, rv⟩ := yl v H4 hy
        have hD4 : H4 D = some (.lst acc) := (x3.keep D _ (S2.new n2).2 upd_same).2
        have hH4 : H4 = upd (hid H4 D) D (.lst acc) := (upd_self hD4).symm
        have hx4 : Ext ρ2 Hc ρ2 (hid H4 D) := Ext.hid n2 x3
        refine lc_step (Q := fun (a : List Fw.D) ρ h H => Post W Z ρ H (R.ok (Fw.D.lst a) h) (fun d ρ' _ H' => ∀ v, RD W Z ρ' H' d v → Q v H') (fun cls dd H' => wx cls dd σ H')) (E := fun cls dd H' => wx cls dd σ H') hK hix hDZ n2 S2 (rs1.mono x2) ra hH4 hx4 S3 rv p2 fun ρ' h' Hc' acc' accd' n' x' S' ra' p' => ?_
        exact ⟨by omega, ρ', h', Hc', acc', accd', n', rfl, x2.trans x', S', ra', p'⟩⟩
theorem ej_lc (J : Js X W wx) (hi : IJ X W wx tg iter it src) (ok : BlkOk X.N X.env.scope scope own) (hix : ∀ i ∈ g.ix, i ∈ own.map (·.2))
    (hg : ∀ (s : Shared) (H : Hp) (C : Addr) (cl : List (Str × Addr)) (fp : List Addr), GJ (X.blk s H scope (compEnvC scope cl C X.env) fp) tg g)
    (ht : ∀ (s : Shared) (H : Hp) (C : Addr) (cl : List (Str × Addr)) (fp : List Addr), CJ (X.blk s H scope (compEnvC scope cl C X.env) fp) W ifs gb)
    (he : ∀ (s : Shared) (H : Hp) (C : Addr) (cl : List (Str × Addr)) (fp : List Addr), EJ (X.blk s H scope (compEnvC scope cl C X.env) fp) W (fun _ _ _ _ => False) elt f)
    (hs : ∀ x, foldedSetIterable iter X.env x = pure x := by intro _; rfl) :
    EJ X W wx (.ListComp elt [⟨tg, iter, ifs, 0⟩] scope pos) (eLc f g it src gb (own.map (·.2))) :=
  ⟨fun pins s σ H Q I p => (pe_lc J.hc J.hN hi ok hg ht he hs).run pins s σ H Q I (lc_read J.hK hix p)⟩
theorem sj_setLc {i : Nat} {y : Str} {py spos : Pos} (J : Js X W wx) (hi : IJ X W wx tg iter it src) (ok : BlkOk X.N X.env.scope scope own) (hix : ∀ i ∈ g.ix, i ∈ own.map (·.2)) (hy : X.N[i]? = some y) (hyl : X.env.scope.names.lookup y = some .local)
    (hsw : swapsWith (.ListComp elt [⟨tg, iter, ifs, 0⟩] scope pos) (some (.Name y py)) spos.line X.env = pure true)
    (hg : ∀ (s : Shared) (H : Hp) (C : Addr) (cl : List (Str × Addr)) (fp : List Addr), GJ (X.blk s H scope (compEnvC scope cl C X.env) fp) tg g)
    (ht : ∀ (s : Shared) (H : Hp) (C : Addr) (cl : List (Str × Addr)) (fp : List Addr), CJ (X.blk s H scope (compEnvC scope cl C X.env) fp) W ifs gb)
    (he : ∀ (s : Shared) (H : Hp) (C : Addr) (cl : List (Str × Addr)) (fp : List Addr), EJ (X.blk s H scope (compEnvC scope cl C X.env) fp) W (fun _ _ _ _ => False) elt f)
    (hs : ∀ x, foldedSetIterable iter X.env x = pure x := by intro _; rfl) :
    SJ X W wx (.Assign [.Name y py] (.ListComp elt [⟨tg, iter, ifs, 0⟩] scope pos) spos) (sSet i (eLc f g it src gb (own.map (·.2)))) :=
  ⟨fun pins s σ H D I ⟨Z, ρ, σd, h0, S, rs, p⟩ => (ps_setLc J.hc J.hN hy hyl hsw hi ok hg ht he hs).run pins s σ H D I
    (lc_read J.hK hix ⟨Z, ρ, σd, h0, S, rs, (PostS.of rs p).imp fun d ρ1 h1 H1 x1 S1 p1 v rv => p1.nx S1 ((rs.mono x1).set rv)⟩)⟩
end
end Fw
end
section
set_option Elab.async false
set_option maxHeartbeats 1000000
namespace Fw
open PySem PySem.Spec PyProof.Rows L2
section
variable {W : Wd} {Z Z' ρ ρ' : List Addr} {H H' : Hp}
mutual
theorem RD.closed (hz : ∀ z ∈ Z', z ∈ Z ∨ z ∈ ρ) (hr : ∀ a ∈ ρ', a ∈ ρ) : ∀ {d : D} {v : V}, d.closed = true → RD W Z ρ H d v → RD W Z' ρ' H d v
  | _, _, _, .non => .non
  | _, _, _, .bl b => .bl b
  | _, _, _, .int i => .int i
  | _, _, _, .str s => .str s
  | _, _, c, .tup z r q t => .tup (fun m => (hz _ m).elim z r) (fun m => r (hr _ m)) q (RDs.closed hz hr (by simpa [D.closed] using c) t)
  | _, _, c, .tupK k t => .tupK k (RDs.closed hz hr (by simpa [D.closed] using c) t)
  | _, _, c, .lst z r q t => .lst (fun m => (hz _ m).elim z r) (fun m => r (hr _ m)) q (RDs.closed hz hr (by simpa [D.closed] using c) t)
  | _, _, c, .dct z r q t => .dct (fun m => (hz _ m).elim z r) (fun m => r (hr _ m)) q (RKs.closed hz hr (by simpa [D.closed] using c) t)
  | _, _, c, .obj z r q t => .obj (fun m => (hz _ m).elim z r) (fun m => r (hr _ m)) q (RFs.closed hz hr (by simpa [D.closed] using c) t)
  | _, _, c, .ref e => by simp [D.closed] at c
  | _, _, _, .fn f => .fn f
  | _, _, _, .roi q => .roi (q.elim (fun ⟨z, r, q⟩ => .inl ⟨fun m => (hz _ m).elim z r, fun m => r (hr _ m), q⟩) .inr)
theorem RDs.closed (hz : ∀ z ∈ Z', z ∈ Z ∨ z ∈ ρ) (hr : ∀ a ∈ ρ', a ∈ ρ) : ∀ {ds : List D} {vs : List V}, closedAll ds = true → RDs W Z ρ H ds vs → RDs W Z' ρ' H ds vs
  | _, _, _, .nil => .nil
  | _, _, c, .cons r t => by
    simp only [closedAll, Bool.and_eq_true] at c
    exact .cons (RD.closed hz hr c.1 r) (RDs.closed hz hr c.2 t)
theorem RKs.closed (hz : ∀ z ∈ Z', z ∈ Z ∨ z ∈ ρ) (hr : ∀ a ∈ ρ', a ∈ ρ) : ∀ {ds : List (K1 × D)} {vs : List (Key × V)}, closedK ds = true → RKs W Z ρ H ds vs → RKs W Z' ρ' H ds vs
  | _, _, _, .nil => .nil
  | _, _, c, .cons r t => by
    simp only [closedK, Bool.and_eq_true] at c
    exact .cons (RD.closed hz hr c.1 r) (RKs.closed hz hr c.2 t)
theorem RFs.closed (hz : ∀ z ∈ Z', z ∈ Z ∨ z ∈ ρ) (hr : ∀ a ∈ ρ', a ∈ ρ) : ∀ {ds : List (Nat × D)} {vs : List (Str × V)}, closedF ds = true → RFs W Z ρ H ds vs → RFs W Z' ρ' H ds vs
  | _, _, _, .nil => .nil
  | _, _, c, .cons r t => by
    simp only [closedF, Bool.and_eq_true] at c
    exact .cons (RD.closed hz hr c.1 r) (RFs.closed hz hr c.2 t)
end
theorem OR.closed (hz : ∀ z ∈ Z', z ∈ Z ∨ z ∈ ρ) (hr : ∀ a ∈ ρ', a ∈ ρ) {a : Addr} {o : O} (c : o.closed = true) (r : OR W Z ρ H a o) : OR W Z' ρ' H a o := by
  cases r with
  | lst q t => exact .lst q (RDs.closed hz hr (by simpa [O.closed] using c) t)
  | ro q t => exact .ro q (RDs.closed hz hr (by simpa [O.closed] using c) t)
  | dct q t => exact .dct q (RKs.closed hz hr (by simpa [O.closed] using c) t)
  | ins q t => exact .ins q (RFs.closed hz hr (by simpa [O.closed] using c) t)
  | dtu q k t => simp [O.closed] at c
  | rod q t => simp [O.closed] at c
end
def At (ρ : List Addr) (n : Nat) (a : Addr) : Prop := ρ[n]? = some a
theorem paired_at {ρ : List Addr} : ∀ {ns : List Nat} {as : List Addr}, Paired (At ρ) ns as → ∀ (i n : Nat), ns[i]? = some n → ∃ a, as[i]? = some a ∧ ρ[n]? = some a
  | _, _, .nil, i, n, h => by simp at h
  | _, _, .cons r t, 0, n, h => by simp at h; subst h; exact ⟨_, rfl, r⟩
  | _, _, .cons r t, i + 1, n, h => by simpa using paired_at t i n (by simpa using h)
theorem paired_len {ρ : List Addr} : ∀ {ns : List Nat} {as : List Addr}, Paired (At ρ) ns as → ns.length = as.length
  | _, _, .nil => rfl
  | _, _, .cons _ t => by simp [paired_len t]
theorem paired_mem {ρ : List Addr} : ∀ {ns : List Nat} {as : List Addr}, Paired (At ρ) ns as → ∀ a ∈ as, ∃ n ∈ ns, ρ[n]? = some a
  | _, _, .nil, a, h => absurd h (by simp)
  | _, _, .cons r t, a, h => by
    rcases List.mem_cons.mp h with e | h
    · subst e; exact ⟨_, List.mem_cons_self, r⟩
    · obtain ⟨n, hn, e⟩ := paired_mem t a h
      exact ⟨n, List.mem_cons_of_mem _ hn, e⟩
theorem nodup_inj {ρ : List Addr} (nd : ρ.Nodup) {m n : Nat} {a : Addr} (h1 : ρ[m]? = some a) (h2 : ρ[n]? = some a) : m = n := by
  exact (List.getElem?_inj (List.getElem?_eq_some_iff.mp h1).1 nd).mp (h1.trans h2.symm)
theorem paired_nodup {ρ : List Addr} (nd : ρ.Nodup) : ∀ {ns : List Nat} {as : List Addr}, Paired (At ρ) ns as → ns.Nodup → as.Nodup
  | _, _, .nil, _ => List.nodup_nil
  | n :: ns, a :: as, .cons r t, h => by
    obtain ⟨h1, h2⟩ := List.nodup_cons.mp h
    refine List.nodup_cons.mpr ⟨fun m => ?_, paired_nodup nd t h2⟩
    obtain ⟨k, hk, e⟩ := paired_mem t a m
    exact h1 (nodup_inj nd r e ▸ hk)
section
variable {W : Wd} {Z Z' ρ : List Addr} {H : Hp}
theorem lend_ok (hz : ∀ z ∈ Z', z ∈ Z ∨ z ∈ ρ) : ∀ {ds : List D} {vs : List V} {k : Nat} {ds' : List D} {ns : List Nat}, RDs W Z ρ H ds vs → lend k ds = some (ds', ns) →
    ∃ as, Paired (At ρ) ns as ∧ ∀ ρc : List Addr, (∀ (i : Nat) (a : Addr), as[i]? = some a → ρc[k + i]? = some a) → (∀ a ∈ ρc, a ∈ ρ) → RDs W Z' ρc H ds' vs := by
  intro ds
  induction ds with
  | nil =>
    intro vs k ds' ns r e
    cases r
    simp only [lend, Option.some.injEq, Prod.mk.injEq] at e
    obtain ⟨rfl, rfl⟩ := e
    exact ⟨[], .nil, fun _ _ _ => .nil⟩
  | cons d ds ih =>
    intro vs k ds' ns r e
    cases r with
    | @cons _ _ v vs r t =>
      by_cases hd : ∃ n, d = .ref n
      · obtain ⟨n, rfl⟩ := hd
        simp only [lend] at e
        cases el : lend (k + 1) ds with
        | none => rw [el] at e; cases e
        | some q =>
          obtain ⟨ds1, ns1⟩ := q
          rw [el] at e
          simp only [Option.map_some, Option.some.injEq, Prod.mk.injEq] at e
          obtain ⟨rfl, rfl⟩ := e
          obtain ⟨as, pa, f⟩ := ih t el
          cases r with
          | @ref a _ ra =>
            refine ⟨a :: as, .cons ra pa, fun ρc h1 h2 => .cons (.ref (by simpa using h1 0 a rfl)) (f ρc (fun i b hb => ?_) h2)⟩
            have := h1 (i + 1) b (by simpa using hb)
            rw [← this]
            congr 1
            omega
      · have e' : (if d.closed = true then (lend k ds).map fun q => (d :: q.1, q.2) else none) = some (ds', ns) := by
          rw [← e]
          cases d <;> first | rfl | exact absurd ⟨_, rfl⟩ hd
        split at e'
        · rename_i hc
          cases el : lend k ds with
          | none => rw [el] at e'; cases e'
          | some q =>
            obtain ⟨ds1, ns1⟩ := q
            rw [el] at e'
            simp only [Option.map_some, Option.some.injEq, Prod.mk.injEq] at e'
            obtain ⟨rfl, rfl⟩ := e'
            obtain ⟨as, pa, f⟩ := ih t el
            exact ⟨as, pa, fun ρc h1 h2 => .cons (RD.closed hz h2 hc r) (f ρc h1 h2)⟩
        · cases e'
theorem lentO_ok {h : Hh} : ∀ {ns : List Nat} {hc : Hh}, lentO h ns = some hc → hc.length = ns.length ∧ ∀ (i : Nat) (o : O), hc[i]? = some o → ∃ n, ns[i]? = some n ∧ h[n]? = some o ∧ o.closed = true := by
  intro ns
  induction ns with
  | nil => intro hc e; simp only [lentO, Option.some.injEq] at e; subst e; exact ⟨rfl, fun i o h => by simp at h⟩
  | cons n ns ih =>
    intro hc e
    simp only [lentO] at e
    cases en : h[n]? with
    | none => rw [en] at e; cases e
    | some o =>
      rw [en] at e
      dsimp only at e
      split at e
      · rename_i hcl
        cases el : lentO h ns with
        | none => rw [el] at e; cases e
        | some hc1 =>
          rw [el] at e
          cases e
          obtain ⟨h1, h2⟩ := ih el
          refine ⟨by simp [h1], fun i u hu => ?_⟩
          cases i with
          | zero => simp at hu; subst hu; exact ⟨n, rfl, en, hcl⟩
          | succ i => simpa using h2 i u (by simpa using hu)
      · cases e
end
section
variable {W : Wd} {Z Z' ρ ρ1 : List Addr} {H : Hp} {g : Nat → Option D}
mutual
theorem map_ok (hz : ∀ a, a ∉ Z' → a ∉ ρ1 → a ∉ Z ∧ a ∉ ρ) (hg : ∀ n a d, ρ1[n]? = some a → g n = some d → RD W Z ρ H d (.ref a)) : ∀ {d : D} {v : V} {d' : D}, RD W Z' ρ1 H d v → d.map_ g = some d' → RD W Z ρ H d' v
  | _, _, _, .non, e => by simp only [D.map_, Option.some.injEq] at e; subst e; exact .non
  | _, _, _, .bl b, e => by simp only [D.map_, Option.some.injEq] at e; subst e; exact .bl b
  | _, _, _, .int i, e => by simp only [D.map_, Option.some.injEq] at e; subst e; exact .int i
  | _, _, _, .str s, e => by simp only [D.map_, Option.some.injEq] at e; subst e; exact .str s
  | _, _, _, .fn f, e => by simp only [D.map_, Option.some.injEq] at e; subst e; exact .fn f
  | _, _, _, .roi q, e => by simp only [D.map_, Option.some.injEq] at e; subst e; exact .roi (q.elim (fun ⟨z, r, q⟩ => .inl ⟨(hz _ z r).1, (hz _ z r).2, q⟩) .inr)
  | _, _, _, .ref h, e => by simp only [D.map_] at e; exact hg _ _ _ h e
  | _, _, _, .tup z r q t, e => by
    simp only [D.map_, Option.map_eq_some_iff] at e
    obtain ⟨xs, e1, rfl⟩ := e
    exact .tup (hz _ z r).1 (hz _ z r).2 q (mapAll_ok hz hg t e1)
  | _, _, _, .tupK k t, e => by
    simp only [D.map_, Option.map_eq_some_iff] at e
    obtain ⟨xs, e1, rfl⟩ := e
    exact .tupK k (mapAll_ok hz hg t e1)
  | _, _, _, .lst z r q t, e => by
    simp only [D.map_, Option.map_eq_some_iff] at e
    obtain ⟨xs, e1, rfl⟩ := e
    exact .lst (hz _ z r).1 (hz _ z r).2 q (mapAll_ok hz hg t e1)
  | _, _, _, .dct z r q t, e => by
    simp only [D.map_, Option.map_eq_some_iff] at e
    obtain ⟨xs, e1, rfl⟩ := e
    exact .dct (hz _ z r).1 (hz _ z r).2 q (mapK_ok hz hg t e1)
  | _, _, _, .obj z r q t, e => by
    simp only [D.map_, Option.map_eq_some_iff] at e
    obtain ⟨xs, e1, rfl⟩ := e
    exact .obj (hz _ z r).1 (hz _ z r).2 q (mapF_ok hz hg t e1)
theorem mapAll_ok (hz : ∀ a, a ∉ Z' → a ∉ ρ1 → a ∉ Z ∧ a ∉ ρ) (hg : ∀ n a d, ρ1[n]? = some a → g n = some d → RD W Z ρ H d (.ref a)) : ∀ {ds : List D} {vs : List V} {ds' : List D}, RDs W Z' ρ1 H ds vs → mapAll g ds = some ds' → RDs W Z ρ H ds' vs
  | _, _, _, .nil, e => by simp only [mapAll, Option.some.injEq] at e; subst e; exact .nil
  | _, _, _, .cons r t, e => by
    simp only [mapAll, Option.bind_eq_some_iff, Option.map_eq_some_iff] at e
    obtain ⟨y, e1, ys, e2, rfl⟩ := e
    exact .cons (map_ok hz hg r e1) (mapAll_ok hz hg t e2)
theorem mapK_ok (hz : ∀ a, a ∉ Z' → a ∉ ρ1 → a ∉ Z ∧ a ∉ ρ) (hg : ∀ n a d, ρ1[n]? = some a → g n = some d → RD W Z ρ H d (.ref a)) : ∀ {ds : List (K1 × D)} {vs : List (Key × V)} {ds' : List (K1 × D)}, RKs W Z' ρ1 H ds vs → mapK g ds = some ds' → RKs W Z ρ H ds' vs
  | _, _, _, .nil, e => by simp only [mapK, Option.some.injEq] at e; subst e; exact .nil
  | _, _, _, .cons r t, e => by
    simp only [mapK, Option.bind_eq_some_iff, Option.map_eq_some_iff] at e
    obtain ⟨y, e1, ys, e2, rfl⟩ := e
    exact .cons (map_ok hz hg r e1) (mapK_ok hz hg t e2)
theorem mapF_ok (hz : ∀ a, a ∉ Z' → a ∉ ρ1 → a ∉ Z ∧ a ∉ ρ) (hg : ∀ n a d, ρ1[n]? = some a → g n = some d → RD W Z ρ H d (.ref a)) : ∀ {ds : List (Nat × D)} {vs : List (Str × V)} {ds' : List (Nat × D)}, RFs W Z' ρ1 H ds vs → mapF g ds = some ds' → RFs W Z ρ H ds' vs
  | _, _, _, .nil, e => by simp only [mapF, Option.some.injEq] at e; subst e; exact .nil
  | _, _, _, .cons r t, e => by
    simp only [mapF, Option.bind_eq_some_iff, Option.map_eq_some_iff] at e
    obtain ⟨y, e1, ys, e2, rfl⟩ := e
    exact .cons (map_ok hz hg r e1) (mapF_ok hz hg t e2)
end
theorem frz_ok {hc : Hh} {k : Nat} (S : Sim W Z' ρ1 hc H) (hz : ∀ a, a ∉ Z' → a ∉ ρ1 → a ∉ Z ∧ a ∉ ρ) (hk : ∀ n a, ρ1[n]? = some a → ¬ n < k → a ∉ Z ∧ a ∉ ρ) : ∀ (f n : Nat) (a : Addr) (d : D), ρ1[n]? = some a → frz hc k f n = some d → RD W Z ρ H d (.ref a) := by
  intro f
  induction f with
  | zero => intro n a d _ e; simp [frz] at e
  | succ f ih =>
    intro n a d ha e
    simp only [frz] at e
    split at e
    · cases e
    · rename_i hn
      obtain ⟨h1, h2⟩ := hk n a ha hn
      cases eo : hc[n]? with
      | none => rw [eo] at e; cases e
      | some o =>
        rw [eo] at e
        have q := S.obj n o a eo ha
        cases o <;> dsimp only at e <;> first | (cases e; done) | skip
        · simp only [Option.map_eq_some_iff] at e
          obtain ⟨xs, e1, rfl⟩ := e
          cases q with | lst q t => exact .lst h1 h2 q (mapAll_ok hz ih t e1)
        · simp only [Option.map_eq_some_iff] at e
          obtain ⟨xs, e1, rfl⟩ := e
          cases q with | dct q t => exact .dct h1 h2 (Rd.of q) (mapK_ok hz ih t e1)
        · simp only [Option.map_eq_some_iff] at e
          obtain ⟨xs, e1, rfl⟩ := e
          cases q with | ins q t => exact .obj h1 h2 q (mapF_ok hz ih t e1)
theorem frzO_ok {hc : Hh} {k : Nat} (S : Sim W Z' ρ1 hc H) (hz : ∀ a, a ∉ Z' → a ∉ ρ1 → a ∉ Z ∧ a ∉ ρ) (hk : ∀ n a, ρ1[n]? = some a → ¬ n < k → a ∉ Z ∧ a ∉ ρ) {a : Addr} {o o' : O} (r : OR W Z' ρ1 H a o) (e : frzO hc k o = some o') : OR W Z ρ H a o' := by
  cases r with
  | lst q t =>
    simp only [frzO, Option.map_eq_some_iff] at e
    obtain ⟨xs, e1, rfl⟩ := e
    exact .lst q (mapAll_ok hz (frz_ok S hz hk 4) t e1)
  | ro q t =>
    simp only [frzO, Option.map_eq_some_iff] at e
    obtain ⟨xs, e1, rfl⟩ := e
    exact .ro q (mapAll_ok hz (frz_ok S hz hk 4) t e1)
  | dct q t =>
    simp only [frzO, Option.map_eq_some_iff] at e
    obtain ⟨xs, e1, rfl⟩ := e
    exact .dct q (mapK_ok hz (frz_ok S hz hk 4) t e1)
  | ins q t =>
    simp only [frzO, Option.map_eq_some_iff] at e
    obtain ⟨xs, e1, rfl⟩ := e
    exact .ins q (mapF_ok hz (frz_ok S hz hk 4) t e1)
  | dtu q k t => simp [frzO] at e
  | rod q t => simp [frzO] at e
theorem giveBack_ok {hc : Hh} {k : Nat} : ∀ {ns : List Nat} {i : Nat} {h h2 : Hh}, giveBack hc k ns i h = some h2 →
    (∀ (m : Nat) (o : O) (a : Addr), m ∉ ns → h[m]? = some o → ρ[m]? = some a → OR W Z ρ H a o) →
    (∀ (j n : Nat) (o o' : O) (a : Addr), ns[j]? = some n → hc[i + j]? = some o → ρ[n]? = some a → frzO hc k o = some o' → OR W Z ρ H a o') →
    h2.length = h.length ∧ ∀ (m : Nat) (o : O) (a : Addr), h2[m]? = some o → ρ[m]? = some a → OR W Z ρ H a o := by
  intro ns
  induction ns with
  | nil =>
    intro i h h2 e h1 _
    simp only [giveBack, Option.some.injEq] at e
    subst e
    exact ⟨rfl, fun m o a => h1 m o a (by simp)⟩
  | cons n ns ih =>
    intro i h h2 e h1 h2'
    simp only [giveBack] at e
    cases eo : hc[i]? with
    | none => rw [eo] at e; cases e
    | some o =>
      rw [eo] at e
      simp only [Option.bind_eq_some_iff] at e
      obtain ⟨o1, e1, e2⟩ := e
      have key : ∀ (m : Nat) (u : O) (a : Addr), m ∉ ns → (h.set n o1)[m]? = some u → ρ[m]? = some a → OR W Z ρ H a u := by
        intro m u a hm hu ha
        by_cases hmn : n = m
        · subst hmn
          have hl : n < h.length := by
            have := (List.getElem?_eq_some_iff.mp hu).1
            simpa using this
          rw [List.getElem?_set_self hl] at hu
          cases hu
          exact h2' 0 n o o1 a rfl (by simpa using eo) ha e1
        · rw [List.getElem?_set_ne hmn] at hu
          exact h1 m u a (fun z => (List.mem_cons.mp z).elim (fun e => hmn e.symm) hm) hu ha
      have key2 : ∀ (j m : Nat) (u u' : O) (a : Addr), ns[j]? = some m → hc[i + 1 + j]? = some u → ρ[m]? = some a → frzO hc k u = some u' → OR W Z ρ H a u' := by
        intro j m u u' a hj hu ha hf
        have e3 : i + (j + 1) = i + 1 + j := by omega
        exact h2' (j + 1) m u u' a (by simpa using hj) (by rw [e3]; exact hu) ha hf
      obtain ⟨l, q⟩ := ih e2 key key2
      exact ⟨by rw [l, List.length_set], q⟩
end
end Fw
end
section
set_option Elab.async false
set_option maxHeartbeats 1000000
namespace Fw
open PySem PySem.Spec PyProof.Rows L2
theorem OR.keep {W : Wd} {Z ρ : List Addr} {H H1 : Hp} {a : Addr} {o : O} (x : Ext ρ H ρ H1) (hk : ∀ u, H a = some u → H1 a = some u) (r : OR W Z ρ H a o) : OR W Z ρ H1 a o := by
  cases r with
  | lst q t => exact .lst (hk _ q) (t.mono x)
  | ro q t => exact .ro (q.elim (fun q => .inl (hk _ q)) fun ⟨o, q⟩ => .inr ⟨o, hk _ q⟩) (t.mono x)
  | dct q t => exact .dct (hk _ q) (t.mono x)
  | ins q t => exact .ins (hk _ q) (t.mono x)
  | dtu q k t => exact .dtu (hk _ q) k (t.mono x)
  | rod q t => exact .rod (hk _ q) (t.mono x)
theorem OR.notXd {W : Wd} {Z ρ : List Addr} {H : Hp} {a : Addr} {o : O} {fs : List (Str × V)} (r : OR W Z ρ H a o) (e : H a = some (.xd fs)) : False := by
  cases r with
  | lst q t => rw [e] at q; cases q
  | ro q t =>
    rcases q with q | ⟨_, q⟩
    · rw [e] at q; cases q
    · rw [e] at q; cases q
  | dct q t => rw [e] at q; cases q
  | ins q t => rw [e] at q; cases q
  | dtu q k t => rw [e] at q; cases q
  | rod q t => rw [e] at q; cases q
theorem lent_ok {W : Wd} {Z ρ : List Addr} {H : Hp} {h : Hh} {ds : List D} {vs : List V} {ds' : List D} {ns : List Nat} {hc : Hh} (S : Sim W Z ρ h H) (r : RDs W Z ρ H ds vs) (e : lent ds h = some (ds', ns, hc)) :
    ∃ (Z' as : List Addr), as.length = ns.length ∧ Sim W Z' as hc H ∧ RDs W Z' as H ds' vs ∧ (∀ a, H a = none → a ∉ as) ∧
      ∀ (ρ1 : List Addr) (H1 : Hp) (h1 : Hh), Ext as H ρ1 H1 → Sim W Z' ρ1 h1 H1 →
        (∀ h2, giveBack h1 ns.length ns 0 h = some h2 → Ext ρ H ρ H1 ∧ Sim W Z ρ h2 H1) ∧
        (∀ d v d', RD W Z' ρ1 H1 d v → tell h1 ns d = some d' → RD W Z ρ H1 d' v) ∧
        (∀ x x' cls dd, RX W Z' ρ1 H1 x cls dd → tellX h1 ns x = some x' → RX W Z ρ H1 x' cls dd) := by
  unfold lent at e
  split at e
  · cases e
  · rename_i ds0 ns0 el
    split at e
    · rename_i nd
      split at e
      · cases e
      · rename_i hc0 eo
        simp only [Option.some.injEq, Prod.mk.injEq] at e
        obtain ⟨rfl, rfl, rfl⟩ := e
        obtain ⟨hl, ho⟩ := lentO_ok eo
        have mk : ∀ as : List Addr, Paired (At ρ) ns0 as → ∀ a ∈ as, a ∈ ρ := fun as pa a ha => by
          obtain ⟨n, _, q⟩ := paired_mem pa a ha
          exact List.mem_of_getElem? q
        obtain ⟨as0, pa0, _⟩ := lend_ok (Z' := []) (fun z hz => absurd hz (by simp)) r el
        let Z' : List Addr := Z ++ ρ.filter fun a => decide (a ∉ as0)
        have hZ' : ∀ z ∈ Z', z ∈ Z ∨ z ∈ ρ := fun z hz => by
          rcases List.mem_append.mp hz with q | q
          · exact .inl q
          · exact .inr (List.mem_filter.mp q).1
        obtain ⟨as, pa, f⟩ := lend_ok (Z' := Z') hZ' r el
        have eas : as0 = as := by
          refine List.ext_getElem? fun i => ?_
          cases hi : ns0[i]? with
          | none =>
            have h1 : ns0.length ≤ i := List.getElem?_eq_none_iff.mp hi
            rw [List.getElem?_eq_none (by rw [← paired_len pa0]; exact h1), List.getElem?_eq_none (by rw [← paired_len pa]; exact h1)]
          | some n =>
            obtain ⟨a, e1, e2⟩ := paired_at pa0 i n hi
            obtain ⟨b, f1, f2⟩ := paired_at pa i n hi
            rw [e2] at f2
            cases f2
            rw [e1, f1]
        subst eas
        have sub := mk as0 pa
        have ndA : as0.Nodup := paired_nodup S.nd pa nd
        have lenA := paired_len pa
        have inZ : ∀ a, a ∈ ρ → a ∉ as0 → a ∈ Z' := fun a h1 h2 => List.mem_append.mpr (.inr (List.mem_filter.mpr ⟨h1, by simp [h2]⟩))
        have there : ∀ a ∈ ρ, ∃ u, H a = some u := fun a ha => by
          obtain ⟨i, hi⟩ := List.mem_iff_getElem?.mp ha
          have hl : i < h.length := by rw [← S.len]; exact (List.getElem?_eq_some_iff.mp hi).1
          exact (S.obj i h[i] a (by simp [hl]) hi).there
        refine ⟨Z', as0, lenA.symm, ⟨by rw [← lenA, hl], ndA, fun z hz => ?_, fun i o a e1 e2 => ?_⟩, f as0 (fun i a q => by simpa using q) sub, fun a ha hm => ?_, fun ρ1 H1 h1 x S1 => ?_⟩
        · rcases List.mem_append.mp hz with q | q
          · obtain ⟨q1, q2⟩ := S.dis z q
            exact ⟨fun m => q1 (sub z m), q2⟩
          · obtain ⟨q1, q2⟩ := List.mem_filter.mp q
            exact ⟨by simpa using q2, there z q1⟩
        · obtain ⟨n, en, eh, cl⟩ := ho i o e1
          obtain ⟨b, eb, er⟩ := paired_at pa i n en
          rw [eb] at e2
          have hba : b = a := Option.some.inj e2
          rw [hba] at er
          exact (S.obj n o a eh er).closed hZ' sub cl
        · obtain ⟨u, q⟩ := there a (sub a hm)
          rw [ha] at q; cases q
        · have X1 : Ext ρ H ρ H1 := ⟨List.prefix_rfl, fun a o hr e => ⟨hr, (x.keep a o (fun m => hr (sub a m)) e).2⟩, x.fz⟩
          have a1 : ∀ a ∈ as0, a ∈ ρ1 := fun a ha => x.pre.subset ha
          have hz : ∀ a, a ∉ Z' → a ∉ ρ1 → a ∉ Z ∧ a ∉ ρ := fun a n1 n2 => ⟨fun m => n1 (List.mem_append.mpr (.inl m)), fun m => by
            by_cases hm : a ∈ as0
            · exact n2 (a1 a hm)
            · exact n1 (inZ a m hm)⟩
          have hk : ∀ n a, ρ1[n]? = some a → ¬ n < ns0.length → a ∉ Z ∧ a ∉ ρ := fun n a en hn => by
            have hm : a ∈ ρ1 := List.mem_of_getElem? en
            have hZn : a ∉ Z' := fun q => (S1.dis a q).1 hm
            refine ⟨fun m => hZn (List.mem_append.mpr (.inl m)), fun m => ?_⟩
            by_cases hma : a ∈ as0
            · obtain ⟨j, hj⟩ := List.mem_iff_getElem?.mp hma
              have := nodup_inj S1.nd en (pre_get x.pre hj)
              have hjl := (List.getElem?_eq_some_iff.mp hj).1
              omega
            · exact hZn (inZ a m hma)
          have tel : ∀ d v d', RD W Z' ρ1 H1 d v → tell h1 ns0 d = some d' → RD W Z ρ H1 d' v := by
            intro d v d' rd ed
            by_cases hd : ∃ n, d = .ref n
            · obtain ⟨n, rfl⟩ := hd
              cases rd with
              | @ref a _ ra =>
                simp only [tell] at ed
                cases en : ns0[n]? with
                | some m =>
                  rw [en] at ed
                  cases ed
                  obtain ⟨b, eb, er⟩ := paired_at pa n m en
                  have := pre_get x.pre eb
                  rw [ra] at this
                  cases this
                  exact .ref er
                | none =>
                  rw [en] at ed
                  exact frz_ok S1 hz hk 4 n a d' ra ed
            · have ed' : d.map_ (frz h1 ns0.length 4) = some d' := by
                rw [← ed]
                cases d <;> first | rfl | exact absurd ⟨_, rfl⟩ hd
              exact map_ok hz (frz_ok S1 hz hk 4) rd ed'
          refine ⟨fun h2 e2 => ⟨X1, ?_⟩, tel, fun ex ex' cls dd rx ee => ?_⟩
          · have k1 : ∀ (m : Nat) (o : O) (a : Addr), m ∉ ns0 → h[m]? = some o → ρ[m]? = some a → OR W Z ρ H1 a o := by
              intro m o a hm ho' ha
              refine (S.obj m o a ho' ha).keep X1 fun u eu => (x.keep a u (fun hma => ?_) eu).2
              obtain ⟨n, hn, en⟩ := paired_mem pa a hma
              exact hm (nodup_inj S.nd ha en ▸ hn)
            have k2 : ∀ (j n : Nat) (o o' : O) (a : Addr), ns0[j]? = some n → h1[0 + j]? = some o → ρ[n]? = some a → frzO h1 ns0.length o = some o' → OR W Z ρ H1 a o' := by
              intro j n o o' a hj ho' ha hf
              obtain ⟨b, eb, er⟩ := paired_at pa j n hj
              rw [ha] at er
              have hab : a = b := Option.some.inj er
              rw [← hab] at eb
              exact frzO_ok S1 hz hk (S1.obj j o a (by simpa using ho') (pre_get x.pre eb)) hf
            obtain ⟨q1, q2⟩ := giveBack_ok (W := W) (Z := Z) (ρ := ρ) (H := H1) e2 k1 k2
            exact ⟨by rw [q1]; exact S.len, S.nd, fun z hz => ⟨(S.dis z hz).1, (S1.dis z (List.mem_append.mpr (.inl hz))).2⟩, q2⟩
          · have r2 := rx.2
            unfold tellX at ee
            cases hf : ex.fld with
            | none =>
              rw [hf] at ee r2
              cases ee
              exact ⟨rx.1, r2⟩
            | some d =>
              obtain ⟨fn, d⟩ := d
              rw [hf] at ee r2
              simp only [Option.map_eq_some_iff] at ee
              obtain ⟨d', e1, rfl⟩ := ee
              obtain ⟨a, v, f1, f2, f3, f4⟩ := r2
              refine ⟨rx.1, a, v, f1, f2, fun m => ?_, tel d v d' f4 e1⟩
              by_cases hma : a ∈ as0
              · exact f3 (a1 a hma)
              · obtain ⟨i, hi⟩ := List.mem_iff_getElem?.mp m
                have hl : i < h.length := by rw [← S.len]; exact (List.getElem?_eq_some_iff.mp hi).1
                have q := (S.obj i h[i] a (by simp [hl]) hi).keep X1 (fun u eu => (x.keep a u hma eu).2)
                exact q.notXd f2
    · cases e
end Fw
end
section
set_option Elab.async false
set_option maxHeartbeats 1000000
namespace Fw
open PySem PySem.Spec PyProof.Rows L2
structure RoomG (k : Nat) (A : Around) : Prop where
  hd : A.handled = none
  dp : A.depth + k + 15 < recursionLimit
  un : A.units + 16 * k + 300 < cLine
  gd : A.guards = some []
theorem RoomG.mono' {j k : Nat} {A : Around} (r : RoomG k A) (h : j ≤ k) : RoomG j A := ⟨r.hd, by have := r.dp; omega, by have := r.un; omega, r.gd⟩
theorem RoomG.deeper' {k : Nat} {A : Around} (r : RoomG (k + 1) A) (env : Env) : RoomG k (A.deeper env) :=
  ⟨r.hd, by have := r.dp; show A.depth + 1 + k + 15 < _; omega, by have := r.un; show A.units + 3 + 16 * k + 300 < _; omega, r.gd⟩
theorem RoomG.depth {k : Nat} {A : Around} (r : RoomG k A) : A.depth < recursionLimit := by have := r.dp; omega
theorem RoomG.units {k : Nat} {A : Around} (r : RoomG k A) : A.units + 64 < cLine := by have := r.un; omega
theorem make_guards {A : Around} {C : Addr} {us : List Value} {kw : List (Str × Value)} : (A.under (.builtin "type.__call__" ⟨.ref C :: us, kw⟩)).guards = A.guards := by
  cases h : A.guards <;> first | rfl | simp [Around.under, Code.guards, Code.isGuard, guardIds, pushGuards, h]
theorem RoomG.make' {k : Nat} {A : Around} (r : RoomG (k + 1) A) (C : Addr) (us : List Value) (kw : List (Str × Value)) : RoomG k (A.under (.builtin "type.__call__" ⟨.ref C :: us, kw⟩)) :=
  ⟨r.hd, by have := r.dp; rw [make_depth]; omega, by have := r.un; rw [make_units]; omega, make_guards.trans r.gd⟩
structure FnG (P : Program) (w : World) (K : PySem.W.Frag) (mg : Str → Option Value) (base : Heap) (CX : CXT) (k : Nat) (f : Addr) (fd : FuncData) (ps : List Str) (sp : Sp) : Prop where
  len : ∀ vs H Q E, sp vs H Q E → vs.length = ps.length
  run : ∀ (A : Around) (outer : List Env) (s : Shared) (H : Hp) (args : Args) (us : List Value) (vs : List V) (Q : VK) (E : XK),
    RoomG k A → Env0 P w K mg base A outer s H → BindsTo s fd args (ps.zip us) → Vals vs us → sp vs H Q E → codeAny (model P w) A (.call (.ref f) args) (CR CX outer P w H s Q E) s
theorem FnG.imp {P : Program} {w : World} {K : PySem.W.Frag} {mg : Str → Option Value} {base : Heap} {CX : CXT} {k : Nat} {f : Addr} {fd : FuncData} {ps : List Str} {sp sp' : Sp} (F : FnG P w K mg base CX k f fd ps sp)
    (h : ∀ vs H Q E, sp' vs H Q E → sp vs H Q E) : FnG P w K mg base CX k f fd ps sp' where
  len := fun vs H Q E q => F.len vs H Q E (h _ _ _ _ q)
  run := fun A outer s H args us vs Q E hr he hb hv q => F.run A outer s H args us vs Q E hr he hb hv (h _ _ _ _ q)
theorem FnG.cx {P : Program} {w : World} {K : PySem.W.Frag} {mg : Str → Option Value} {base : Heap} {CX CX' : CXT} {k : Nat} {f : Addr} {fd : FuncData} {ps : List Str} {sp : Sp} (F : FnG P w K mg base CX k f fd ps sp)
    (h : ∀ outer H s E e s', CX outer H s E e s' → CX' outer H s E e s') : FnG P w K mg base CX' k f fd ps sp where
  len := F.len
  run := fun A outer s H args us vs Q E r b v p q => codeAny_mono (F.run A outer s H args us vs Q E r b v p q) fun r s' z => by
    cases r with
    | error e => exact h _ _ _ _ _ _ z
    | ok fl => cases fl <;> exact z
section
variable {P : Program} {w : World} {K : PySem.W.Frag} {mg : Str → Option Value} {base : Heap} {x qual : Str} {params : Arguments} {body : List Stmt} {scope : Scope} {dvs : List V} {kws : List (Str × V)} {f : Addr} {fd : FuncData}
theorem okG {CX : CXT} {N ps : List Str} {k : Nat} {sp : Sp} (F : FunD K x qual params body scope dvs kws f fd) (S : FnScope N ps scope) (len : ∀ vs H Q E, sp vs H Q E → vs.length = ps.length)
    (hbody : ∀ (cdv : Value) (A : Around) (outer : List Env) (s : Shared) (H : Hp) (vs : List V) (Q : VK) (E : XK), RoomG k (A.deeper (envOfC qual scope s.heap.objs.size f cdv)) → sp vs H Q E →
      ∃ t, PSs (cxOf CX P w K mg base N qual scope f cdv A outer s H E) body t ∧ t { nx := fun _ H' => Q .non H', rt := Q } (L2.start N vs) H) : FnG P w K mg base CX (k + 1) f fd ps sp := by
  obtain ⟨oc, od, dV, kV, doc, pm, an, cdv, ct, osl, rfl, lk, code, _, _⟩ := F.ex
  constructor
  · exact len
  intro A outer s H args us vs Q E room env bind rel want
  have many := len _ _ _ _ want
  have inK : K.In s.heap := env.mod.kin.keeps fun b o e => (env.bs b o e).1
  have nolim : s.heap.NoLimit := env.mod.nolimit.keeps fun b o e => (env.bs b o e).1
  have seen : ∀ y ∈ ps.zip us, scope.names.lookup y.1 = some .local ∨ (scope.names.lookup y.1 = some .cell ∧ ((cellsFrom (s.heap.objs.size + 1) scope.names []).lookup y.1).isSome = true) := by
    rintro ⟨m, v⟩ hy
    have hm := (List.of_mem_zip hy).1
    exact (S.par m hm).imp id fun q => ⟨q, PySem.W.cellsFrom_some _ _ _ (.inl q)⟩
  refine codeAny_call_function room.depth (inK _ _ lk) rfl S.co S.gen rfl (PySem.W.codeRec_of inK code) (bind _ _ _ _ ?_)
  refine wpAny_newFunctionEnv_cells S.kind seen fun env' he s1 ext => ?_
  subst he
  refine ⟨nolim.keeps ext.toInCall.keep, codeAny_func ?_⟩
  obtain ⟨t, rule, ask⟩ := hbody cdv A outer s H vs Q E (room.deeper' _) want
  have start := inv_start (CX := CX) (E := E) (cd := cdv) S room.hd env many rel ext
  refine wpAny_mono (rule.run [] s1 (L2.start N vs) H _ start ask) (fun fl s' e => ?_) fun _ _ e => e
  cases fl with
  | ret u =>
    obtain ⟨v, σ', H', J, rv, q⟩ := e
    exact ⟨v, H', J.os, J.bare, J.base, J.hok, rv, q⟩
  | next =>
    obtain ⟨σ', H', J, q⟩ := e
    exact ⟨.non, H', J.os, J.bare, J.base, J.hok, rfl, q⟩
  | brk => exact e.elim fun _ z => z.elim fun _ z => z.2.elim
  | cont => exact e.elim fun _ z => z.elim fun _ z => z.2.elim
end
abbrev scriptO (vs : List Value) : Obj := { cls := .type "list", data := .seq vs.toArray }
def scriptH (K : PySem.W.Frag) (a : Addr) (vs : List Value) (ns : List Int) : Hp := fun b =>
  if b = a ∧ K.lookup a = none then some (.frz (scriptO vs) (.lst (ns.map V.int))) else none
section
variable {P : Program} {w : World} {K : PySem.W.Frag} {mg mb : Str → Option Value} {CX : CXT} {k : Nat} {fa a : Addr} {fd : FuncData} {x : Str} {sp : Sp} {s₁ : Shared} {vs : List Value} {ns : List Int}
theorem scriptH_or (K : PySem.W.Frag) (a : Addr) (vs : List Value) (ns : List Int) (b : Addr) : scriptH K a vs ns b = none ∨ (b = a ∧ K.lookup a = none ∧ scriptH K a vs ns b = some (.frz (scriptO vs) (.lst (ns.map V.int)))) := by
  by_cases h : b = a ∧ K.lookup a = none
  · exact .inr ⟨h.1, h.2, if_pos h⟩
  · exact .inl (if_neg h)
theorem law_callG (KX : K.In s₁.heap) (hns : s₁.heap.Ns mainGlobals mg) (hb : s₁.heap.Ns builtinsNs mb) (hbb : ∀ x : Str, x ≠ "__name__" → mb x = bootBuiltins x) (hlim : s₁.heap.NoLimit) (hg : s₁.gens = #[])
    (ha : s₁.heap.get? a = some (scriptO vs)) (hi : IntsAre vs ns) (hl : ns.length ≤ sizeLine) (hr : RoomG k callerA)
    (F : ∀ base : Heap, K.In base → base.Ns mainGlobals mg → FnG P w K mg base CX k fa fd [x] sp) (hbind : ∀ (s : Shared) (u : Value), BindsTo s fd ⟨[u], []⟩ [(x, u)])
    (hsp : ∀ H : Hp, Only H → SqL K H a (ns.map V.int) → sp [.ref a] H (fun v _ => v = .bl true) fun _ _ _ => False)
    (hCX : ∀ H e s', CX [] H s₁ (fun _ _ _ => False) e s' → False) :
    codeAny (model P w) callerA (.call (.ref fa) ⟨[.ref a], []⟩) (fun r s' => r = .ok (.ret (.bool true)) ∧ OldK s₁.heap s'.heap ∧ s'.os = s₁.os ∧ AllBare s'.gens) s₁ := by
  let H := scriptH K a vs ns
  have or := scriptH_or K a vs ns
  have only : Only H := fun b => (or b).imp id fun h => ⟨_, _, h.2.2⟩
  have long : (ns.map V.int).length ≤ sizeLine := by rw [List.length_map]; exact hl
  have seq : SqL K H a (ns.map V.int) := by
    cases hk : K.lookup a with
    | none => exact .inl (.inr ⟨scriptO vs, if_pos ⟨rfl, hk⟩⟩)
    | some o =>
      have e := (KX a o hk).symm.trans ha
      cases e
      exact .inr ⟨scriptO vs, vs.toArray, _, hk, rfl, rfl, rfl, by rw [List.size_toArray, ← hi.length] at *; exact hl, vals_ints hi⟩
  have held : HOk P w H s₁.heap := by
    intro b u e
    rcases or b with z | ⟨rfl, _, z⟩
    · exact nomatch z.symm.trans e
    · cases z.symm.trans e
      exact ⟨ha, long, vs, _, vals_ints hi, ha⟩
  have free : ∀ {b : Addr} {o : Obj}, s₁.heap.get? b = some o → (∀ y n, o.data ≠ .seq y n) → H b = none := by
    intro b o e d
    rcases or b with z | ⟨rfl, _, _⟩
    · exact z
    · cases ha.symm.trans e
      exact absurd rfl (d _ _)
  have name : ∀ {b : Addr} {m : Str → Option Value}, s₁.heap.Ns b m → (hidT s₁.heap H).Ns b m := by
    rintro b m ⟨o, es, ep, e, d, r⟩
    refine ⟨o, es, ep, hidT_get e (free e fun y n q => ?_), d, r⟩
    rw [d] at q
    cases q
  have inK : K.In (hidT s₁.heap H) := by
    intro b o e
    refine hidT_get (KX b o e) ?_
    rcases or b with z | ⟨rfl, z, _⟩
    · exact z
    · exact nomatch z.symm.trans e
  have mod : Mod K mg (hidT s₁.heap H) := ⟨inK, name hns, ⟨mb, name hb, hbb⟩, hlim.imp fun m q => ⟨name q.1, q.2⟩⟩
  have env : Env0 P w K mg (hidT s₁.heap H) callerA [] s₁ H := {
    frames := rfl, mod := mod, bs := fun b o e => of_hidT e, bsz := Nat.le_of_eq (hidT_size _ _)
    funs := trivial, frf := fun b hb => (by cases hb), hok := held, bare := .of_eq hg }
  refine codeAny_mono ((F _ inK (name hns)).run callerA [] s₁ H ⟨[.ref a], []⟩ [.ref a] [.ref a] _ _ hr env (hbind s₁ (.ref a)) (.cons rfl .nil) (hsp H only seq)) ?_
  intro r s' z
  match r, z with
  | .error e, z => exact (hCX H e s' z).elim
  | .ok .next, z => exact z.elim
  | .ok .brk, z => exact z.elim
  | .ok .cont, z => exact z.elim
  | .ok (.ret u), ⟨v, H', os, bare, un, held', rv, q⟩ =>
    have q' : v = V.bl true := q
    subst q'
    have ru : u = Value.bool true := rv
    subst ru
    refine ⟨rfl, OldK.of_keep ?_, os, bare⟩
    intro b o e
    rcases or b with z | ⟨rfl, _, z⟩
    · exact un.keep b o e z (by intro y; cases y) (by simp)
    · have e1 := (held' _ _ (un.frzs _ _ _ z)).1
      cases ha.symm.trans e
      exact e1
theorem walk_ofG {l : PySem.W.OpenLaw} {n : Nat} {q : Program} {loose : List Str} {XP : (Str → Option Value) → Heap → Prop} {YP : World → Heap → Prop} {d : DefRec} (hn : l.most = some n) (hn2 : n ≤ sizeLine) (hdf : d.params.defaults = []) (hr : RoomG k callerA)
    (F : ∀ (w : World) (mg : Str → Option Value) (fa : Addr) (h : Heap), YP w h → h.Ns mainGlobals mg → mg d.name = some (.ref fa) →
      ∃ (K : PySem.W.Frag) (fd : FuncData) (sp : Sp), K.In h ∧ (∀ (s : Shared) (u : Value), BindsTo s fd ⟨[u], []⟩ [(x, u)]) ∧
        (∀ (H : Hp) (a : Addr) (ns : List Int), ns.length ≤ n → Only H → SqL K H a (ns.map V.int) → sp [.ref a] H (fun v _ => v = .bl true) fun _ _ _ => False) ∧
        ∀ base : Heap, K.In base → base.Ns mainGlobals mg → FnG l.prog w K mg base CX k fa fd [x] sp)
    (hCX : ∀ (H : Hp) (s : Shared) (e : Value) (s' : Shared), CX [] H s (fun _ _ _ => False) e s' → False) : PySem.W.WalkO q loose XP YP l.row.toRowW d [] (fun f vs => PySem.call f vs) := by
  refine Att.attach_call hn hdf ?_
  intro w s₀ s₁ mg mb fa o pm cd doc a vs ns G Y _ _ _ hmg hobj hints many hg
  obtain ⟨K, fd, sp, KX, bind, promise, hF⟩ := F w mg fa _ Y G.T.g hmg
  exact law_callG KX G.T.g G.T.b G.T.builtins G.T.nolimit hg hobj hints (Nat.le_trans many hn2) hr hF bind (fun H only seq => promise H a ns many only seq) (fun H e s' => hCX H s₁ e s')
end
end Fw
end
section
set_option Elab.async false
set_option maxHeartbeats 1000000
namespace Fw
open PySem PySem.Spec PyProof.Rows L2
def spF (W : Wd) (r : List D → Hh → R D) : Sp := fun vs H Q E => ∃ Z ρ h ds, Sim W Z ρ h H ∧ RDs W Z ρ H ds vs ∧ Post W Z ρ H (r ds h) (fun d ρ' _ H' => ∀ v, RD W Z ρ' H' d v → Q v H') E
def spM (W : Wd) (c : Nat) (r : List D → Hh → R D) : Sp := fun vs H Q E => ∃ x dx us H0, vs = .ref x :: us ∧ H0 x = none ∧ H0 dx = none ∧ dx ≠ x ∧ H = upd (upd H0 dx (.own x)) x (.ins (W.ca c) dx []) ∧
  ∃ Z ρ h ds, Sim W Z ρ h H0 ∧ RDs W Z ρ H0 ds us ∧ Post W Z ρ H0 (r ds h) (fun d ρ' _ H' => RD W Z ρ' H' d (.ref x) → Q .non H') E
section
variable {W : Wd} {Z ρ : List Addr} {H : Hp}
theorem rsg_start {N : List Str} {ds : List D} {vs : List V} (r : RDs W Z ρ H ds vs) : RSg W Z ρ H (startD N.length ds) (L2.start N vs) where
  len := by simp [startD, L2.start, r.length]
  at_ := fun i d e => by
    unfold startD at e
    by_cases hi : i < (ds.map some).length
    · rw [List.getElem?_append_left hi, List.getElem?_map] at e
      cases ed : ds[i]? with
      | none => rw [ed] at e; cases e
      | some d' =>
        rw [ed] at e
        cases e
        obtain ⟨v, ev, rv⟩ := r.get ed
        refine ⟨v, ?_, rv⟩
        unfold L2.start
        rw [List.getElem?_append_left (by simpa [← r.length] using hi), List.getElem?_map, ev]
        rfl
    · rw [List.getElem?_append_right (by omega)] at e
      have := List.mem_of_getElem? e
      simp at this
theorem back_post {Z' as : List Addr} {ns : List Nat} {h : Hh} {r : SR} {Q : VK} {E : XK}
    (f : ∀ (ρ1 : List Addr) (H1 : Hp) (h1 : Hh), Ext as H ρ1 H1 → Sim W Z' ρ1 h1 H1 →
        (∀ h2, giveBack h1 ns.length ns 0 h = some h2 → Ext ρ H ρ H1 ∧ Sim W Z ρ h2 H1) ∧
        (∀ d v d', RD W Z' ρ1 H1 d v → tell h1 ns d = some d' → RD W Z ρ H1 d' v) ∧
        (∀ x x' cls dd, RX W Z' ρ1 H1 x cls dd → tellX h1 ns x = some x' → RX W Z ρ H1 x' cls dd))
    (p : Post W Z ρ H (back ns h r) (fun d ρ' _ H' => ∀ v, RD W Z ρ' H' d v → Q v H') E) :
    PostS W Z' as H r { nx := fun _ H' => Q .non H', rt := Q } (fun cls d _ H => E cls d H) := by
  cases r with
  | nx σ h1 =>
    intro ρ1 H1 σ' x S1 _
    obtain ⟨f1, f2, f3⟩ := f ρ1 H1 h1 x S1
    simp only [back] at p
    cases hg : giveBack h1 ns.length ns 0 h with
    | none => rw [hg] at p; exact p.elim
    | some h2 =>
      rw [hg] at p
      obtain ⟨x2, S2⟩ := f1 h2 hg
      exact p ρ H1 x2 S2 .non .non
  | rt d h1 =>
    intro ρ1 H1 v x S1 rv
    obtain ⟨f1, f2, f3⟩ := f ρ1 H1 h1 x S1
    simp only [back] at p
    cases ht : tell h1 ns d with
    | none => rw [ht] at p; exact p.elim
    | some d' =>
      cases hg : giveBack h1 ns.length ns 0 h with
      | none => rw [ht, hg] at p; exact p.elim
      | some h2 =>
        rw [ht, hg] at p
        obtain ⟨x2, S2⟩ := f1 h2 hg
        exact p ρ H1 x2 S2 v (f2 d v d' rv ht)
  | xn e σ h1 =>
    intro ρ1 H1 σ' cls dd x S1 _ rx
    obtain ⟨f1, f2, f3⟩ := f ρ1 H1 h1 x S1
    simp only [back] at p
    cases ht : tellX h1 ns e with
    | none => rw [ht] at p; exact p.elim
    | some d' =>
      cases hg : giveBack h1 ns.length ns 0 h with
      | none => rw [ht, hg] at p; exact p.elim
      | some h2 =>
        rw [ht, hg] at p
        obtain ⟨x2, S2⟩ := f1 h2 hg
        exact p ρ H1 cls dd x2 S2 (f3 e d' cls dd rx ht)
  | bk σ h1 => exact p.elim
  | ct σ h1 => exact p.elim
  | bad => exact p.elim
theorem mkBack_post {Z' as : List Addr} {ns : List Nat} {h : Hh} {r : SR} {Q : VK} {E : XK} {x : Addr} {H0 : Hp} (hx : as[ns.length]? = some x)
    (f : ∀ (ρ1 : List Addr) (H1 : Hp) (h1 : Hh), Ext as H ρ1 H1 → Sim W Z' ρ1 h1 H1 →
        (∀ h2, giveBack h1 ns.length ns 0 h = some h2 → Ext ρ H0 ρ H1 ∧ Sim W Z ρ h2 H1) ∧
        (∀ d v d', RD W Z' ρ1 H1 d v → tell h1 ns d = some d' → RD W Z ρ H1 d' v) ∧
        (∀ x x' cls dd, RX W Z' ρ1 H1 x cls dd → tellX h1 ns x = some x' → RX W Z ρ H1 x' cls dd))
    (p : Post W Z ρ H0 (mkBack ns h r) (fun d ρ' _ H' => RD W Z ρ' H' d (.ref x) → Q .non H') E) :
    PostS W Z' as H r { nx := fun _ H' => Q .non H', rt := Q } (fun cls d _ H => E cls d H) := by
  cases r with
  | nx σ h1 =>
    intro ρ1 H1 σ' y S1 _
    obtain ⟨f1, f2, f3⟩ := f ρ1 H1 h1 y S1
    simp only [mkBack, back] at p
    cases ht : tell h1 ns (.ref ns.length) with
    | none => rw [ht] at p; exact p.elim
    | some d' =>
      cases hg : giveBack h1 ns.length ns 0 h with
      | none => rw [ht, hg] at p; exact p.elim
      | some h2 =>
        rw [ht, hg] at p
        obtain ⟨x2, S2⟩ := f1 h2 hg
        exact p ρ H1 x2 S2 (f2 _ _ d' (.ref (pre_get y.pre hx)) ht)
  | rt d h1 =>
    intro ρ1 H1 v y S1 rv
    obtain ⟨f1, f2, f3⟩ := f ρ1 H1 h1 y S1
    cases d <;> first | (exact p.elim) | skip
    cases rv
    simp only [mkBack, back] at p
    cases ht : tell h1 ns (.ref ns.length) with
    | none => rw [ht] at p; exact p.elim
    | some d' =>
      cases hg : giveBack h1 ns.length ns 0 h with
      | none => rw [ht, hg] at p; exact p.elim
      | some h2 =>
        rw [ht, hg] at p
        obtain ⟨x2, S2⟩ := f1 h2 hg
        exact p ρ H1 x2 S2 (f2 _ _ d' (.ref (pre_get y.pre hx)) ht)
  | xn e σ h1 =>
    intro ρ1 H1 σ' cls dd y S1 _ rx
    obtain ⟨f1, f2, f3⟩ := f ρ1 H1 h1 y S1
    simp only [mkBack, back] at p
    cases ht : tellX h1 ns e with
    | none => rw [ht] at p; exact p.elim
    | some d' =>
      cases hg : giveBack h1 ns.length ns 0 h with
      | none => rw [ht, hg] at p; exact p.elim
      | some h2 =>
        rw [ht, hg] at p
        obtain ⟨x2, S2⟩ := f1 h2 hg
        exact p ρ H1 cls dd x2 S2 (f3 e d' cls dd rx ht)
  | bk σ h1 => exact p.elim
  | ct σ h1 => exact p.elim
  | bad => exact p.elim
theorem own_len {N : List Str} {sm : SM} {n : Nat} {vs : List V} {Q : VK} {E : XK} (p : spF W (own n N.length sm) vs H Q E) : vs.length = n := by
  obtain ⟨Z, ρ, h, ds, S, r, p⟩ := p
  unfold own at p
  split at p
  · rename_i hl; rw [← r.length]; exact hl
  · exact p.elim
theorem make_len {N : List Str} {sm : SM} {n c : Nat} {vs : List V} {Q : VK} {E : XK} (p : spM W c (make c n N.length sm) vs H Q E) : vs.length = n := by
  obtain ⟨x, dx, us, H0, rfl, _, _, _, _, Z, ρ, h, ds, S, r, p⟩ := p
  unfold make at p
  split at p
  · rename_i hl; rw [← hl, r.length]; rfl
  · exact p.elim
theorem full_len {N : List Str} {sm : SM} {n : Nat} {vs : List V} {Q : VK} {E : XK} (p : spF W (full n N.length sm) vs H Q E) : vs.length = n := by
  obtain ⟨Z, ρ, h, ds, S, r, p⟩ := p
  unfold full at p
  split at p
  · rename_i hl; rw [← r.length]; exact hl
  · exact p.elim
theorem own_read {N : List Str} {sm : SM} {n : Nat} {vs : List V} {Q : VK} {E : XK} (p : spF W (own n N.length sm) vs H Q E) :
    tS W (fun cls d _ H => E cls d H) sm { nx := fun _ H' => Q .non H', rt := Q } (L2.start N vs) H := by
  obtain ⟨Z, ρ, h, ds, S, r, p⟩ := p
  unfold own at p
  split at p
  case isFalse => exact p.elim
  cases hl : lent ds h with
  | none => rw [hl] at p; exact p.elim
  | some q =>
    obtain ⟨ds', ns, hc⟩ := q
    rw [hl] at p
    obtain ⟨Z', as, la, S', r', _, f⟩ := lent_ok S r hl
    exact ⟨Z', as, startD N.length ds', hc, S', rsg_start r', back_post f p⟩
theorem make_read {N : List Str} {sm : SM} {n c : Nat} {vs : List V} {Q : VK} {E : XK} (p : spM W c (make c n N.length sm) vs H Q E) :
    tS W (fun cls d _ H => E cls d H) sm { nx := fun _ H' => Q .non H', rt := Q } (L2.start N vs) H := by
  obtain ⟨x, dx, us, H0, rfl, hx, hdx, hne, rfl, Z, ρ, h, ds, S, r, p⟩ := p
  unfold make at p
  split at p
  case isFalse => exact p.elim
  cases hl : lent ds h with
  | none => rw [hl] at p; exact p.elim
  | some q =>
    obtain ⟨ds', ns, hc⟩ := q
    rw [hl] at p
    obtain ⟨Z', as, la, S', r', nn, f⟩ := lent_ok S r hl
    have n1 : upd H0 dx (.own x) x = none := by rw [upd_ne (Ne.symm hne)]; exact hx
    have S1 : Sim W Z' as hc (upd H0 dx (.own x)) := S'.laid hdx
    have x1 : Ext as H0 as (upd H0 dx (.own x)) := Ext.laid hdx
    have x2 : Ext as (upd H0 dx (.own x)) (as ++ [x]) (upd (upd H0 dx (.own x)) x (.ins (W.ca c) dx [])) := Ext.own n1
    have S2 := S1.own (o := .ins (W.ca c) dx []) (ob := .ins c []) n1 (.ins upd_same .nil)
    refine ⟨Z', as ++ [x], startD N.length (.ref ns.length :: ds'), hc ++ [.ins c []], S2, rsg_start (.cons (.ref (by rw [← la]; simp)) ((r'.mono x1).mono x2)), ?_⟩
    have xx := x1.trans x2
    exact mkBack_post (Z := Z) (ρ := ρ) (H0 := H0) (by rw [← la]; simp) (fun ρ1 H1 h1 y Sy => f ρ1 H1 h1 (xx.trans y) Sy) p
end
section
variable {P : Program} {w : World} {K : PySem.W.Frag} {mg : Str → Option Value} {base : Heap} {x qual : Str} {params : Arguments} {body : List Stmt} {scope : Scope} {dvs : List V} {kws : List (Str × V)} {f : Addr} {fd : FuncData} {N ps : List Str} {k : Nat} {W : Wd} {sm : SM}
theorem js_of {cdv : Value} {A : Around} {outer : List Env} {s : Shared} {H : Hp} {E : XK} (hK : K = W.K) (hN : N.Nodup) (r : RoomG k (A.deeper (envOfC qual scope s.heap.objs.size f cdv))) :
    Js (cxOf (L2.CX P w) P w K mg base N qual scope f cdv A outer s H E) W (fun cls d _ H => E cls d H) where
  hK := hK
  hu := r.units
  hu2 := by
    have := r.un
    show (A.deeper (envOfC qual scope s.heap.objs.size f cdv)).units + 190 < cLine
    omega
  gd := r.gd
  tk := takes_of rfl rfl rfl rfl
  hN := hN
  hc := rfl
  hp := passes_of rfl
theorem fn_own (F : FunD K x qual params body scope dvs kws f fd) (S : FnScope N ps scope) (hK : K = W.K)
    (hb : ∀ (cdv : Value) (A : Around) (outer : List Env) (s : Shared) (H : Hp) (E : XK), RoomG k (A.deeper (envOfC qual scope s.heap.objs.size f cdv)) →
      SsJ (cxOf (L2.CX P w) P w K mg base N qual scope f cdv A outer s H E) W (fun cls d _ H => E cls d H) body sm) :
    FnG P w K mg base (L2.CX P w) (k + 1) f fd ps (spF W (own ps.length N.length sm)) :=
  okG F S (fun vs H Q E p => own_len p) fun cdv A outer s H vs Q E r p => ⟨_, hb cdv A outer s H E r, own_read p⟩
theorem fn_make {c : Nat} (F : FunD K x qual params body scope dvs kws f fd) (S : FnScope N ps scope) (hK : K = W.K)
    (hb : ∀ (cdv : Value) (A : Around) (outer : List Env) (s : Shared) (H : Hp) (E : XK), RoomG k (A.deeper (envOfC qual scope s.heap.objs.size f cdv)) →
      SsJ (cxOf (L2.CX P w) P w K mg base N qual scope f cdv A outer s H E) W (fun cls d _ H => E cls d H) body sm) :
    FnG P w K mg base (L2.CX P w) (k + 1) f fd ps (spM W c (make c ps.length N.length sm)) :=
  okG F S (fun vs H Q E p => make_len p) fun cdv A outer s H vs Q E r p => ⟨_, hb cdv A outer s H E r, make_read p⟩
theorem full_read {n : Nat} {vs : List V} {H : Hp} {Q : VK} {E : XK} (p : spF W (full n N.length sm) vs H Q E) :
    tS W (fun cls d _ H => E cls d H) sm { nx := fun _ H' => Q .non H', rt := Q } (L2.start N vs) H := by
  obtain ⟨Z, ρ, h, ds, S, r, p⟩ := p
  refine ⟨Z, ρ, startD N.length ds, h, S, rsg_start r, ?_⟩
  unfold full at p
  split at p
  case isFalse => exact p.elim
  cases hs : sm (startD N.length ds) h with
  | nx σ h1 => rw [hs] at p; exact fun ρ' H' σ' x S' _ => p ρ' H' x S' .non .non
  | rt d h1 => rw [hs] at p; exact fun ρ' H' v x S' rv => p ρ' H' x S' v rv
  | xn e σ h1 => rw [hs] at p; exact fun ρ' H' σ' cls dd x S' _ rx => p ρ' H' cls dd x S' rx
  | bk σ h1 => rw [hs] at p; exact p.elim
  | ct σ h1 => rw [hs] at p; exact p.elim
  | bad => rw [hs] at p; exact p.elim
theorem fn_full (F : FunD K x qual params body scope dvs kws f fd) (S : FnScope N ps scope) (hK : K = W.K)
    (hb : ∀ (cdv : Value) (A : Around) (outer : List Env) (s : Shared) (H : Hp) (E : XK), RoomG k (A.deeper (envOfC qual scope s.heap.objs.size f cdv)) →
      SsJ (cxOf (L2.CX P w) P w K mg base N qual scope f cdv A outer s H E) W (fun cls d _ H => E cls d H) body sm) :
    FnG P w K mg base (L2.CX P w) (k + 1) f fd ps (spF W (full ps.length N.length sm)) :=
  okG F S (fun vs H Q E p => full_len p) fun cdv A outer s H vs Q E r p => ⟨_, hb cdv A outer s H E r, full_read p⟩
end
section
variable {X : Cx} {k : Nat} {f C : Addr} {fd : FuncData} {ps : List Str} {sp : Sp} {E : XK}
theorem run_at {pins : List (Addr × Obj)} {σ : L2.St} {H : Hp} {s : Shared} {Q : VK} {us : List Value} {kw : List (Str × Value)} {all : List Value} {vs : List V} (F : FnG X.prog X.w X.K X.mg X.base (L2.CX X.prog X.w) k f fd ps sp) (hr : RoomG k X.A)
    (hx : PassesAt (L2.CX X.prog X.w) X σ E) (I : Inv X pins σ H s) (hb : BindsTo s fd ⟨us, kw⟩ (ps.zip all)) (r : Vals vs all) (h : sp vs H Q E) : wpAny (model X.prog X.w) X.A (call (.ref f) us kw) (EP X pins σ Q) X.xe s := by
  refine wpAny_call (codeAny_mono (F.run X.A X.stack s H ⟨us, kw⟩ all vs Q E hr I.env0 hb r h) fun r s' hq => ?_)
  cases r with
  | error e => exact hx pins H s e s' I hq
  | ok fl =>
    cases fl with
    | ret u => exact I.after hq
    | next => exact False.elim hq
    | brk => exact False.elim hq
    | cont => exact False.elim hq
end
section
variable {X : Cx} {W : Wd} {wx : WX} {k : Nat} {f C : Addr} {fd : FuncData} {ps : List Str} {r : List D → Hh → R D} {x : Str} {p pos : Pos} {e : Expr} {es : List Expr} {fs : AM} {dds : List D} {dvs : List V} {ds : List Value} {n : Nat}
def Dfl (W : Wd) (dds : List D) (dvs : List V) : Prop := ∀ Z ρ H, RDs W Z ρ H dds dvs
theorem dfl_nil : Dfl W [] [] := fun _ _ _ => .nil
theorem ej_call (J : Jc X W wx) (F : FnG X.prog X.w X.K X.mg X.base (L2.CX X.prog X.w) k f fd ps (spF W r)) (hr : RoomG k X.A) (hg : Gl X x) (hm : X.mg x = some (.ref f)) (hk : PySem.W.keepIn X.K (.ref f) = true) (hb : Binds X.K fd ps ds) (hd : Vals dvs ds) (hdd : Dfl W dds dvs)
    (ha : AJ X W wx (e :: es) fs) (hdb : (x == ("__debug__" : Str)) = false := by decide) (he : starEach (e :: es) X.env = (false, eval e X.env) :: starEach es X.env := by rfl) (hpl : (backTo pos (starEach es X.env)).any (·.1) = false := by rfl) :
    EJ X W wx (.Call (.Name x p) (e :: es) [] pos) (eCall (fun ds h => r (ds ++ dds) h) fs) := by
  refine ⟨fun pins s σ H Q I ⟨Z, ρ, σd, h0, S, rs, pp⟩ => ?_⟩
  refine wpAny_Call_Name_kw (ld_glob I hg hm ?_ hdb)
  refine PySem.W.callWith_K (h₀ := X.base) I.ok.mod.kin hk (thn (ha.run pos pins s σ H (fun vs H1 => spF W r (vs ++ dvs) H1 Q fun cls dd H => wx cls dd σ H) I ⟨Z, ρ, σd, h0, S, rs, (Post.bind pp).imp fun ds1 ρ1 h1 H1 x1 S1 p1 vs rvs => ?_⟩) fun us s1 ⟨vs, H1, I1, rv, q⟩ => ⟨I1.kIn, ?_⟩) he hpl
  · exact ⟨Z, ρ1, h1, ds1 ++ dds, S1, rvs.append (hdd Z ρ1 H1), p1⟩
  · have rv2 := rv.append hd
    exact run_at F hr (passAt J.tk σ) I1 (hb s1 us I1.kIn (by rw [← rv2.length]; exact F.len _ _ _ _ q)) rv2 q
section
variable {m : Str} {apos : Pos} {o : Expr} {fo : TM} {cls : Nat}
theorem asObj_ok {Z ρ : List Addr} {h : Hh} {H : Hp} {d : D} {v : V} {c : Nat} {fs : List (Nat × D)} (S : Sim W Z ρ h H) (r : RD W Z ρ H d v) (e : asObj h d = some (c, fs)) : ∃ a dx gs, v = .ref a ∧ H a = some (.ins (W.ca c) dx gs) ∧ RFs W Z ρ H fs gs := by
  cases r <;> simp only [asObj] at e
  case obj a dx c' fs' gs z ra q t => cases e; exact ⟨_, _, _, rfl, q, t⟩
  case ref a n en =>
    cases eo : h[n]? with
    | none => rw [eo] at e; cases e
    | some o =>
      rw [eo] at e
      have q := S.obj n o a eo en
      cases o <;> dsimp only at e <;> cases e
      cases q with | ins q t => exact ⟨_, _, _, rfl, q, t⟩
  all_goals cases e
theorem rfs_none {Z ρ : List Addr} {H : Hp} {m : Str} (hm : ∀ k, W.an k ≠ m) : ∀ {fs : List (Nat × D)} {gs : List (Str × V)}, RFs W Z ρ H fs gs → gs.lookup m = none := by
  intro fs
  induction fs with
  | nil => intro gs r; cases r; rfl
  | cons q fs ih =>
    intro gs r
    cases r with
    | cons r t =>
      rw [List.lookup_cons, beq_eq_false_iff_ne.mpr fun e => hm _ e.symm]
      exact ih t
theorem ej_meth {pl : Sem Bool} (J : Jc X W wx) (ho : EJ X W wx o fo) (c : Cls X.K (W.ca cls)) (hm : Meth X.K (W.ca cls) m f) (hnm : ∀ k, W.an k ≠ m) (F : FnG X.prog X.w X.K X.mg X.base (L2.CX X.prog X.w) k f fd ps (spF W r)) (hr : RoomG k X.A) (hb : Binds X.K fd ps ds) (hd : Vals dvs ds) (hdd : Dfl W dds dvs)
    (ha : AJ X W wx (e :: es) fs) (hst : starEach (e :: es) X.env = (false, eval e X.env) :: starEach es X.env := by rfl) (hpl : (backTo pos (starEach es X.env)).any (·.1) = false := by rfl)
    (ht : eval (.Call (.Attribute o m apos) (e :: es) [] pos) X.env = (do
      let ov ← eval o X.env
      standAt apos.atName
      let (f, first) ← holding [ov] (getMethod ov m pl)
      callWith pos f first (backTo pos (starEach (e :: es) X.env)) (backToKw pos (keywordEach [] X.env))) := by rfl) :
    EJ X W wx (.Call (.Attribute o m apos) (e :: es) [] pos) (eMeth (fun ds h => r (ds ++ dds) h) cls fo fs) := by
  refine ⟨fun pins s σ H Q I ⟨Z, ρ, σd, h0, S, rs, pp⟩ => ?_⟩
  refine PySem.W.methodCall_KW (pl := pl) (thn (ho.run pins s σ H (fun x H1 => ∃ a dx gs, x = .ref a ∧ H1 a = some (.ins (W.ca cls) dx gs) ∧ gs.lookup m = none ∧ tA W wx fs σ H1 fun vs H2 => spF W r (x :: (vs ++ dvs)) H2 Q fun cls dd H => wx cls dd σ H) I
    ⟨Z, ρ, σd, h0, S, rs, (Post.bind pp).imp fun d ρ1 h1 H1 x1 S1 p1 v rv => ?_⟩) fun u s1 ⟨x, H1, I1, rx, a, dx, gs, ex, ea, l, q⟩ => ?_) ht
  · cases ho : asObj h1 d with
    | none => rw [ho] at p1; exact p1.elim
    | some q =>
      obtain ⟨c1, fs1⟩ := q
      rw [ho] at p1
      dsimp only at p1
      split at p1
      · rename_i hc1
        subst hc1
        obtain ⟨a, dx, gs, e1, e2, e3⟩ := asObj_ok S1 rv ho
        exact ⟨a, dx, gs, e1, e2, rfs_none hnm e3, Z, ρ1, σd, h1, S1, rs.mono x1, (Post.bind p1).imp fun ds2 ρ2 h2 H2 x2 S2 p2 vs rvs =>
          ⟨Z, ρ2, h2, d :: (ds2 ++ dds), S2, .cons (rv.mono x2) (rvs.append (hdd Z ρ2 H2)), p2⟩⟩
      · exact p1.elim
  · subst ex
    obtain rfl : u = Value.ref a := rx
    refine getmeth_ok I1 ea c hm l ?_
    refine PySem.W.callWith_K (first := [.ref a]) (h₀ := X.base) I.ok.mod.kin hm.kp (thn (ha.run pos pins s1 σ H1 _ I1 q) fun us s2 ⟨vs, H2, I2, rv, q2⟩ => ⟨I2.kIn, ?_⟩) hst hpl
    have rv2 : Vals (V.ref a :: (vs ++ dvs)) (Value.ref a :: us ++ ds) := .cons rfl (rv.append hd)
    exact run_at F hr (passAt J.tk σ) I2 (hb s2 (Value.ref a :: us) I2.kIn (by rw [← rv2.length]; exact F.len _ _ _ _ q2)) rv2 q2
theorem ej_meth0 {pl : Sem Bool} (J : Jc X W wx) (ho : EJ X W wx o fo) (c : Cls X.K (W.ca cls)) (hm : Meth X.K (W.ca cls) m f) (hnm : ∀ k, W.an k ≠ m) (F : FnG X.prog X.w X.K X.mg X.base (L2.CX X.prog X.w) k f fd ps (spF W r)) (hr : RoomG k X.A) (hb : Binds X.K fd ps ds) (hd : Vals dvs ds) (hdd : Dfl W dds dvs)
    (ht : eval (.Call (.Attribute o m apos) [] [] pos) X.env = (do
      let ov ← eval o X.env
      standAt apos.atName
      let (f, first) ← holding [ov] (getMethod ov m pl)
      callWith pos f first (backTo pos (starEach [] X.env)) (backToKw pos (keywordEach [] X.env))) := by rfl) :
    EJ X W wx (.Call (.Attribute o m apos) [] [] pos) (eMeth (fun ds h => r (ds ++ dds) h) cls fo aNil) := by
  refine ⟨fun pins s σ H Q I ⟨Z, ρ, σd, h0, S, rs, pp⟩ => ?_⟩
  refine PySem.W.methodCall_KW (pl := pl) (thn (ho.run pins s σ H (fun x H1 => ∃ a dx gs, x = .ref a ∧ H1 a = some (.ins (W.ca cls) dx gs) ∧ gs.lookup m = none ∧ spF W r (x :: ([] ++ dvs)) H1 Q fun cls dd H => wx cls dd σ H) I
    ⟨Z, ρ, σd, h0, S, rs, (Post.bind pp).imp fun d ρ1 h1 H1 x1 S1 p1 v rv => ?_⟩) fun u s1 ⟨x, H1, I1, rx, a, dx, gs, ex, ea, l, q⟩ => ?_) ht
  · cases ho : asObj h1 d with
    | none => rw [ho] at p1; exact p1.elim
    | some q =>
      obtain ⟨c1, fs1⟩ := q
      rw [ho] at p1
      dsimp only at p1
      split at p1
      · rename_i hc1
        subst hc1
        obtain ⟨a, dx, gs, e1, e2, e3⟩ := asObj_ok S1 rv ho
        exact ⟨a, dx, gs, e1, e2, rfs_none hnm e3, Z, ρ1, h1, d :: ([] ++ dds), S1, .cons rv (RDs.append .nil (hdd Z ρ1 H1)), p1⟩
      · exact p1.elim
  · subst ex
    obtain rfl : u = Value.ref a := rx
    refine getmeth_ok I1 ea c hm l ?_
    have rv2 : Vals (V.ref a :: ([] ++ dvs)) ([Value.ref a] ++ ds) := .cons rfl hd
    exact PySem.W.callWith_K0 (first := [.ref a]) I1.kIn hm.kp (run_at F hr (passAt J.tk σ) I1 (hb s1 [Value.ref a] I1.kIn (by rw [← rv2.length]; exact F.len _ _ _ _ q)) rv2 q)
theorem spM_of {r : List D → Hh → R D} {Z ρ : List Addr} {h : Hh} {H : Hp} {ds : List D} {vs : List V} {Q : VK} {E : XK} (S : Sim W Z ρ h H) (rv : RDs W Z ρ H ds vs) (p : Post W Z ρ H (r ds h) (fun d ρ' _ H' => ∀ v, RD W Z ρ' H' d v → Q v H') E) :
    ∀ x dx, H x = none → H dx = none → dx ≠ x → spM W cls r (.ref x :: vs) (upd (upd H dx (.own x)) x (.ins (W.ca cls) dx [])) (fun v H2 => v = .non ∧ Q (.ref x) H2) E :=
  fun x dx hx hdx hne => ⟨x, dx, vs, H, rfl, hx, hdx, hne, rfl, Z, ρ, h, ds, S, rv, p.imp fun d ρ' h' H' x' S' q rv => ⟨rfl, q _ rv⟩⟩
end
abbrev KJ (X : Cx) (W : Wd) (wx : WX) (kws : List Keyword) (f : AM) : Prop := PK X kws (tA W wx f)
theorem kj_nil : KJ X W wx [] aNil := ⟨fun pos pins s σ H Q I ⟨Z, ρ, σd, h0, S, rs, p⟩ => pk_nil.run pos pins s σ H Q I (post_now S p [] .nil)⟩
theorem kj_cons {f : TM} {kws : List Keyword} {nm : Option Str} {kpos : Pos} (ha : EJ X W wx e f) (hr : KJ X W wx kws fs) : KJ X W wx (⟨nm, e, kpos⟩ :: kws) (aCons f fs) :=
  ⟨fun pos pins s σ H Q I ⟨Z, ρ, σd, h0, S, rs, p⟩ => (pk_cons ha hr).run pos pins s σ H Q I
    ⟨Z, ρ, σd, h0, S, rs, (Post.bind p).imp fun d ρ1 h1 H1 x1 S1 p1 v rv =>
      ⟨Z, ρ1, σd, h1, S1, rs.mono x1, (Post.bind p1).imp fun ds ρ2 h2 H2 x2 S2 p2 vs rvs => post_now S2 p2 (v :: vs) (.cons (rv.mono x2) rvs)⟩⟩⟩
section
variable {kws : List Keyword} {ks : List Str} {g : List Value → List Value → List Value} {gV : List V → List V → List V} {gD : List D → List D → List D} {fk : AM} {cls : Nat}
end
end
end Fw
end
section
set_option Elab.async false
set_option maxHeartbeats 1000000
namespace Fw
open PySem PySem.Spec PyProof.Rows L2
section
variable {X : Cx} {W : Wd} {wx : WX} {a b c e : Expr} {fa fb fc f : TM} {pos p : Pos} {x : Str} {id T : String}
theorem ej_dct0 : EJ X W wx (.Dict [] [] pos) eDct0 :=
  ⟨fun pins s σ H Q I ⟨Z, ρ, σd, h0, S, rs, p⟩ => pe_dnewK.run pins s σ H Q I fun q n => Fw.Ans.dct (fun ρ' H' v x S rv => p ρ' H' x S v rv) S .nil q n⟩
theorem ej_newD : EJ X W wx (.Dict [] [] pos) eNewD :=
  ⟨fun pins s σ H Q I ⟨Z, ρ, σd, h0, S, rs, p⟩ => pe_dnewK.run pins s σ H Q I fun q n =>
    p (ρ ++ [q]) _ (Ext.own n) (S.own (o := .dK []) (ob := .dct []) n (.dct upd_same .nil)) (.ref q) (.ref (by rw [← S.len]; simp))⟩
theorem rfs_look {Z ρ : List Addr} {H : Hp} {k : Nat} {d : D} : ∀ {fs : List (Nat × D)} {gs : List (Str × V)}, RFs W Z ρ H fs gs → fs.lookup k = some d → ∃ v, gs.lookup (W.an k) = some v ∧ RD W Z ρ H d v := by
  intro fs
  induction fs with
  | nil => intro gs r e; simp at e
  | cons q fs ih =>
    intro gs r e
    cases r with
    | @cons j d' _ v vs r t =>
      rw [List.lookup_cons] at e ⊢
      by_cases hj : k = j
      · subst hj
        simp only [beq_self_eq_true] at e ⊢
        cases e
        exact ⟨v, rfl, r⟩
      · rw [beq_eq_false_iff_ne.mpr hj] at e
        rw [beq_eq_false_iff_ne.mpr fun z => hj (W.inj _ _ z)]
        exact ih t e
theorem ej_fld {cls k : Nat} (ho : EJ X W wx a fa) (hc : Cls X.K (W.ca cls)) (hn : NoAttr X.K (W.ca cls) x) (hx : x = W.an k := by rfl) (hb : attributeBase a x X.env (eval a X.env) = eval a X.env := by rfl) : EJ X W wx (.Attribute a x pos) (eFld cls k fa) := by
  subst hx
  exact ⟨fun pins s σ H Q I ⟨Z, ρ, σd, h0, S, rs, pp⟩ => (pe_fld ho hb).run pins s σ H Q I
    ⟨Z, ρ, σd, h0, S, rs, (Post.bind pp).imp fun d ρ1 h1 H1 x1 S1 p1 v rv => by
      cases ho : asObj h1 d with
      | none => rw [ho] at p1; exact p1.elim
      | some q =>
        obtain ⟨c1, fs1⟩ := q
        rw [ho] at p1
        dsimp only at p1
        split at p1
        · rename_i hc1
          subst hc1
          obtain ⟨ad, dx, gs, e1, e2, e3⟩ := asObj_ok S1 rv ho
          obtain ⟨r, e4, hA⟩ := post_opt p1
          obtain ⟨u, e5, ru⟩ := rfs_look e3 e4
          exact ⟨ad, _, dx, gs, u, e1, e2, hc, hn, e5, hA.now S1 ru⟩
        · exact p1.elim⟩⟩
theorem rfs_put {Z ρ : List Addr} {H : Hp} {k : Nat} {d : D} {v : V} (rv : RD W Z ρ H d v) : ∀ {fs : List (Nat × D)} {gs : List (Str × V)}, RFs W Z ρ H fs gs → RFs W Z ρ H (Fw.putF k d fs) (L2.putF (W.an k) v gs) := by
  intro fs
  induction fs with
  | nil => intro gs r; cases r; exact .cons rv .nil
  | cons q fs ih =>
    intro gs r
    cases r with
    | @cons j d' _ u vs r t =>
      simp only [Fw.putF, L2.putF]
      by_cases hj : j = k
      · subst hj
        rw [if_pos rfl, if_pos rfl]
        exact .cons rv t
      · rw [if_neg hj, if_neg fun z => hj (W.inj _ _ z)]
        exact .cons r (ih t)
theorem rfs_len {Z ρ : List Addr} {H : Hp} : ∀ {fs : List (Nat × D)} {gs : List (Str × V)}, RFs W Z ρ H fs gs → fs.length = gs.length := by
  intro fs
  induction fs with
  | nil => intro gs r; cases r; rfl
  | cons q fs ih => intro gs r; cases r with | cons r t => simp [ih t]
theorem ne_mem {a b : Addr} {l : List Addr} (h : a ∈ l) (h2 : b ∉ l) : b ≠ a := fun e => h2 (by rw [e]; exact h)
theorem Sim.write {Z ρ : List Addr} {h : Hh} {H : Hp} {n : Nat} {ad : Addr} {o : O} {u u0 : HO} (S : Sim W Z ρ h H) (hn : ρ[n]? = some ad) (hu : H ad = some u0) (r : OR W Z ρ (upd H ad u) ad o) (hw : ∀ od u', u0 ≠ .frz od u' := by intro _ _ e; cases e) : Ext ρ H ρ (upd H ad u) ∧ Sim W Z ρ (h.set n o) (upd H ad u) := by
  have hm : ad ∈ ρ := List.mem_of_getElem? hn
  have x : Ext ρ H ρ (upd H ad u) := ⟨List.prefix_rfl, fun b w hb e => ⟨hb, by rw [upd_ne (ne_mem hm hb)]; exact e⟩, fun b od w e => by
    have hb : b ≠ ad := fun z => by rw [z, hu] at e; exact hw od w (Option.some.inj e)
    rw [upd_ne hb]
    exact e⟩
  refine ⟨x, ⟨by rw [List.length_set]; exact S.len, S.nd, fun z hz => ?_, fun m w b e1 e2 => ?_⟩⟩
  · obtain ⟨h1, w, e⟩ := S.dis z hz
    exact ⟨h1, w, by rw [upd_ne (ne_mem hm h1)]; exact e⟩
  · by_cases hmn : n = m
    · subst hmn
      have hl : n < h.length := by rw [← S.len]; exact (List.getElem?_eq_some_iff.mp hn).1
      rw [List.getElem?_set_self hl] at e1
      rw [hn] at e2
      cases e1; cases e2
      exact r
    · rw [List.getElem?_set_ne hmn] at e1
      refine (S.obj m w b e1 e2).keep x fun w' e => ?_
      have hb : b ≠ ad := fun z => hmn (nodup_inj S.nd hn (z ▸ e2))
      rw [upd_ne hb]
      exact e
theorem setFld_ok {Z ρ : List Addr} {h h' : Hh} {H : Hp} {cls k : Nat} {o v : D} {ov vv : V} (S : Sim W Z ρ h H) (ro : RD W Z ρ H o ov) (rv : RD W Z ρ H v vv) (e : setFld h cls k o v = some h') :
    ∃ ad dx gs, ov = .ref ad ∧ H ad = some (.ins (W.ca cls) dx gs) ∧ gs.length < 1000 ∧ Ext ρ H ρ (upd H ad (.ins (W.ca cls) dx (L2.putF (W.an k) vv gs))) ∧ Sim W Z ρ h' (upd H ad (.ins (W.ca cls) dx (L2.putF (W.an k) vv gs))) := by
  cases ro <;> simp only [setFld] at e <;> first | (cases e; done) | skip
  rename_i ad n hn
  cases eo : h[n]? with
  | none => rw [eo] at e; cases e
  | some ob =>
    rw [eo] at e
    have q := S.obj n ob ad eo hn
    cases ob <;> dsimp only at e <;> first | (cases e; done) | skip
    rename_i c1 fs1
    split at e
    · rename_i hc
      obtain ⟨hcc, hl⟩ := hc
      subst hcc
      cases e
      cases q with
      | ins q t =>
        rename_i dx gs
        have hx : Ext ρ H ρ (upd H ad (.ins (W.ca c1) dx (L2.putF (W.an k) vv gs))) := ⟨List.prefix_rfl, fun b w hb e => ⟨hb, by rw [upd_ne (ne_mem (List.mem_of_getElem? hn) hb)]; exact e⟩, fun b od w e => by
          have hb : b ≠ ad := fun z => by rw [z, q] at e; cases e
          rw [upd_ne hb]
          exact e⟩
        obtain ⟨x, S'⟩ := S.write hn q (.ins upd_same (rfs_put (rv.mono hx) (t.mono hx)))
        exact ⟨ad, dx, gs, rfl, q, by rw [← rfs_len t]; omega, x, S'⟩
    · cases e
theorem sj_setF {cls k : Nat} {pos' : Pos} (J : Js X W wx) (ho : EJ X W wx a fa) (hv : EJ X W wx e f) (hc : Cls X.K (W.ca cls)) (hn : NoAttr X.K (W.ca cls) x) (hx : x = W.an k := by rfl) (hs : swapsWith e (some (.Attribute a x pos')) pos.line X.env = pure false := by rfl) :
    SJ X W wx (.Assign [.Attribute a x pos'] e pos) (sSetF cls fa k f) := by
  subst hx
  exact ⟨fun pins s σ H D I ⟨Z, ρ, σd, h0, S, rs, pp⟩ => (ps_fld ho hv hs).run pins s σ H D I
    ⟨Z, ρ, σd, h0, S, rs, (PostS.of rs pp).imp fun d ρ1 h1 H1 x1 S1 p1 v rv =>
      ⟨Z, ρ1, σd, h1, S1, rs.mono x1, (PostS.of (rs.mono x1) p1).imp fun o ρ2 h2 H2 x2 S2 p2 ov ro => by
        cases hf : setFld h2 cls k o d with
        | none => rw [hf] at p2; exact p2.elim
        | some h3 =>
          rw [hf] at p2
          obtain ⟨ad, dx, gs, e1, e2, e3, x3, S3⟩ := setFld_ok S2 ro (rv.mono x2) hf
          exact ⟨ad, _, dx, gs, e1, e2, hc, hn, e3, p2 ρ2 _ σ x3 S3 (((rs.mono x1).mono x2).mono x3)⟩⟩⟩⟩
def r1 (W : Wd) (f : Hh → D → Option D) : List V → Hp → VK → Prop := fun xs H Q => ∃ Z ρ h d r v, xs = [v] ∧ Sim W Z ρ h H ∧ RD W Z ρ H d v ∧ f h d = some r ∧ Fw.Ans W Z ρ h H r Q
def r1b (W : Wd) (f : Hh → D → D → Option D) : List V → Hp → VK → Prop := fun xs H Q => ∃ Z ρ h d e r v u, xs = [v, u] ∧ Sim W Z ρ h H ∧ RD W Z ρ H d v ∧ RD W Z ρ H e u ∧ f h d e = some r ∧ Fw.Ans W Z ρ h H r Q
section
variable {g : Hh → D → Option D} {g2 : Hh → D → D → Option D}
theorem u_read {σ : L2.St} {H : Hp} {Q : VK} (p : tE W wx (eU g fa) σ H Q) : tA W wx (aCons fa aNil) σ H fun vs H1 => r1 W g vs H1 Q := by
  obtain ⟨Z, ρ, σd, h0, S, rs, p⟩ := p
  refine ⟨Z, ρ, σd, h0, S, rs, ?_⟩
  unfold aCons aNil
  unfold eU at p
  cases hf : fa σd h0 with
  | ok d h1 =>
    rw [hf] at p
    intro ρ' H' x S' vs rvs
    obtain ⟨r, e, hA⟩ := post_opt (Post.mono x p)
    cases rvs with
    | cons rv t => cases t; exact ⟨Z, ρ', h1, d, r, _, rfl, S', rv, e, hA⟩
  | xn x h1 => rw [hf] at p; exact p
  | bad => rw [hf] at p; exact p
theorem u2_read {σ : L2.St} {H : Hp} {Q : VK} (p : tE W wx (eU2 g2 fa fb) σ H Q) : tA W wx (aCons fa (aCons fb aNil)) σ H fun vs H1 => r1b W g2 vs H1 Q := by
  obtain ⟨Z, ρ, σd, h0, S, rs, p⟩ := p
  refine ⟨Z, ρ, σd, h0, S, rs, ?_⟩
  unfold aCons aNil
  unfold eU2 at p
  cases hf : fa σd h0 with
  | ok d h1 =>
    rw [hf] at p
    simp only [R.bind_ok] at p ⊢
    cases hg : fb σd h1 with
    | ok e h2 =>
      rw [hg] at p
      intro ρ' H' x S' vs rvs
      obtain ⟨r, e1, hA⟩ := post_opt (Post.mono x p)
      cases rvs with
      | cons rv t =>
        cases t with
        | cons ru t => cases t; exact ⟨Z, ρ', h2, d, e, r, _, _, rfl, S', rv, ru, e1, hA⟩
    | xn x h2 => rw [hg] at p; exact p
    | bad => rw [hg] at p; exact p
  | xn x h1 => rw [hf] at p; exact p
  | bad => rw [hf] at p; exact p
theorem ej_b1 (hc : CallR X (.builtin id) (r1 W g)) (ha : EJ X W wx a fa) (hv : bootBuiltins x = some (.builtin id)) (hg : Gl X x := by rfl) (hm : X.mg x = none := by assumption) (hn : x ≠ "__name__" := by decide) (hdb : (x == ("__debug__" : Str)) = false := by decide)
    (he : starEach [a] X.env = (false, eval a X.env) :: starEach [] X.env := by rfl) : EJ X W wx (.Call (.Name x p) [a] [] pos) (eU g fa) :=
  ⟨fun pins s σ H Q I q => (pe_callB hc hg hm hv (aj_cons ha aj_nil he) hn hdb he).run pins s σ H Q I (u_read q)⟩
theorem ej_t1 (hc : CallR X (.type T) (r1 W g)) (ha : EJ X W wx a fa) (hv : bootBuiltins x = some (.type T)) (hg : Gl X x := by rfl) (hm : X.mg x = none := by assumption) (hn : x ≠ "__name__" := by decide) (hdb : (x == ("__debug__" : Str)) = false := by decide)
    (he : starEach [a] X.env = (false, eval a X.env) :: starEach [] X.env := by rfl) : EJ X W wx (.Call (.Name x p) [a] [] pos) (eU g fa) :=
  ⟨fun pins s σ H Q I q => (pe_callTy hc hg hm hv (aj_cons ha aj_nil he) hn hdb he).run pins s σ H Q I (u_read q)⟩
theorem ej_b2 (hc : CallR X (.builtin id) (r1b W g2)) (ha : EJ X W wx a fa) (hb : EJ X W wx b fb) (hv : bootBuiltins x = some (.builtin id)) (hg : Gl X x := by rfl) (hm : X.mg x = none := by assumption) (hn : x ≠ "__name__" := by decide) (hdb : (x == ("__debug__" : Str)) = false := by decide)
    (he : starEach [a, b] X.env = (false, eval a X.env) :: starEach [b] X.env := by rfl) (he2 : starEach [b] X.env = (false, eval b X.env) :: starEach [] X.env := by rfl) (hpl : (backTo pos (starEach [b] X.env)).any (·.1) = false := by rfl) : EJ X W wx (.Call (.Name x p) [a, b] [] pos) (eU2 g2 fa fb) :=
  ⟨fun pins s σ H Q I q => (pe_callB hc hg hm hv (aj_cons ha (aj_cons hb aj_nil he2) he) hn hdb he hpl).run pins s σ H Q I (u2_read q)⟩
end
end
section
variable {X : Cx} {W : Wd}
theorem cl_len (hK : X.K = W.K) : CallR X (.builtin "len") (r1 W lenD) := by
  intro pins s σ H xs us Q I rv ⟨Z, ρ, h, d, r, v, hx, S, rd, e, hA⟩
  subst hx
  by_cases hs : ∃ t, d = .str t
  · obtain ⟨t, rfl⟩ := hs
    cases rd
    simp only [lenD] at e
    split at e
    · rename_i hl
      cases e
      exact call_len_str pins s σ H _ us Q I rv ⟨toS t, rfl, by rw [toS_len, ← line_eq]; exact hl, by rw [toS_len]; exact hA.now S (.int _)⟩
    · cases e
  · have e' : (match asSeq h d with
      | some xs => some (D.int xs.length)
      | none => (asDct h d).map fun kvs => .int kvs.length) = some r := by
      rw [← e]
      cases d <;> first | rfl | exact absurd ⟨_, rfl⟩ hs
    cases e1 : asSeq h d with
    | some xs =>
      rw [e1] at e'
      cases e'
      obtain ⟨a, vs, rfl, q, t⟩ := asSeq_ok S rd e1
      exact call_len_seq pins s σ H _ us Q I rv ⟨a, vs, rfl, hK ▸ q, by rw [← t.length]; exact hA.now S (.int _)⟩
    | none =>
      rw [e1] at e'
      cases e2 : asDct h d with
      | none => rw [e2] at e'; cases e'
      | some kvs =>
        rw [e2] at e'
        cases e'
        obtain ⟨a, vs, rfl, q, t⟩ := asDct_ok S rd e2
        obtain ⟨u, rfl, ru⟩ := vals1 rv
        obtain rfl : u = Value.ref a := ru
        exact d_len I q fun tk s' I' => ⟨.int vs.length, H, I', ⟨_, rfl⟩, by rw [← t.len]; exact hA.now S (.int _)⟩
theorem cl_int : CallR X (.type "int") (r1 W intD) := by
  intro pins s σ H xs us Q I rv ⟨Z, ρ, h, d, r, v, hx, S, rd, e, hA⟩
  subst hx
  cases d <;> simp only [intD] at e <;> first | (cases e; done) | skip
  · cases e
    cases rd
    exact call_int1 pins s σ H _ us Q I rv (.inr ⟨_, rfl, hA.now S (.int _)⟩)
  · cases e
    cases rd
    exact call_int1 pins s σ H _ us Q I rv (.inl ⟨_, rfl, hA.now S (.int _)⟩)
theorem cl_list (hK : X.K = W.K) : CallR X (.type "list") (r1 W listD) := by
  intro pins s σ H xs us Q I rv ⟨Z, ρ, h, d, r, v, hx, S, rd, e, hA⟩
  subst hx
  simp only [listD, Option.map_eq_some_iff] at e
  obtain ⟨xs, e1, rfl⟩ := e
  obtain ⟨a, vs, rfl, q, t⟩ := asSeq_ok S rd e1
  exact call_list_of pins s σ H _ us Q I rv ⟨a, vs, rfl, hK ▸ q, fun l n => hA.lst S t l n⟩
theorem cl_tuple (hK : X.K = W.K) : CallR X (.type "tuple") (r1 W tupleD) := by
  intro pins s σ H xs us Q I rv ⟨Z, ρ, h, d, r, v, hx, S, rd, e, hA⟩
  subst hx
  by_cases hs : ∃ t, d = .tup t
  · obtain ⟨t, rfl⟩ := hs
    simp only [tupleD] at e
    cases e
    obtain ⟨a, vs, rfl, q, t⟩ := tup_ok rd
    exact call_tupleP pins s σ H _ us Q I rv ⟨a, vs, rfl, .inr ⟨hK ▸ q, hA.now S rd⟩⟩
  · have e' : (asLst h d).map D.tup = some r := by
      rw [← e]
      cases d <;> first | rfl | exact absurd ⟨_, rfl⟩ hs
    simp only [Option.map_eq_some_iff] at e'
    obtain ⟨xs, e1, rfl⟩ := e'
    obtain ⟨a, vs, rfl, q, t⟩ := asLst_ok S rd e1
    exact call_tupleP pins s σ H _ us Q I rv ⟨a, vs, rfl, .inl ⟨SqL.of q, fun l n o hd => hA.tupP S t l n hd⟩⟩
def KEmp (K : PySem.W.Frag) (a : Addr) : Prop := ∃ n sl, K.lookup a = some ⟨.type "tuple", none, .seq #[] n, sl⟩
theorem cl_dict (hK : X.K = W.K) (hc : X.calm = true) (hE : KEmp X.K (W.fa empT)) : CallR X (.type "dict") (r1 W dictD) := by
  intro pins s σ H xs us Q I rv ⟨Z, ρ, h, d, r, v, hx, S, rd, e, hA⟩
  subst hx
  by_cases hs : ∃ f, d = .fn f
  · obtain ⟨f, rfl⟩ := hs
    simp only [dictD] at e
    split at e
    · rename_i hf
      subst hf
      cases e
      cases rd
      obtain ⟨u, rfl, ru⟩ := vals1 rv
      obtain rfl : u = Value.ref (W.fa empT) := ru
      obtain ⟨n, sl, hl⟩ := hE
      have hg := I.kIn _ _ hl
      refine PySem.call_dict_pairs (knd := mixKind X.prog X.w) (kvs := []) (PySem.PairArg.tuple (W.fa empT) #[] (fun _ => 0) []) (I.ok.hd hc) ⟨⟨_, n, hg, rfl, rfl, rfl⟩, rfl, fun j k v hj => by simp at hj⟩ ⟨rfl, fun i k v hi => by simp [PySem.PairRel] at hi⟩ (Nat.zero_le _) fun h' tk hd hk => ?_
      have hm : (s.heap.objs.size == sysModules) = false := beq_eq_false_iff_ne.mpr (Nat.ne_of_gt I.big)
      exact ⟨.ref s.heap.objs.size, upd H s.heap.objs.size (.dK []), I.laid (t' := tk) (fun b o e => hk b o (by simp) e) (Nat.le_refl _) (show ObjOk X.prog X.w _ _ _ (.dK []) from ⟨Nat.zero_le _, hm, [], .nil, hd⟩), rfl, hA.dct S .nil _ (I.hok.fresh (Nat.le_refl _))⟩
    · cases e
  · have e' : (asDct h d).map D.dct = some r := by
      rw [← e]
      cases d <;> first | rfl | exact absurd ⟨_, rfl⟩ hs
    simp only [Option.map_eq_some_iff] at e'
    obtain ⟨xs, e1, rfl⟩ := e'
    obtain ⟨a, vs, rfl, q, t⟩ := asDct_ok S rd e1
    exact call_dictD pins s σ H _ us Q I rv ⟨a, vs, rfl, q, fun l n => hA.dct S t l n⟩
theorem cl_all (hK : X.K = W.K) (hc : X.calm = true) : CallR X (.builtin "all") (r1 W allD) := by
  intro pins s σ H xs us Q I rv ⟨Z, ρ, h, d, r, v, hx, S, rd, e, hA⟩
  subst hx
  simp only [allD, Option.map_eq_some_iff, Option.bind_eq_some_iff] at e
  obtain ⟨bs, ⟨xs, e1, e2⟩, rfl⟩ := e
  obtain ⟨a, vs, rfl, q, t⟩ := asLst_ok S rd e1
  exact cr_all hc pins s σ H _ us Q I rv ⟨a, bs, rfl, asBools_ok t e2 ▸ SqL.of q, hA.now S (.bl _)⟩
theorem cl_sum (hc : X.calm = true) : CallR X (.builtin "sum") (r1 W sumD) := by
  intro pins s σ H xs us Q I rv ⟨Z, ρ, h, d, r, v, hx, S, rd, e, hA⟩
  subst hx
  simp only [sumD, Option.map_eq_some_iff, Option.bind_eq_some_iff] at e
  obtain ⟨bs, ⟨xs, e1, e2⟩, rfl⟩ := e
  obtain ⟨a, vs, rfl, q, t⟩ := asLst_ok S rd e1
  exact cr_sum hc pins s σ H _ us Q I rv ⟨a, bs, rfl, asInts_ok t e2 ▸ SqL.of q, hA.now S (.int _)⟩
theorem cl_min (hc : X.calm = true) : CallR X (.builtin "min") (r1b W minD) := by
  intro pins s σ H xs us Q I rv ⟨Z, ρ, h, d, e, r, v, u, hx, S, rd, re, e1, hA⟩
  subst hx
  cases d <;> cases e <;> simp only [minD] at e1 <;> first | (cases e1; done) | skip
  cases e1; cases rd; cases re
  exact call_min2 hc pins s σ H _ us Q I rv ⟨_, _, rfl, hA.now S (.int _)⟩
theorem cl_max (hc : X.calm = true) : CallR X (.builtin "max") (r1b W maxD) := by
  intro pins s σ H xs us Q I rv ⟨Z, ρ, h, d, e, r, v, u, hx, S, rd, re, e1, hA⟩
  subst hx
  cases d <;> cases e <;> simp only [maxD] at e1 <;> first | (cases e1; done) | skip
  cases e1; cases rd; cases re
  exact call_max2 hc pins s σ H _ us Q I rv ⟨_, _, rfl, hA.now S (.int _)⟩
end
end Fw
end
section
set_option Elab.async false
set_option maxHeartbeats 1000000
namespace Fw
open PySem PySem.Spec PyProof.Rows L2
section
variable {W : Wd} {Z ρ : List Addr} {h h' : Hh} {H : Hp}
theorem ext_own {ad : Addr} {u u0 : HO} {n : Nat} (hn : ρ[n]? = some ad) (hu : H ad = some u0) (hw : ∀ od u', u0 ≠ .frz od u' := by intro _ _ e; cases e) : Ext ρ H ρ (upd H ad u) :=
  ⟨List.prefix_rfl, fun b w hb e => ⟨hb, by rw [upd_ne (ne_mem (List.mem_of_getElem? hn) hb)]; exact e⟩, fun b od w e => by
    have hb : b ≠ ad := fun z => by rw [z, hu] at e; exact hw od w (Option.some.inj e)
    rw [upd_ne hb]
    exact e⟩
theorem rks_map {k : K1} {d : D} {v : V} (rv : RD W Z ρ H d v) : ∀ {fs : List (K1 × D)} {gs : List (Key × V)}, RKs W Z ρ H fs gs →
    RKs W Z ρ H (fs.map fun q => if q.1 = k then (q.1, d) else q) (gs.map fun kv => if kv.1 = keyS k then (kv.1, v) else kv) := by
  intro fs
  induction fs with
  | nil => intro gs r; cases r; exact .nil
  | cons q fs ih =>
    intro gs r
    cases r with
    | @cons k' d' _ u us r t =>
      simp only [List.map_cons]
      by_cases hk : k' = k
      · subst hk
        rw [if_pos rfl, if_pos rfl]
        exact .cons rv (ih t)
      · rw [if_neg hk, if_neg fun z => hk (keyS_inj z)]
        exact .cons r (ih t)
theorem rks_snoc {k : K1} {d : D} {v : V} (rv : RD W Z ρ H d v) : ∀ {fs : List (K1 × D)} {gs : List (Key × V)}, RKs W Z ρ H fs gs → RKs W Z ρ H (fs ++ [(k, d)]) (gs ++ [(keyS k, v)]) := by
  intro fs
  induction fs with
  | nil => intro gs r; cases r; exact .cons rv .nil
  | cons q fs ih =>
    intro gs r
    cases r with
    | cons r t => exact .cons r (ih t)
theorem rks_put {k : K1} {d : D} {v : V} (rv : RD W Z ρ H d v) {fs : List (K1 × D)} {gs : List (Key × V)} (r : RKs W Z ρ H fs gs) : RKs W Z ρ H (put k d fs) (putK gs (keyS k) v) := by
  have hany : (gs.any fun kv => decide (kv.1 = keyS k)) = fs.any fun q => decide (q.1 = k) := by rw [r.any k, valV_any]
  by_cases hf : (fs.any fun q => decide (q.1 = k)) = true
  · have e1 : put k d fs = fs.map fun q => if q.1 = k then (q.1, d) else q := if_pos hf
    have e2 : putK gs (keyS k) v = gs.map fun kv => if kv.1 = keyS k then (kv.1, v) else kv := if_pos (by rw [hany]; exact hf)
    rw [e1, e2]
    exact rks_map rv r
  · have e1 : put k d fs = fs ++ [(k, d)] := if_neg hf
    have e2 : putK gs (keyS k) v = gs ++ [(keyS k, v)] := if_neg (by rw [hany]; exact hf)
    rw [e1, e2]
    exact rks_snoc rv r
def tSet (W : Wd) : TSet := fun o i v H Q => ∃ Z ρ h h' od id d, Sim W Z ρ h H ∧ RD W Z ρ H od o ∧ RD W Z ρ H id i ∧ RD W Z ρ H d v ∧ setIx h od id d = some h' ∧ ∀ H', Ext ρ H ρ H' → Sim W Z ρ h' H' → Q H'
theorem set_all {X : Cx} (hu : X.A.units + 64 < cLine) : PSet X (tSet W) := by
  intro pins s σ H o i v ov iv u Q I ro ri ru ⟨Z, ρ, h, h', od, id, d, S, rod, rid, rdd, e, q⟩
  cases rod <;> simp only [setIx] at e <;> first | (cases e; done) | skip
  rename_i ad n hn
  cases eo : h[n]? with
  | none => rw [eo] at e; cases e
  | some ob =>
    rw [eo] at e
    have qo := S.obj n ob ad eo hn
    cases ob with
    | lst xs =>
      cases id <;> dsimp only at e <;> first | (cases e; done) | skip
      rename_i k
      cases rid
      simp only [Option.map_eq_some_iff] at e
      obtain ⟨j, e1, rfl⟩ := e
      cases qo with
      | lst qo t =>
        rename_i vs
        have x : Ext ρ H ρ (upd H ad (.lst (vs.set j v))) := ext_own hn qo
        obtain ⟨_, S'⟩ := S.write hn qo (o := .lst (xs.set j d)) (.lst (upd_same (o := .lst (vs.set j v))) ((t.mono x).set (rdd.mono x)))
        exact set_list pins s σ H _ _ v ov iv u Q I ro ri ru ⟨ad, vs, k, j, rfl, rfl, qo, by rw [← t.length, ← ixn_eq]; exact e1, q _ x S'⟩
    | dct kvs =>
      dsimp only at e
      simp only [Option.bind_eq_some_iff] at e
      obtain ⟨k, e1, e2⟩ := e
      split at e2
      · rename_i hl
        cases e2
        cases qo with
        | dct qo t =>
          rename_i vs
          have x : Ext ρ H ρ (upd H ad (.dK (putK vs (keyS k) v))) := ext_own hn qo
          obtain ⟨_, S'⟩ := S.write hn qo (o := .dct (put k d kvs)) (.dct (upd_same (o := .dK (putK vs (keyS k) v))) (rks_put (rdd.mono x) (t.mono x)))
          have hk := key1_ok rid e1
          exact set_dict (by omega) pins s σ H _ _ v ov iv u Q I ro ri ru ⟨ad, _, rfl, .inl ⟨vs, keyS k, qo, hk, by rw [← t.len, ← line_eq]; exact hl, rfl⟩, q _ x S'⟩
      · cases e2
    | ro xs => cases id <;> simp at e
    | ins c fs => cases id <;> simp at e
    | dtu kvs => cases id <;> simp at e
    | rod kvs => cases id <;> simp at e
end
section
variable {X : Cx} {W : Wd} {wx : WX} {a b c e : Expr} {fa fb fc f : TM} {pos p : Pos} {x : Str}
theorem sj_setI {pos' : Pos} (J : Js X W wx) (ha : EJ X W wx a fa) (hb : EJ X W wx b fb) (he : EJ X W wx e f)
    (hs : swapsWithSole [.Subscript a b pos'] e pos.line X.env = pure false := by rfl) (hw : swappedStores [.Subscript a b pos'] e X.env = pure none := by rfl)
    (h1 : (assignEach [.Subscript a b pos'] X.env).map (·.2) = [assign (.Subscript a b pos') X.env] := by rfl)
    (hsub : ∀ v, assign (.Subscript a b pos') X.env v = (do
      let ov ← holding [v] (eval a X.env)
      let iv ← holding [v, ov] (eval b X.env)
      standAt pos'
      holding [v, ov, iv] (setItem ov iv v)
      release [v, ov, iv] []) := by intro _; rfl) :
    SJ X W wx (.Assign [.Subscript a b pos'] e pos) (sSetI fa fb f) :=
  ⟨fun pins s σ H D I ⟨Z, ρ, σd, h0, S, rs, pp⟩ => (ps_asg he (pg_sub ha hb (set_all (W := W) J.hu) hsub) hs hw h1).run pins s σ H D I
    ⟨Z, ρ, σd, h0, S, rs, (PostS.of rs pp).imp fun d ρ1 h1 H1 x1 S1 p1 v rv =>
      ⟨Z, ρ1, σd, h1, S1, rs.mono x1, (PostS.of (rs.mono x1) p1).imp fun o ρ2 h2 H2 x2 S2 p2 ov ro =>
        ⟨Z, ρ2, σd, h2, S2, (rs.mono x1).mono x2, (PostS.of ((rs.mono x1).mono x2) p2).imp fun i ρ3 h3 H3 x3 S3 p3 iv ri => by
          cases hf : setIx h3 o i d with
          | none => rw [hf] at p3; exact p3.elim
          | some h4 =>
            rw [hf] at p3
            exact ⟨Z, ρ3, h3, h4, o, i, d, S3, ro.mono x3, ri, (rv.mono x2).mono x3, hf, fun H' x S' => p3 ρ3 H' σ x S' ((((rs.mono x1).mono x2).mono x3).mono x)⟩⟩⟩⟩⟩
def rM (W : Wd) (f : Hh → D → D → Option (D × Option (Nat × O))) : V → List V → Hp → VK → Prop := fun x vs H Q => ∃ Z ρ h d e r w u, vs = [u] ∧ Sim W Z ρ h H ∧ RD W Z ρ H d x ∧ RD W Z ρ H e u ∧ f h d e = some (r, w) ∧
  ∀ ρ' H' v, Ext ρ H ρ' H' → Sim W Z ρ' (wr h w) H' → RD W Z ρ' H' r v → Q v H'
theorem m_app : MtR X "list.append" (rM W appD) := by
  intro pins s σ H x xs v us Q I rx rs ⟨Z, ρ, h, d, e, r, w, u, hx, S, rd, re, hf, hA⟩
  subst hx
  cases rd <;> simp only [appD] at hf <;> first | (cases hf; done) | skip
  rename_i ad n hn
  cases eo : h[n]? with
  | none => rw [eo] at hf; cases hf
  | some ob =>
    rw [eo] at hf
    have qo := S.obj n ob ad eo hn
    cases ob <;> dsimp only at hf <;> first | (cases hf; done) | skip
    split at hf
    · rename_i hl
      cases hf
      cases qo with
      | lst qo t =>
        rename_i ds vs
        have x : Ext ρ H ρ (upd H ad (.lst (vs ++ [u]))) := ext_own hn qo
        obtain ⟨_, S'⟩ := S.write hn qo (o := .lst (ds ++ [e])) (.lst (upd_same (o := .lst (vs ++ [u]))) ((t.mono x).append (.cons (re.mono x) .nil)))
        exact mt_append pins s σ H _ _ v us Q I rx rs ⟨ad, vs, u, rfl, rfl, qo, by rw [← t.length, ← line_eq]; exact hl, hA ρ _ _ x S' .non⟩
    · cases hf
theorem ixn_seq {n : Nat} {i : Int} {j : Nat} (h : ixn n i = some j) (hn : n ≤ sizeLine) : -(2 ^ 63) ≤ i ∧ i < 2 ^ 63 ∧ seqIndex? i n = some j := by
  rw [sizeLine_eq] at hn
  unfold ixn at h
  split at h
  · rename_i h0
    split at h
    · rename_i h1
      cases h
      refine ⟨by omega, by omega, ?_⟩
      have h2 : ¬ i < 0 := by omega
      simp [seqIndex?, h2, h0, h1]
    · cases h
  · rename_i h0
    split at h
    · rename_i h1
      cases h
      refine ⟨by omega, by omega, ?_⟩
      have h2 : 0 ≤ i + (n : Int) := by omega
      have h3 : i + (n : Int) < n := by omega
      have h4 : i < 0 := by omega
      simp [seqIndex?, h2, h3, h4]
    · cases h
theorem rds_erase {Z ρ : List Addr} {H : Hp} : ∀ {n : Nat} {ds : List D} {vs : List V}, RDs W Z ρ H ds vs → RDs W Z ρ H (ds.eraseIdx n) (vs.eraseIdx n) := by
  intro n
  induction n with
  | zero => intro ds vs r; cases r with | nil => exact .nil | cons _ t => exact t
  | succ n ih => intro ds vs r; cases r with | nil => exact .nil | cons r t => exact .cons r (ih t)
theorem lst_small {pins : List (Addr × Obj)} {s : Shared} {σ : L2.St} {H : Hp} {ad : Addr} {vs : List V} (I : Inv X pins σ H s) (h : H ad = some (.lst vs)) : vs.length ≤ sizeLine := (I.hok ad _ h).1
theorem m_pop : MtR X "list.pop" (rM W popD) := by
  intro pins s σ H x xs v us Q I rx rs ⟨Z, ρ, h, d, e, r, w, u, hx, S, rd, re, hf, hA⟩
  subst hx
  cases rd <;> simp only [popD] at hf <;> first | (cases hf; done) | skip
  rename_i ad n hn
  cases e <;> simp only [popD] at hf <;> first | (cases hf; done) | skip
  rename_i i
  cases re
  cases eo : h[n]? with
  | none => rw [eo] at hf; cases hf
  | some ob =>
    rw [eo] at hf
    have qo := S.obj n ob ad eo hn
    cases ob <;> dsimp only at hf <;> first | (cases hf; done) | skip
    simp only [Option.bind_eq_some_iff, Option.map_eq_some_iff] at hf
    obtain ⟨j, e1, y, e2, e3⟩ := hf
    cases e3
    cases qo with
    | lst qo t =>
      rename_i ds vs
      have x : Ext ρ H ρ (upd H ad (.lst (vs.eraseIdx j))) := ext_own hn qo
      obtain ⟨_, S'⟩ := S.write hn qo (o := .lst (ds.eraseIdx j)) (.lst (upd_same (o := .lst (vs.eraseIdx j))) (rds_erase (t.mono x)))
      obtain ⟨z, ez, rz⟩ := t.get e2
      obtain ⟨b1, b2, b3⟩ := ixn_seq e1 (by rw [t.length]; exact lst_small I qo)
      exact mt_popAt pins s σ H _ _ v us Q I rx rs ⟨ad, vs, i, j, z, rfl, rfl, qo, b1, b2, by rw [← t.length]; exact b3, ez, hA ρ _ _ x S' (rz.mono x)⟩
theorem isLst_ty {Z ρ : List Addr} {h : Hh} {H : Hp} {d : D} {v : V} (S : Sim W Z ρ h H) (r : RD W Z ρ H d v) (e : isLst h d = true) : tyV X.K "list" v H := by
  unfold isLst at e
  obtain ⟨xs, e1⟩ := Option.isSome_iff_exists.mp e
  obtain ⟨a, vs, rfl, q, t⟩ := asLst_ok S r e1
  exact .inl ⟨rfl, _, SqL.of q⟩
theorem ej_m {T id : String} {k : Hh → D → Bool} {g : Hh → D → D → Option (D × Option (Nat × O))} {apos cpos : Pos} (pa : PlainAttrs T) (slot : Slot T x id) (hty : typeOf (.builtin id) = pure (.type "method_descriptor")) (hm : MtR X id (rM W g))
    (hk : ∀ {Z ρ : List Addr} {h : Hh} {H : Hp} {d : D} {v : V}, Sim W Z ρ h H → RD W Z ρ H d v → k h d = true → tyV X.K T v H) (ha : EJ X W wx a fa) (hb : EJ X W wx b fb)
    (hbase : attributeBase a x X.env (eval a X.env) = eval a X.env := by rfl)
    (hfew : ((backTo cpos (starEach [b] X.env)).all (fun x => !x.1) && (backToKw cpos (keywordEach [] X.env)).all (fun x => x.1.isSome)
      && decide ([b].length + ([] : List Keyword).length + (if ([] : List Keyword).isEmpty then 0 else 1) < 30)) = true := by rfl)
    (hline : (apos.endLine == cpos.line) = true := by rfl) (hs : starEach [b] X.env = (false, eval b X.env) :: starEach [] X.env := by rfl) : EJ X W wx (.Call (.Attribute a x apos) [b] [] cpos) (eM k g fa fb) :=
  ⟨fun pins s σ H Q I ⟨Z, ρ, σd, h0, S, rs, p⟩ => (pe_bm pa slot hty hm ha (aj_cons hb aj_nil hs) hbase hfew hline hs rfl).run pins s σ H Q I
    ⟨Z, ρ, σd, h0, S, rs, (Post.bind p).imp fun d ρ1 h1 H1 x1 S1 p1 v rv => by
      by_cases hkd : k h1 d = true
      · rw [if_pos hkd] at p1
        refine ⟨hk S1 rv hkd, Z, ρ1, σd, h1, S1, rs.mono x1, ?_⟩
        unfold aCons aNil
        cases hf : fb σd h1 with
        | ok e h2 =>
          rw [hf] at p1
          intro ρ2 H2 x2 S2 vs rvs
          cases rvs with
          | cons ru t =>
            cases t
            have p2 := Post.mono x2 p1
            simp only [R.bind_ok] at p2
            cases hg : g h2 d e with
            | none => rw [hg] at p2; exact p2.elim
            | some q =>
              obtain ⟨r, w⟩ := q
              rw [hg] at p2
              exact ⟨Z, ρ2, h2, d, e, r, w, _, rfl, S2, rv.mono x2, ru, hg, fun ρ' H' v x S' rv' => p2 ρ' H' x S' v rv'⟩
        | xn e h2 => rw [hf] at p1; exact p1
        | bad => rw [hf] at p1; exact p1
      · rw [if_neg hkd] at p1
        exact p1.elim⟩⟩
theorem ej_app {apos cpos : Pos} (ha : EJ X W wx a fa) (hb : EJ X W wx b fb)
    (hbase : attributeBase a "append" X.env (eval a X.env) = eval a X.env := by rfl)
    (hfew : ((backTo cpos (starEach [b] X.env)).all (fun x => !x.1) && (backToKw cpos (keywordEach [] X.env)).all (fun x => x.1.isSome)
      && decide ([b].length + ([] : List Keyword).length + (if ([] : List Keyword).isEmpty then 0 else 1) < 30)) = true := by rfl)
    (hline : (apos.endLine == cpos.line) = true := by rfl) (hs : starEach [b] X.env = (false, eval b X.env) :: starEach [] X.env := by rfl) : EJ X W wx (.Call (.Attribute a "append" apos) [b] [] cpos) (eM isLst appD fa fb) :=
  ej_m PySem.F.plainAttrs_list PySem.F.slot_list_append PySem.F.type_list_append m_app isLst_ty ha hb hbase hfew hline hs
theorem ej_pop {apos cpos : Pos} (ha : EJ X W wx a fa) (hb : EJ X W wx b fb)
    (hbase : attributeBase a "pop" X.env (eval a X.env) = eval a X.env := by rfl)
    (hfew : ((backTo cpos (starEach [b] X.env)).all (fun x => !x.1) && (backToKw cpos (keywordEach [] X.env)).all (fun x => x.1.isSome)
      && decide ([b].length + ([] : List Keyword).length + (if ([] : List Keyword).isEmpty then 0 else 1) < 30)) = true := by rfl)
    (hline : (apos.endLine == cpos.line) = true := by rfl) (hs : starEach [b] X.env = (false, eval b X.env) :: starEach [] X.env := by rfl) : EJ X W wx (.Call (.Attribute a "pop" apos) [b] [] cpos) (eM isLst popD fa fb) :=
  ej_m PySem.F.plainAttrs_list PySem.F.slot_list_pop PySem.F.type_list_pop m_pop isLst_ty ha hb hbase hfew hline hs
def KitOk (K : PySem.W.Frag) (W : Wd) (u : Value) (p : T1 → Option Bool) : Prop :=
  (∀ b, p .non = some b → PySem.W.kitOne K (.type "NoneType") u = some b) ∧ (∀ b, p .bl = some b → PySem.W.kitOne K (.type "bool") u = some b) ∧ (∀ b, p .int = some b → PySem.W.kitOne K (.type "int") u = some b) ∧
  (∀ b, p .str = some b → PySem.W.kitOne K (.type "str") u = some b) ∧ (∀ b, p .tup = some b → PySem.W.kitOne K (.type "tuple") u = some b) ∧ (∀ b, p .lst = some b → PySem.W.kitOne K (.type "list") u = some b) ∧
  (∀ b, p .dct = some b → PySem.W.kitOne K (.type "dict") u = some b) ∧
  ∀ c b, p (.own c) = some b → PySem.W.kitOne K (.ref (W.ca c)) u = some b ∧ Cls K (W.ca c) ∧ PySem.W.findIn K (.ref (W.ca c)) "__class__" = some (some (.builtin "object.__class__")) ∧
    PySem.W.specialIn K (.builtin "object.__class__") "__get__" = some (some (.builtin "getset_descriptor.__get__")) ∧ PySem.W.takesIn K (.builtin "object.__class__") = some true ∧ PySem.W.mroIn K (W.ca c) (.type "object") = some true
theorem tyX_rd {K : PySem.W.Frag} {H : Hp} {a : Addr} {u : List (Key × V)} (r : Rd H a (.dK u)) : TyX K H (.ref a) (.type "dict") := by
  rcases r with r | ⟨o, r⟩
  · exact .base (.dK r)
  · exact .fDict r
theorem tyX_tup {K : PySem.W.Frag} {W : Wd} {H : Hp} {a : Addr} {vs : List V} (r : TupAt W H a vs) : TyX K H (.ref a) (.type "tuple") := by
  rcases r.rd with r | ⟨o, r⟩
  · exact .base (.tup r)
  · exact .fTuple r
theorem isT_ok {Z ρ : List Addr} {h : Hh} {H : Hp} {d : D} {v : V} {u : Value} {p : T1 → Option Bool} {b : Bool} {t : T1} (hK : X.K = W.K) (hp : KitOk X.K W u p) (S : Sim W Z ρ h H) (r : RD W Z ρ H d v) (e1 : ty1 h d = some t) (e2 : p t = some b) :
    ∃ tv, TyX X.K H v tv ∧ PySem.W.kitOne X.K tv u = some b := by
  obtain ⟨k1, k2, k3, k4, k5, k6, k7, k8⟩ := hp
  cases r <;> simp only [ty1] at e1
  case non => cases e1; exact ⟨_, .base .non, k1 _ e2⟩
  case bl => cases e1; exact ⟨_, .base (.bl _), k2 _ e2⟩
  case int => cases e1; exact ⟨_, .base (.int _), k3 _ e2⟩
  case str => cases e1; exact ⟨_, .base (.str _), k4 _ e2⟩
  case tup q t => cases e1; exact ⟨_, tyX_tup q, k5 _ e2⟩
  case tupK k t =>
    cases e1
    obtain ⟨o, its, n, l, c, _⟩ := k
    exact ⟨_, .kTuple (hK ▸ l) c, k5 _ e2⟩
  case lst q t => cases e1; exact ⟨_, .base (.lst q), k6 _ e2⟩
  case dct q t => cases e1; exact ⟨_, tyX_rd q, k7 _ e2⟩
  case roi q =>
    cases e1
    rcases q with ⟨_, _, q | ⟨o, q⟩⟩ | ⟨o, its, n, l, c, _⟩
    · exact ⟨_, .base (.lst q), k6 _ e2⟩
    · exact ⟨_, .base (.frz q), k6 _ e2⟩
    · exact ⟨_, .kList (hK ▸ l) c, k6 _ e2⟩
  case obj q t =>
    cases e1
    obtain ⟨h1, h2, h3, h4, h5, h6⟩ := k8 _ _ e2
    exact ⟨_, .base (.ins q h2 h3 h4 h5 h6), h1⟩
  case ref a n hn =>
    cases eo : h[n]? with
    | none => rw [eo] at e1; cases e1
    | some ob =>
      rw [eo] at e1
      have q := S.obj n ob a eo hn
      cases ob <;> dsimp only at e1 <;> cases e1
      · cases q with | lst q t => exact ⟨_, .base (.lst q), k6 _ e2⟩
      · cases q with
        | ro q t =>
          rcases q with q | ⟨o, q⟩
          · exact ⟨_, .base (.lst q), k6 _ e2⟩
          · exact ⟨_, .base (.frz q), k6 _ e2⟩
      · cases q with | dct q t => exact ⟨_, .base (.dK q), k7 _ e2⟩
      · cases q with
        | ins q t =>
          obtain ⟨h1, h2, h3, h4, h5, h6⟩ := k8 _ _ e2
          exact ⟨_, .base (.ins q h2 h3 h4 h5 h6), h1⟩
  case fn => cases e1
theorem ej_isin {cv : V} {u : Value} {pr : T1 → Option Bool} (J : Jc X W wx) (ha : EJ X W wx a fa) (hb : PE X b (tC cv)) (hcv : ClsV cv u) (hp : KitOk X.K W u pr)
    (hg : Gl X "isinstance" := by rfl) (hm : X.mg "isinstance" = none := by assumption) (hv : bootBuiltins "isinstance" = some (.builtin "isinstance") := by rfl)
    (he : starEach [a, b] X.env = (false, eval a X.env) :: starEach [b] X.env := by rfl) (he2 : starEach [b] X.env = (false, eval b X.env) :: starEach [] X.env := by rfl) (hpl : (backTo pos (starEach [b] X.env)).any (·.1) = false := by rfl) :
    EJ X W wx (.Call (.Name "isinstance" p) [a, b] [] pos) (eU (isT pr) fa) :=
  ⟨fun pins s σ H Q I ⟨Z, ρ, σd, h0, S, rs, pp⟩ => (pe_callB call_isi hg hm hv (pa_cons ha (pa_cons hb pa_nil he2) he) (by decide) (by decide) he hpl).run pins s σ H Q I
    ⟨Z, ρ, σd, h0, S, rs, (Post.bind pp).imp fun d ρ1 h1 H1 x1 S1 p1 v rv => by
      obtain ⟨r, e, hA⟩ := post_opt p1
      simp only [isT, Option.map_eq_some_iff, Option.bind_eq_some_iff] at e
      obtain ⟨bb, ⟨t, e1, e2⟩, rfl⟩ := e
      obtain ⟨tv, h1, h2⟩ := isT_ok J.hK hp S1 rv e1 e2
      exact ⟨v, cv, tv, u, bb, rfl, hcv, h1, h2, hA.now S1 (.bl _)⟩⟩⟩
def isOf (T : T1) : T1 → Option Bool
  | .own _ => none
  | .bl => some (decide (T = .bl) || decide (T = .int))
  | t => some (decide (t = T))
end
end Fw
end
section
set_option Elab.async false
set_option maxHeartbeats 1000000
namespace Fw
open PySem PySem.Spec PyProof.Rows L2
section
variable {W : Wd} {Z ρ : List Addr} {H : Hp} {D : Addr} {σd : Sg} {σ : L2.St}
theorem RSg.hid (r : RSg W (D :: Z) ρ H σd σ) : RSg W Z ρ (hid H D) σd σ :=
  ⟨r.len, fun i d e => let ⟨v, e1, r1⟩ := r.at_ i d e; ⟨v, e1, r1.hid⟩⟩
end
section
variable {X : Cx} {W : Wd} {wx : WX} {tg iter tg1 iter1 elt : Expr} {ifs ifs1 : List Expr} {scope : Scope} {own : List (Str × Nat)} {pos : Pos} {f : TM} {gb gb1 : BM} {it it1 : It} {src src1 : AM} {g g1 : G} {own1 : List Nat}
end
theorem jc_blk {X : Cx} {W : Wd} {wx : WX} (J : Js X W wx) (s : Shared) (H : Hp) (scope : Scope) (cenv : Env) (fp : List Addr) : Js (X.blk s H scope cenv fp) W (fun _ _ _ _ => False) where
  hK := J.hK
  hu := J.hu
  hu2 := J.hu2
  gd := J.gd
  tk := takes_none5
  hN := J.hN
  hc := J.hc
  hp := PassesOwn.never
end Fw
end
section
set_option Elab.async false
set_option maxHeartbeats 1000000
namespace Fw
open PySem PySem.Spec PyProof.Rows L2
theorem sortI_eq {ys ks : List Int} (p : ys.Perm ks) (s : ys.Pairwise (· ≤ ·)) : ys = sortI ks := by
  have q : (sortI ks).Pairwise (· ≤ ·) := by
    have := List.pairwise_mergeSort (le := fun a b : Int => decide (a ≤ b)) (by intro a b c; simp; omega) (by intro a b; simp; omega) ks
    exact this.imp (by simp)
  exact List.Perm.eq_of_pairwise (fun a b _ _ h1 h2 => Int.le_antisymm h1 h2) s q (p.trans (List.mergeSort_perm ks _).symm)
theorem risingS_pw : ∀ (r : List Str) (p : Str), risingS p r = true → ((p :: r).map fun s => s.cps.toList).Pairwise (· ≤ ·)
  | [], p, _ => by simp
  | x :: r, p, h => by
    simp only [risingS, Bool.and_eq_true, Bool.not_eq_true'] at h
    have ih := risingS_pw r x h.2
    have h1 : p.cps.toList ≤ x.cps.toList := by
      have := h.1
      rw [ltCps_eq] at this
      exact of_decide_eq_false this
    rw [List.map_cons, List.pairwise_cons]
    refine ⟨fun a ha => ?_, ih⟩
    rw [List.map_cons, List.mem_cons] at ha
    rcases ha with rfl | ha
    · exact h1
    · rw [List.map_cons, List.pairwise_cons] at ih
      exact List.le_trans h1 (ih.1 a ha)
theorem sortT_eq {ys : List Str} {ks : List Tx} (p : ys.Perm (ks.map toS)) (s : sortedS ys = true) : ys = (sortT ks).map toS := by
  have pw : (ys.map fun s => s.cps.toList).Pairwise (· ≤ ·) := by
    cases ys with
    | nil => exact .nil
    | cons y r => exact risingS_pw r y s
  have q : (sortT ks).Pairwise (· ≤ ·) := by
    have := List.pairwise_mergeSort (le := fun a b : Tx => !decide (b < a)) (by
      intro a b c h1 h2
      simp only [Bool.not_eq_true', decide_eq_false_iff_not] at *
      exact List.le_trans (l₁ := a) (l₂ := b) (l₃ := c) h1 h2) (by
      intro a b
      simp only [Bool.or_eq_true, Bool.not_eq_true', decide_eq_false_iff_not]
      exact List.le_total a b) ks
    exact this.imp fun h => by simpa using h
  have pp : (ys.map fun s => s.cps.toList).Perm (sortT ks) := by
    have := p.map fun s : Str => s.cps.toList
    rw [List.map_map] at this
    have e : (ks.map ((fun s : Str => s.cps.toList) ∘ toS)) = ks := by
      conv => rhs; rw [← List.map_id ks]
      exact List.map_congr_left fun t _ => toS_list t
    rw [e] at this
    exact this.trans (List.mergeSort_perm ks _).symm
  have key := List.Perm.eq_of_pairwise (fun a b _ _ h1 h2 => List.le_antisymm h1 h2) pw q pp
  rw [← key, List.map_map]
  conv => lhs; rw [← List.map_id ys]
  exact List.map_congr_left fun t _ => (toS_of t).symm
section
variable {X : Cx} {W : Wd}
theorem intKeys_ok {Z ρ : List Addr} {H : Hp} : ∀ {kvs : List (K1 × D)} {vs : List (Key × V)} {is : List Int}, RKs W Z ρ H kvs vs → intKeys kvs = some is → vs.map (·.1) = is.map Sum.inl
  | [], _, _, .nil, e => by simp only [intKeys, Option.some.injEq] at e; subst e; rfl
  | _ :: _, _, _, @RKs.cons _ _ _ _ k d ds v vs r t, e => by
    cases k with
    | inl i =>
      simp only [intKeys, Option.map_eq_some_iff] at e
      obtain ⟨js, e1, rfl⟩ := e
      simp [intKeys_ok t e1, keyS]
    | inr s => simp [intKeys] at e
theorem textKeys_ok {Z ρ : List Addr} {H : Hp} : ∀ {kvs : List (K1 × D)} {vs : List (Key × V)} {ts : List Tx}, RKs W Z ρ H kvs vs → textKeys kvs = some ts → vs.map (·.1) = (ts.map toS).map Sum.inr
  | [], _, _, .nil, e => by simp only [textKeys, Option.some.injEq] at e; subst e; rfl
  | _ :: _, _, _, @RKs.cons _ _ _ _ k d ds v vs r t, e => by
    cases k with
    | inr i =>
      simp only [textKeys, Option.map_eq_some_iff] at e
      obtain ⟨js, e1, rfl⟩ := e
      simp [textKeys_ok t e1, keyS]
    | inl s => simp [textKeys] at e
theorem rds_texts {Z ρ : List Addr} {H : Hp} : ∀ ts : List Tx, RDs W Z ρ H (ts.map .str) ((ts.map toS).map V.str)
  | [] => .nil
  | t :: ts => .cons (.str t) (rds_texts ts)
theorem cl_sortedK (hc : X.calm = true) : CallR X (.builtin "sorted") (r1 W sortedK) := by
  intro pins s σ H xs us Q I rv ⟨Z, ρ, h, d, r, v, hx, S, rd, e, hA⟩
  subst hx
  simp only [sortedK, Option.bind_eq_some_iff] at e
  obtain ⟨kvs, e1, e2⟩ := e
  obtain ⟨a, vs, rfl, q, t⟩ := asDct_ok S rd e1
  split at e2
  · rename_i h64
    cases ei : intKeys kvs with
    | some is =>
      rw [ei] at e2
      cases e2
      have hk := intKeys_ok t ei
      have hl : is.length < 64 := by
        have := congrArg List.length hk
        simp only [List.length_map] at this
        rw [← this, ← t.len]; exact h64
      refine call_sortedDI hc pins s σ H _ us Q I rv ⟨a, vs, is, rfl, q, hk, hl, fun ys p hp hs n => ?_⟩
      rw [sortI_eq hp hs]
      exact hA.lst S (rds_ints _) p n
    | none =>
      rw [ei] at e2
      simp only [Option.map_eq_some_iff] at e2
      obtain ⟨ts, e3, rfl⟩ := e2
      have hk := textKeys_ok t e3
      have hl : (ts.map toS).length < 64 := by
        have := congrArg List.length hk
        simp only [List.length_map] at this ⊢
        rw [← this, ← t.len]; exact h64
      refine call_sortedD hc pins s σ H _ us Q I rv ⟨a, vs, ts.map toS, rfl, q, hk, hl, fun ys p hp hs n => ?_⟩
      rw [sortT_eq hp hs]
      exact hA.lst S (rds_texts _) p n
  · cases e2
end
end Fw
end
section
set_option Elab.async false
set_option maxHeartbeats 1000000
namespace Fw
open PySem PySem.Spec PyProof.Rows L2
def Callee (X : Cx) (W : Wd) (k : Nat) (f : Addr) (ps : List Str) (dvs : List V) (r : List D → Hh → R D) : Prop :=
  ∃ (fd : FuncData) (ds : List Value), FnG X.prog X.w X.K X.mg X.base (L2.CX X.prog X.w) k f fd ps (spF W r) ∧ PySem.W.keepIn X.K (.ref f) = true ∧ Binds X.K fd ps ds ∧ Vals dvs ds
section
variable {X : Cx} {W : Wd} {wx : WX} {k cls n : Nat} {f : Addr} {ps : List Str} {r : List D → Hh → R D} {x m : Str} {p pos apos : Pos} {e o : Expr} {es : List Expr} {fs fk : AM} {fo : TM} {dds : List D} {dvs : List V}
theorem ec_call (J : Jc X W wx) (C : Callee X W k f ps dvs r) (hr : RoomG k X.A) (hdd : Dfl W dds dvs) (hm : X.mg x = some (.ref f)) (ha : AJ X W wx (e :: es) fs) (hg : Gl X x := by rfl)
    (hdb : (x == ("__debug__" : Str)) = false := by decide) (he : starEach (e :: es) X.env = (false, eval e X.env) :: starEach es X.env := by rfl) (hpl : (backTo pos (starEach es X.env)).any (·.1) = false := by rfl) :
    EJ X W wx (.Call (.Name x p) (e :: es) [] pos) (eCall (fun ds h => r (ds ++ dds) h) fs) := by
  obtain ⟨fd, ds, F, hk, hb, hd⟩ := C
  exact ej_call J F hr hg hm hk hb hd hdd ha hdb he hpl
theorem ec_meth {pl : Sem Bool} (J : Jc X W wx) (C : Callee X W k f ps dvs r) (hr : RoomG k X.A) (hdd : Dfl W dds dvs) (c : Cls X.K (W.ca cls)) (hm : Meth X.K (W.ca cls) m f) (hnm : ∀ k, W.an k ≠ m) (ho : EJ X W wx o fo) (ha : AJ X W wx (e :: es) fs)
    (hst : starEach (e :: es) X.env = (false, eval e X.env) :: starEach es X.env := by rfl) (hpl : (backTo pos (starEach es X.env)).any (·.1) = false := by rfl)
    (ht : eval (.Call (.Attribute o m apos) (e :: es) [] pos) X.env = (do
      let ov ← eval o X.env
      standAt apos.atName
      let (f, first) ← holding [ov] (getMethod ov m pl)
      callWith pos f first (backTo pos (starEach (e :: es) X.env)) (backToKw pos (keywordEach [] X.env))) := by rfl) :
    EJ X W wx (.Call (.Attribute o m apos) (e :: es) [] pos) (eMeth (fun ds h => r (ds ++ dds) h) cls fo fs) := by
  obtain ⟨fd, ds, F, hk, hb, hd⟩ := C
  exact ej_meth J ho c hm hnm F hr hb hd hdd ha hst hpl ht
theorem ec_meth0 {pl : Sem Bool} (J : Jc X W wx) (C : Callee X W k f ps dvs r) (hr : RoomG k X.A) (hdd : Dfl W dds dvs) (c : Cls X.K (W.ca cls)) (hm : Meth X.K (W.ca cls) m f) (hnm : ∀ k, W.an k ≠ m) (ho : EJ X W wx o fo)
    (ht : eval (.Call (.Attribute o m apos) [] [] pos) X.env = (do
      let ov ← eval o X.env
      standAt apos.atName
      let (f, first) ← holding [ov] (getMethod ov m pl)
      callWith pos f first (backTo pos (starEach [] X.env)) (backToKw pos (keywordEach [] X.env))) := by rfl) :
    EJ X W wx (.Call (.Attribute o m apos) [] [] pos) (eMeth (fun ds h => r (ds ++ dds) h) cls fo aNil) := by
  obtain ⟨fd, ds, F, hk, hb, hd⟩ := C
  exact ej_meth0 J ho c hm hnm F hr hb hd hdd ht
def MakerK (X : Cx) (W : Wd) (k cls n : Nat) (ps ks : List Str) (gV : List V → List V → List V) (r : List D → Hh → R D) : Prop :=
  ∃ (f : Addr) (fd : FuncData) (g : List Value → List Value → List Value), Mk X.K (W.ca cls) f ∧ FnG X.prog X.w X.K X.mg X.base (L2.CX X.prog X.w) k f fd ps (spM W cls r) ∧ KBn X.K fd ps (n + 1) ks g gV
def Len (fs : AM) (n : Nat) : Prop := ∀ {σ h ds h'}, fs σ h = .ok ds h' → ds.length = n
theorem len_nil : Len aNil 0 := fun e => by cases e; rfl
theorem len_cons {f : TM} (h : Len fs n) : Len (aCons f fs) (n + 1) := fun {σ h0 ds h'} e => by
  unfold aCons at e
  cases hf : f σ h0 with
  | ok d h1 =>
    rw [hf] at e
    simp only [R.bind_ok] at e
    cases hg : fs σ h1 with
    | ok es h2 => rw [hg] at e; cases e; simp [h hg]
    | xn x h2 => rw [hg] at e; cases e
    | bad => rw [hg] at e; cases e
  | xn x h1 => rw [hf] at e; cases e
  | bad => rw [hf] at e; cases e
theorem Len.post {fs : AM} {σd : Sg} {h : Hh} {n : Nat} {Z ρ : List Addr} {H : Hp} {P : List D → List Addr → Hh → Hp → Prop} {E : XK} (hl : Len fs n) (p : Post W Z ρ H (fs σd h) P E) : Post W Z ρ H (fs σd h) (fun ds ρ h H => ds.length = n ∧ P ds ρ h H) E := by
  cases hf : fs σd h with
  | ok ds h1 => rw [hf] at p; exact fun ρ' H' x S => ⟨hl hf, p ρ' H' x S⟩
  | xn e h1 => rw [hf] at p; exact p
  | bad => rw [hf] at p; exact p
theorem ec_makeK {kws : List Keyword} {ks : List Str} {gV : List V → List V → List V} {gD : List D → List D → List D} (J : Jc X W wx) (C : MakerK X W k cls n ps ks gV r) (hr : RoomG (k + 1) X.A)
    (hgd : ∀ (v : V) {Z ρ : List Addr} {H : Hp} {ds es : List D} {vs zs : List V}, RDs W Z ρ H ds vs → RDs W Z ρ H es zs → ∃ us, gV (v :: vs) zs = v :: us ∧ RDs W Z ρ H (gD ds es) us)
    (hm : X.mg x = some (.ref (W.ca cls))) (ha : AJ X W wx (e :: es) fs) (hkw : KJ X W wx kws fk) (hl : Len fs n) (hl2 : Len fk ks.length) (hg : Gl X x := by rfl)
    (hall : (backToKw pos (keywordEach kws X.env)).all (·.1.isSome) = true := by rfl) (hks : (backToKw pos (keywordEach kws X.env)).filterMap (·.1) = ks := by rfl)
    (hdb : (x == ("__debug__" : Str)) = false := by decide) (he : starEach (e :: es) X.env = (false, eval e X.env) :: starEach es X.env := by rfl)
    (hpl : ((backTo pos (starEach (e :: es) X.env)).any (·.1) || (backToKw pos (keywordEach kws X.env)).any (·.1.isNone)) = false := by rfl) :
    EJ X W wx (.Call (.Name x p) (e :: es) kws pos) (eCallK r gD fs fk) := by
  obtain ⟨f, fd, g, M, F, hb⟩ := C
  refine ⟨fun pins s σ H Q I ⟨Z, ρ, σd, h0, S, rs, pp⟩ => ?_⟩
  refine wpAny_Call_Name_kw (ld_glob I hg hm ?_ hdb)
  refine PySem.W.callWith_KW (h₀ := X.base) I.ok.mod.kin M.kp hall (thn (ha.run pos pins s σ H (fun vs H1 => vs.length = n ∧ tA W wx fk σ H1 fun zs H2 => zs.length = ks.length ∧
      ∀ x dx, H2 x = none → H2 dx = none → dx ≠ x → spM W cls r (gV (.ref x :: vs) zs) (upd (upd H2 dx (.own x)) x (.ins (W.ca cls) dx [])) (fun v H2 => v = .non ∧ Q (.ref x) H2) fun cls dd H => wx cls dd σ H) I
    ⟨Z, ρ, σd, h0, S, rs, (hl.post (Post.bind pp)).imp fun ds1 ρ1 h1 H1 x1 S1 p1 vs rvs => ?_⟩) fun us s1 ⟨vs, H1, I1, r, hln, q⟩ => ?_) hpl he
  · refine ⟨by rw [← rvs.length]; exact p1.1, Z, ρ1, σd, h1, S1, rs.mono x1, (hl2.post (Post.bind p1.2)).imp fun es2 ρ2 h2 H2 x2 S2 p2 zs rzs => ⟨by rw [← rzs.length]; exact p2.1, fun x dx hx hdx hne => ?_⟩⟩
    obtain ⟨us, e1, ru⟩ := hgd (.ref x) (rvs.mono x2) rzs
    rw [e1]
    exact spM_of S2 ru p2.2 x dx hx hdx hne
  · refine thn (hkw.run pos pins s1 σ H1 _ I1 q) fun ws s2 ⟨zs, H2, I2, rz, hl2', q2⟩ => ⟨I2.kIn, ?_⟩
    rw [hks]
    have hq := q2 (s2.heap.objs.size + 1) s2.heap.objs.size (I2.hok.fresh (Nat.le_succ _)) (I2.hok.fresh (Nat.le_refl _)) (Nat.ne_of_lt (Nat.lt_succ_self _))
    have I3 := Inv.made (C := W.ca cls) I2
    have rr : RelV (.ref (s2.heap.objs.size + 1)) (Value.ref (s2.heap.objs.size + 1)) := rfl
    refine wpAny_call (make_map (f := f) I2.kIn M.makes M.init (beq_iff_eq.mp M.fn) (codeAny_mono (F.run _ X.stack _ _ ⟨Value.ref (s2.heap.objs.size + 1) :: us, ks.zip ws⟩ (g (Value.ref (s2.heap.objs.size + 1) :: us) ws) _ _ _ (hr.make' _ us (ks.zip ws))
      (I3.env0.make _ us (ks.zip ws)) (hb.to _ (Value.ref (s2.heap.objs.size + 1) :: us) ws I3.kIn (by rw [List.length_cons, ← r.length, hln]) (by rw [← rz.length]; exact hl2')) (hb.rel (Paired.cons rr r) rz) hq) fun r s' hq' => ?_))
    cases r with
    | error e => exact passAt J.tk σ pins _ _ e s' I3 hq'
    | ok fl =>
      cases fl with
      | ret u =>
        obtain ⟨v, H', I4, rv, ev, q3⟩ := I3.after hq'
        subst ev
        exact ⟨rv, ⟨V.ref (s2.heap.objs.size + 1), H', I4, rfl, q3⟩⟩
      | next => exact False.elim hq'
      | brk => exact False.elim hq'
      | cont => exact False.elim hq'
end
end Fw
end
section
set_option Elab.async false
set_option maxHeartbeats 1000000
namespace Fw
open PySem PySem.Spec PyProof.Rows L2
section
variable {X : Cx} {W : Wd} {wx : WX} {a b e : Expr} {fa fb : TM} {pos : Pos} {x : Str}
theorem ej_gi {i : Int} (hm : ∃ t, X.mg x = some (.int i t)) (hg : Gl X x := by rfl) (hd : (x == ("__debug__" : Str)) = false := by decide) : EJ X W wx (.Name x pos) (eC (.int i)) := by
  obtain ⟨t, e⟩ := hm
  exact ej_c (pe_glob (v := .int i) hg e ⟨t, rfl⟩ hd) fun _ _ _ => .int i
theorem ej_gs {s : Tx} (hm : ∃ t, X.mg x = some (.str (toS s) t)) (hg : Gl X x := by rfl) (hd : (x == ("__debug__" : Str)) = false := by decide) : EJ X W wx (.Name x pos) (eC (.str s)) := by
  obtain ⟨t, e⟩ := hm
  exact ej_c (pe_glob (v := .str (toS s)) hg e ⟨t, rfl⟩ hd) fun _ _ _ => .str s
end
section
variable {K : PySem.W.Frag} {W : Wd}
theorem kit_of {u : String} {T : T1} (h : kitB "NoneType" u = some (decide (T1.non = T)) ∧ kitB "bool" u = some (decide (T = .bl) || decide (T = .int)) ∧ kitB "int" u = some (decide (T1.int = T)) ∧ kitB "str" u = some (decide (T1.str = T)) ∧
    kitB "tuple" u = some (decide (T1.tup = T)) ∧ kitB "list" u = some (decide (T1.lst = T)) ∧ kitB "dict" u = some (decide (T1.dct = T))) : KitOk K W (.type u) (isOf T) := by
  obtain ⟨h1, h2, h3, h4, h5, h6, h7⟩ := h
  refine ⟨?_, ?_, ?_, ?_, ?_, ?_, ?_, ?_⟩
  · intro b e; simp only [isOf, Option.some.injEq] at e; subst e; exact kit_ty h1
  · intro b e; simp only [isOf, Option.some.injEq] at e; subst e; exact kit_ty h2
  · intro b e; simp only [isOf, Option.some.injEq] at e; subst e; exact kit_ty h3
  · intro b e; simp only [isOf, Option.some.injEq] at e; subst e; exact kit_ty h4
  · intro b e; simp only [isOf, Option.some.injEq] at e; subst e; exact kit_ty h5
  · intro b e; simp only [isOf, Option.some.injEq] at e; subst e; exact kit_ty h6
  · intro b e; simp only [isOf, Option.some.injEq] at e; subst e; exact kit_ty h7
  · intro c b e; simp [isOf] at e
theorem kit_int : KitOk K W (.type "int") (isOf .int) := kit_of (by decide +kernel)
theorem kit_bool : KitOk K W (.type "bool") (isOf .bl) := kit_of (by decide +kernel)
theorem kit_str : KitOk K W (.type "str") (isOf .str) := kit_of (by decide +kernel)
theorem kit_tuple : KitOk K W (.type "tuple") (isOf .tup) := kit_of (by decide +kernel)
end
def anOf (l : List Str) (k : Nat) : Str := match l[k]? with
  | some s => s
  | none => ⟨#[3000000 + k]⟩
theorem anOf_inj {l : List Str} (nd : l.Nodup) (hs : (l.all fun s => s.cps.toList.all fun c => decide (c < 3000000)) = true) : ∀ j k, anOf l j = anOf l k → j = k := by
  have big : ∀ (s : Str) (n : Nat), s ∈ l → s ≠ ⟨#[3000000 + n]⟩ := by
    intro s n hm e
    have h1 := List.all_eq_true.mp hs s hm
    rw [e] at h1
    simp at h1
    omega
  intro j k e
  unfold anOf at e
  cases hj : l[j]? with
  | some s =>
    cases hk : l[k]? with
    | some t =>
      rw [hj, hk] at e
      simp only at e
      subst e
      exact (List.getElem?_inj (List.getElem?_eq_some_iff.mp hj).1 nd).mp (hj.trans hk.symm)
    | none => rw [hj, hk] at e; exact absurd e (big s k (List.mem_of_getElem? hj))
  | none =>
    cases hk : l[k]? with
    | some t => rw [hj, hk] at e; exact absurd e.symm (big t j (List.mem_of_getElem? hk))
    | none =>
      rw [hj, hk] at e
      simp at e
      omega
theorem anOf_ne {l : List Str} {m : Str} (h : (l.all fun s => decide (s ≠ m)) = true) (h2 : (m.cps.toList.all fun c => decide (c < 3000000)) = true) : ∀ k, anOf l k ≠ m := by
  intro k e
  unfold anOf at e
  cases hk : l[k]? with
  | some s =>
    rw [hk] at e
    have := List.all_eq_true.mp h s (List.mem_of_getElem? hk)
    simp at this
    exact this e
  | none =>
    rw [hk] at e
    subst e
    simp at h2
    omega
abbrev FnD (K : PySem.W.Frag) (d : He.DefD) (fd : FuncData) : Prop := FunD K d.name d.qual d.params d.body d.scope (d.dvs K) (d.kws K) (He.fAd K d.at_) fd
def CalleeB (P : Program) (w : World) (K : PySem.W.Frag) (mg : Str → Option Value) (base : Heap) (W : Wd) (k : Nat) (f : Addr) (ps : List Str) (dvs : List V) (r : List D → Hh → R D) : Prop :=
  ∃ (fd : FuncData) (ds : List Value), FnG P w K mg base (L2.CX P w) k f fd ps (spF W r) ∧ PySem.W.keepIn K (.ref f) = true ∧ Binds K fd ps ds ∧ Vals dvs ds
def MakerB (P : Program) (w : World) (K : PySem.W.Frag) (mg : Str → Option Value) (base : Heap) (W : Wd) (k cls : Nat) (ps : List Str) (dvs : List V) (r : List D → Hh → R D) : Prop :=
  ∃ (f : Addr) (fd : FuncData) (ds : List Value), Mk K (W.ca cls) f ∧ FnG P w K mg base (L2.CX P w) k f fd ps (spM W cls r) ∧ Binds K fd ps ds ∧ Vals dvs ds
def MakerKB (P : Program) (w : World) (K : PySem.W.Frag) (mg : Str → Option Value) (base : Heap) (W : Wd) (k cls n : Nat) (ps ks : List Str) (gV : List V → List V → List V) (r : List D → Hh → R D) : Prop :=
  ∃ (f : Addr) (fd : FuncData) (g : List Value → List Value → List Value), Mk K (W.ca cls) f ∧ FnG P w K mg base (L2.CX P w) k f fd ps (spM W cls r) ∧ KBn K fd ps (n + 1) ks g gV
theorem spF_bad {W : Wd} {vs : List V} {H : Hp} {Q : VK} {E : XK} (p : spF W (fun _ _ => .bad) vs H Q E) : False := by
  obtain ⟨Z, ρ, h, ds, S, r, p⟩ := p
  exact p
theorem spM_bad {W : Wd} {c : Nat} {vs : List V} {H : Hp} {Q : VK} {E : XK} (p : spM W c (fun _ _ => .bad) vs H Q E) : False := by
  obtain ⟨x, dx, us, H0, _, _, _, _, _, Z, ρ, h, ds, S, r, p⟩ := p
  exact p
theorem fn_bad {P : Program} {w : World} {K : PySem.W.Frag} {mg : Str → Option Value} {base : Heap} {W : Wd} {k : Nat} {f : Addr} {fd : FuncData} {ps : List Str} : FnG P w K mg base (L2.CX P w) k f fd ps (spF W fun _ _ => .bad) :=
  ⟨fun _ _ _ _ p => (spF_bad p).elim, fun _ _ _ _ _ _ _ _ _ _ _ _ _ p => (spF_bad p).elim⟩
theorem fn_badM {P : Program} {w : World} {K : PySem.W.Frag} {mg : Str → Option Value} {base : Heap} {W : Wd} {k c : Nat} {f : Addr} {fd : FuncData} {ps : List Str} : FnG P w K mg base (L2.CX P w) k f fd ps (spM W c fun _ _ => .bad) :=
  ⟨fun _ _ _ _ p => (spM_bad p).elim, fun _ _ _ _ _ _ _ _ _ _ _ _ _ p => (spM_bad p).elim⟩
end Fw
end
section
set_option Elab.async false
set_option maxHeartbeats 1000000
namespace Fw
open PySem PySem.Spec PyProof.Rows L2
section
variable {X : Cx} {W : Wd} {wx : WX} {k cls n : Nat} {f : Addr} {ps : List Str} {r : List D → Hh → R D} {x m : Str} {p pos apos : Pos} {e o : Expr} {es : List Expr} {fs fk : AM} {fo fa : TM} {dds : List D} {dvs : List V}
end
section
variable {prog : Program} {w : World} {A : Around} {E : Value → Shared → Prop} {s : Shared}
theorem rev_applied {sl : Addr} {vs : Value} {n : Nat} {Q : Int × Int × Nat → Shared → Prop} (hs : s.heap.IsSliceOf sl .none .none vs) (ps : IsPart vs (some (-1)))
    (h : Q (((n : Int) - 1), -1, n) s) : wpAny (model prog w) A (Builtin.Slice.sliceApplied (.ref sl) (pure (n : Int))) Q E s := by
  obtain ⟨os, hos, hcs, hds⟩ := id hs
  unfold Builtin.Slice.sliceApplied Builtin.Slice.sliceFields
  refine wpAny_bind (wpAny_bind (wpAny_field hos hds (x := .none) rfl (wpAny_bind (wpAny_field hos hds (x := .none) rfl (wpAny_bind (wpAny_field hos hds (x := vs) rfl (wpAny_pure ?_)))))))
  refine wpAny_bind (HT.slicePart_ ps ?_)
  show wpAny _ _ (if ((-1 : Int) == 0) = true then _ else _) _ _ s
  rw [if_neg (by decide)]
  refine wpAny_bind (HT.slicePart_ .none (wpAny_bind (HT.slicePart_ .none (wpAny_bind (wpAny_pure ?_)))))
  show wpAny _ _ (match Builtin.Slice.sliceAdjust none none (-1) (n : Int) with | (lo, hi) => pure (lo, (-1 : Int), Builtin.Slice.slicePlaces lo hi (-1))) _ _ s
  have e1 : Builtin.Slice.sliceAdjust none none (-1) (n : Int) = ((n : Int) - 1, -1) := by
    simp [Builtin.Slice.sliceAdjust]
  have e2 : Builtin.Slice.slicePlaces ((n : Int) - 1) (-1) (-1) = n := by
    unfold Builtin.Slice.slicePlaces
    have h1 : ¬ ((-1 : Int) > 0) := by omega
    simp only [h1, if_false]
    have : (-(-1 : Int)) = 1 := by omega
    rw [this, Int.ediv_one]
    split <;> omega
  rw [e1]
  show wpAny _ _ (pure ((n : Int) - 1, (-1 : Int), Builtin.Slice.slicePlaces ((n : Int) - 1) (-1) (-1))) _ _ s
  rw [e2]
  exact wpAny_pure h
theorem rev_pick (xs : Array Value) : ((List.range xs.size).filterMap fun (m : Nat) => xs[(((xs.size : Int) - 1) + (m : Int) * (-1)).toNat]?).toArray = xs.toList.reverse.toArray := by
  have e : (fun (m : Nat) => xs[(((xs.size : Int) - 1) + (m : Int) * (-1)).toNat]?) = (fun k => xs[k]?) ∘ fun (m : Nat) => (((xs.size : Int) - 1) + ((m : Nat) : Int) * (-1)).toNat := rfl
  rw [e, ← List.filterMap_map]
  have e2 : (List.range xs.size).map (fun (m : Nat) => (((xs.size : Int) - 1) + (m : Int) * (-1)).toNat) = (List.range xs.size).map fun k => xs.size - 1 - k := by
    apply List.map_congr_left
    intro k hk
    have := List.mem_range.mp hk
    omega
  rw [e2, PySem.W.krv_range, List.filterMap_reverse, PySem.W.krv_all]
theorem getItem_tuple_rev {t sl : Addr} {items : Array Value} {vs : Value} {Q : Value → Shared → Prop} (ht : IsTup s.heap t items) (hs : s.heap.IsSliceOf sl .none .none vs) (ps : IsPart vs (some (-1)))
    (h : Q (.ref s.heap.objs.size) { s with heap := s.heap.push { cls := .type "tuple", data := .seq items.toList.reverse.toArray } })
    (hsz : items.size ≤ sizeLine) : wpAny (model prog w) A (getItem (.ref t) (.ref sl)) Q E s := by
  have htake : sizeOk (.seq items.toList.reverse.toArray) := by
    show items.toList.reverse.toArray.size ≤ sizeLine
    rw [List.size_toArray, List.length_reverse, Array.length_toList]
    exact hsz
  obtain ⟨os, hos, hcs, hds⟩ := id hs
  have hTs : s.TypeIs (.ref sl) "slice" := ⟨os, hos, hcs⟩
  unfold getItem
  try with_reducible refine wpAny_holding ?_
  first | refine wpAny_bind (wpAny_pure ?_) | skip
  refine wpAny_bind (wpAny_sequenceKey ht.typeIs (by decide) ?_)
  refine wpAny_bind (wpAny_callSpecial?_slot (name := Str.ofString "__getitem__") ht.typeIs PyProof.Rows.slot_tuple_getitem
    (wpAny_call_entry PyProof.Rows.slot_tuple_getitem ht.typeIs entry_tuple_getitem ?_ (args_tuple_getitem _ _)))
  show wpAny _ _ (Builtin.Tuple.tupleItemsOf (.ref t) >>= _) _ _ s
  refine wpAny_bind (tupleItemsOf_ ht ?_)
  refine wpAny_bind (wpAny_typeOf hTs ?_)
  rw [if_pos (by decide)]
  refine wpAny_bind (rev_applied hs ps ?_)
  have hno : ¬ ((((items.size : Int) - 1) == 0 && (-1 : Int) == 1 && items.size == items.size) = true) := by
    intro q
    rw [Bool.and_eq_true, Bool.and_eq_true] at q
    exact absurd q.1.2 (by decide)
  show wpAny _ _ (if (((items.size : Int) - 1) == 0 && (-1 : Int) == 1 && items.size == items.size) = true then _ else _) _ _ s
  rw [if_neg hno, rev_pick]
  first
    | exact wpAny_bind (m := Builtin.Tuple.tupleExact _) (wpAny_newObj_type (wpAny_pure ⟨_, rfl, wpAny_pure h⟩) htake)
    | exact wpAny_bind (m := Builtin.Tuple.tupleExact _) (wpAny_newObj_type (wpAny_bind (wpAny_pure (wpAny_pure ⟨_, rfl, wpAny_pure h⟩))) htake)
    | exact wpAny_bind (wpAny_bind (m := Builtin.Tuple.tupleExact _) (wpAny_newObj_type (wpAny_pure (wpAny_pure ⟨_, rfl, wpAny_pure h⟩)) htake))
    | exact wpAny_bind (wpAny_bind (m := Builtin.Tuple.tupleExact _) (wpAny_newObj_type (wpAny_pure ⟨_, rfl, wpAny_pure h⟩) htake))
end
def revD (h : Hh) (d : D) : Option D := match d with
  | .tup xs => some (.tup xs.reverse)
  | d => (asLst h d).map fun xs => .lst xs.reverse
section
variable {X : Cx} {W : Wd} {wx : WX}
def tRev2 (K : PySem.W.Frag) (te : TE) : TE := fun σ H Q => te σ H fun x H1 => ∃ a xs, x = .ref a ∧ ((SqL K H1 a xs ∧ ∀ p, H1 p = none → Q (.ref p) (upd H1 p (.lst xs.reverse))) ∨ (SqT K H1 a xs ∧ TupQ H1 xs.reverse Q))
theorem pe_rev2 {e : Expr} {te : TE} {k : Nat} {p1 p2 p3 pos : Pos} (he : PE X e te) : PE X (.Subscript e (.Slice none none (some (.UnaryOp .USub (.Constant (.int 1) k p1) p2)) p3) pos) (tRev2 X.K te) := by
  refine ⟨fun pins s σ H Q I h => ?_⟩
  refine Subscript_ (thn (he.run pins s σ H _ I h) fun v s1 ⟨x, H1, I1, r1, q1⟩ => ?_)
  obtain ⟨a, xs, ex, q1⟩ := q1
  subst ex
  cases r1
  have hst : PO X (some (.UnaryOp .USub (.Constant (.int 1) k p1) p2)) (tPart (tUn (rU fun i => .int (-i)) (tC (.int 1)))) := po_some (pe_un un_neg pe_int)
  refine wpAny_Slice (thn (po_none.run pins s1 σ H1 (fun o H2 => o = none ∧ H2 = H1) I1 ⟨rfl, rfl⟩) fun vl s2 ⟨l, H2, I2, pl, el, e2⟩ => ?_)
  subst el e2
  refine thn (po_none.run pins s2 σ H2 (fun o H3 => o = none ∧ H3 = H2) I2 ⟨rfl, rfl⟩) fun vu s3 ⟨u, H3, I3, pu, eu, e3⟩ => ?_
  subst eu e3
  refine thn (hst.run pins s3 σ H3 (fun o H4 => o = some (-1) ∧ H4 = H3) I3 ⟨1, rfl, -1, rfl, rfl, rfl⟩) fun vs s4 ⟨o, H4, I4, ps, eo, e4⟩ => ?_
  subst eo e4
  have I5 : Inv X pins σ H4 { s4 with heap := s4.heap.push { cls := .type "slice", data := .fields #[vl, vu, vs] } } := I4.kept (t' := s4.toks) fun b ob q => Heap.get?_push_of_some _ q
  show wpAny (model X.prog X.w) X.A (subscriptTail e (.Slice none none (some (.UnaryOp .USub (.Constant (.int 1) k p1) p2)) p3) (.ref a) (.ref s4.heap.objs.size)) (EP X pins σ Q) X.xe { s4 with heap := s4.heap.push { cls := .type "slice", data := .fields #[vl, vu, vs] } }
  rcases q1 with ⟨hx, q⟩ | ⟨hx, q⟩
  · obtain ⟨its, r, ht, hz⟩ := I5.list hx
    have hlen := r.length
    refine tail_any (ops := [.ref a, .ref s4.heap.objs.size]) ht.isList.typeIs (PySem.slot_list_getitem.lookup) ?_ (by with_unfolding_all rfl)
    refine wpAny_getItem_list_slice ht.isList (Heap.IsSliceOf.new _ vl vu vs) pl pu ps (by decide) ?_ (by rw [List.size_toArray]; omega)
    rw [PySem.W.krv_pick]
    refine ⟨.ref _, _, I5.laid (t' := s4.toks) (o := .lst xs.reverse) (fun b ob q => Heap.get?_push_of_some _ q) (Nat.le_refl _) ?_, rfl, q _ (I5.hok.fresh (Nat.le_refl _))⟩
    exact ⟨by rw [List.length_reverse]; exact hz, _, 0, r.reverse, Heap.get?_push_size _ rfl⟩
  · obtain ⟨its, r, ht, hz⟩ := I5.tuple hx
    have hlen := r.length
    cases pl
    cases pu
    refine tail_any (ops := [.ref a, .ref s4.heap.objs.size]) ht.typeIs (PyProof.Rows.slot_tuple_getitem.lookup) ?_ (by with_unfolding_all rfl)
    refine getItem_tuple_rev ht (Heap.IsSliceOf.new _ .none .none vs) ps ?_ (by rw [List.size_toArray]; omega)
    exact tup_lay I5 r.reverse (by rw [List.length_reverse]; exact hz) X.xe q s4.toks
theorem ej_rev {a : Expr} {fa : TM} {k : Nat} {p1 p2 p3 pos : Pos} (J : Jc X W wx) (ha : EJ X W wx a fa) : EJ X W wx (.Subscript a (.Slice none none (some (.UnaryOp .USub (.Constant (.int 1) k p1) p2)) p3) pos) (eU revD fa) :=
  ⟨fun pins s σ H Q I ⟨Z, ρ, σd, h0, S, rs, p⟩ => (pe_rev2 ha).run pins s σ H Q I
    ⟨Z, ρ, σd, h0, S, rs, (Post.bind p).imp fun d ρ1 h1 H1 x1 S1 p1 v rv => by
      obtain ⟨r, e, hA⟩ := post_opt p1
      by_cases ht : ∃ xs, d = .tup xs
      · obtain ⟨xs, rfl⟩ := ht
        simp only [revD] at e
        cases e
        obtain ⟨a, vs, rfl, q, t⟩ := tup_ok rv
        exact ⟨a, vs, rfl, .inr ⟨J.hK ▸ q, fun p n o hd => hA.tupP S1 t.reverse p n hd⟩⟩
      · have e' : (asLst h1 d).map (fun xs => D.lst xs.reverse) = some r := by
          rw [← e]
          cases d <;> first | rfl | exact absurd ⟨_, rfl⟩ ht
        simp only [Option.map_eq_some_iff] at e'
        obtain ⟨xs, e1, rfl⟩ := e'
        obtain ⟨a, vs, rfl, q, t⟩ := asLst_ok S1 rv e1
        exact ⟨a, vs, rfl, .inl ⟨SqL.of q, fun p n => hA.lst S1 t.reverse p n⟩⟩⟩⟩
end
end Fw
end
section
set_option Elab.async false
set_option maxHeartbeats 1000000
namespace Fw
open PySem PySem.Spec PyProof.Rows L2
mutual
def D.dat : D → PyData
  | .non => .none
  | .bl b => .bool b
  | .int i => .int i
  | .str s => .str ⟨s.toArray⟩
  | .tup xs => .tuple (datAll xs)
  | .lst xs => .list (datAll xs)
  | .dct kvs => .dict (datK kvs)
  | _ => .none
def datAll : List D → List PyData
  | [] => []
  | x :: xs => x.dat :: datAll xs
def datK : List (K1 × D) → List (PyData × PyData)
  | [] => []
  | x :: xs => ((match x.1 with | .inl i => .int i | .inr s => .str ⟨s.toArray⟩), x.2.dat) :: datK xs
end
def neatKey (k : K1) : Bool := match k with
  | .inl i => decide (i.natAbs.log2 < 1920)
  | .inr _ => true
mutual
def D.neat : D → Bool
  | .non => true
  | .bl _ => true
  | .int i => decide (i.natAbs.log2 < 1920)
  | .str _ => true
  | .tup xs => neatAll xs
  | .lst xs => neatAll xs
  | .dct kvs => neatK kvs
  | _ => false
def neatAll : List D → Bool
  | [] => true
  | x :: xs => x.neat && neatAll xs
def neatK : List (K1 × D) → Bool
  | [] => true
  | x :: xs => neatKey x.1 && x.2.neat && neatK xs
end
def reprT (d : D) : Tx := d.dat.shown.cps.toList
def KeyDat (k : K1) : PyData := match k with
  | .inl i => .int i
  | .inr s => .str ⟨s.toArray⟩
theorem datK_keys : ∀ ds : List (K1 × D), (datK ds).map (·.1) = ds.map fun q => KeyDat q.1
  | [] => by simp [datK]
  | x :: xs => by
    simp only [datK, List.map_cons, datK_keys xs]
    rfl
theorem datK_vals : ∀ ds : List (K1 × D), (datK ds).map (·.2) = datAll (ds.map (·.2))
  | [] => by simp [datK, datAll]
  | x :: xs => by simp only [datK, List.map_cons, datK_vals xs, datAll]
section
variable {X : Cx} {W : Wd} {pins : List (Addr × Obj)} {σ : L2.St} {H : Hp} {s : Shared} {Z ρ : List Addr}
def Nest (X : Cx) (s : Shared) (u : Value) (p : PyData) : Prop := ∃ as bs, Reads s.heap u p as ∧ ReadAtMost s.heap p.depth bs ∧ ReprK X.prog X.w bs s.heap p.depth u p.shown
def NestAll (X : Cx) (s : Shared) (us : List Value) (ps : List PyData) : Prop := ∃ as bs, ReadsAll s.heap us ps as ∧ ReadAtMost s.heap (PyData.depthAll ps) bs ∧ ReprAllK X.prog X.w bs s.heap (PyData.depthAll ps) us (PyData.shownAll ps)
theorem NestAll.nil : NestAll X s [] [] := ⟨[], [], .nil, (fun _ h => nomatch h), by simp only [PyData.shownAll]; exact .nil⟩
theorem NestAll.cons {u : Value} {us : List Value} {p : PyData} {ps : List PyData} (h : Nest X s u p) (t : NestAll X s us ps) : NestAll X s (u :: us) (p :: ps) := by
  obtain ⟨as, bs, r1, m1, k1⟩ := h
  obtain ⟨as', bs', r2, m2, k2⟩ := t
  refine ⟨as ++ as', bs ++ bs', .cons r1 r2, ?_, ?_⟩
  · simp only [PyData.depthAll]
    exact (m1.mono (Nat.le_max_left _ _)).append (m2.mono (Nat.le_max_right _ _))
  · simp only [PyData.depthAll, PyData.shownAll]
    exact .cons ((k1.more fun b hb => List.mem_append_left _ hb).level_le (Nat.le_max_left _ _)) (k2.more_le (fun b hb => List.mem_append_right _ hb) (Nat.le_max_right _ _))
theorem nest_key {k : K1} {u : Value} (h : keyIs (keyS k) u = true) (hn : neatKey k = true) (hz : (KeyDat k).shown.length ≤ sizeLine) : Nest X s u (KeyDat k) := by
  rcases keyIs_shape h with ⟨i, t, e, rfl⟩ | ⟨x, t, e, rfl⟩
  · cases k with
    | inr y => cases e
    | inl j =>
      cases e
      refine ⟨[], [], .int _ t, (fun _ h => nomatch h), ?_⟩
      simp only [KeyDat, PyData.shown]
      exact .of_is (ReprIs.int t (by simpa [neatKey] using hn)) _ _ _
  · cases k with
    | inl y => cases e
    | inr y =>
      cases e
      refine ⟨[], [], .str _ t, (fun _ h => nomatch h), ?_⟩
      simp only [KeyDat, PyData.shown, toS]
      exact .of_is (ReprIs.str _ t (by simpa only [KeyDat, PyData.shown, toS] using hz)) _ _ _
mutual
theorem nest (I : Inv X pins σ H s) : ∀ {d : D} {v : V}, RD W Z ρ H d v → d.neat = true → d.dat.shown.length ≤ sizeLine → X.K = W.K → ∀ u, RelV v u → Nest X s u d.dat
  | _, _, .non, _, _, _, _, r => by
    cases r
    exact ⟨[], [], by simp only [D.dat]; exact .none, fun _ h => (nomatch h), by simp only [D.dat, PyData.shown]; exact .of_is ReprIs.none _ _ _⟩
  | _, _, .bl b, _, _, _, _, r => by
    cases r
    exact ⟨[], [], by simp only [D.dat]; exact .bool b, fun _ h => (nomatch h), by simp only [D.dat, PyData.shown]; exact .of_is (ReprIs.bool b) _ _ _⟩
  | _, _, .int i, h, _, _, _, r => by
    obtain ⟨t, rfl⟩ := r
    exact ⟨[], [], by simp only [D.dat]; exact .int i t, fun _ h => (nomatch h), by simp only [D.dat, PyData.shown]; exact .of_is (ReprIs.int t (by simpa [D.neat] using h)) _ _ _⟩
  | _, _, .str x, _, hz, _, _, r => by
    obtain ⟨t, rfl⟩ := r
    refine ⟨[], [], by simp only [D.dat]; exact .str _ t, fun _ h => (nomatch h), ?_⟩
    simp only [D.dat, PyData.shown] at hz ⊢
    exact .of_is (ReprIs.str _ t hz) _ _ _
  | _, _, .tup (a := a) (ds := ds) _ _ q t, h, hz, hK, _, r => by
    cases r
    simp only [D.dat, PyData.shown] at hz
    obtain ⟨its, rv, ⟨o, ho, hc, n, hd⟩, _⟩ := I.tuple (show SqT X.K H a _ from .inl q.rd)
    obtain ⟨as, bs, r1, m1, k1⟩ := nestAll I t (by simpa [D.neat] using h) (fun z hz' => Nat.le_trans (tupleText_mem_le hz') hz) hK its rv
    have rd : Reads s.heap (.ref a) (.tuple (datAll ds)) _ := .tuple ho hc hd r1
    have hna : a ∉ bs := not_mem_of_deeper rd (by simp only [PyData.depth]; omega) m1
    refine ⟨_, a :: bs, by simp only [D.dat]; exact rd, by simp only [D.dat]; exact ReadAtMost.cons rd (by simp only [PyData.depth]; omega) m1, ?_⟩
    simp only [D.dat, PyData.depth, PyData.shown]
    exact ReprK.tuple ho hc hd hna k1
  | _, _, .tupK (a := a) (ds := ds) q t, h, hz, hK, _, r => by
    cases r
    simp only [D.dat, PyData.shown] at hz
    obtain ⟨its, rv, ⟨o, ho, hc, n, hd⟩, _⟩ := I.tuple (.inr (hK ▸ q))
    obtain ⟨as, bs, r1, m1, k1⟩ := nestAll I t (by simpa [D.neat] using h) (fun z hz' => Nat.le_trans (tupleText_mem_le hz') hz) hK its rv
    have rd : Reads s.heap (.ref a) (.tuple (datAll ds)) _ := .tuple ho hc hd r1
    have hna : a ∉ bs := not_mem_of_deeper rd (by simp only [PyData.depth]; omega) m1
    refine ⟨_, a :: bs, by simp only [D.dat]; exact rd, by simp only [D.dat]; exact ReadAtMost.cons rd (by simp only [PyData.depth]; omega) m1, ?_⟩
    simp only [D.dat, PyData.depth, PyData.shown]
    exact ReprK.tuple ho hc hd hna k1
  | _, _, .lst (a := a) (ds := ds) _ _ q t, h, hz, hK, _, r => by
    cases r
    simp only [D.dat, PyData.shown] at hz
    obtain ⟨its, rv, ⟨o, n, ho, hc, _, hd⟩, _⟩ := I.list (SqL.of (K := X.K) q)
    obtain ⟨as, bs, r1, m1, k1⟩ := nestAll I t (by simpa [D.neat] using h) (fun z hz' => Nat.le_trans (listText_mem_le hz') hz) hK its rv
    have rd : Reads s.heap (.ref a) (.list (datAll ds)) _ := .list ho hc hd r1
    have hna : a ∉ bs := not_mem_of_deeper rd (by simp only [PyData.depth]; omega) m1
    refine ⟨_, a :: bs, by simp only [D.dat]; exact rd, by simp only [D.dat]; exact ReadAtMost.cons rd (by simp only [PyData.depth]; omega) m1, ?_⟩
    simp only [D.dat, PyData.depth, PyData.shown]
    cases its with
    | nil =>
      cases rv
      cases t
      simp only [datAll, PyData.shownAll, listText_nil]
      exact (ReprK.listEmpty ho hc hd).more fun b hb => hb
    | cons y l => exact ReprK.list ho hc hd hna (by simpa using k1.length_eq) (fun i y e => k1.item i y (by simpa using e))
  | _, _, .dct (a := a) (kds := ds) _ _ q t, h, hz, hK, _, r => by
    cases r
    simp only [D.dat, PyData.shown] at hz
    obtain ⟨_, hsys, vs, kv, o, es, ep, ho, hx, hd, _, hp, _⟩ := dk_rd I.hok q
    obtain ⟨⟨as, bs, r1, m1, k1⟩, ⟨cs, ds', r2, m2, k2⟩⟩ := nestK I t (by simpa [D.neat] using h)
      (fun z hz' => let ⟨p, hp, hl⟩ := PyData.shownKv_key_le _ z (by rw [datK_keys]; exact hz'); Nat.le_trans hl (Nat.le_trans (dictText_mem_le hp) hz))
      (fun z hz' => let ⟨p, hp, hl⟩ := PyData.shownKv_val_le _ z (by rw [datK_vals]; exact hz'); Nat.le_trans hl (Nat.le_trans (dictText_mem_le hp) hz)) hK kv hp
    have rd : Reads s.heap (.ref a) (.dict (datK ds)) _ := .dict ho hx.1 hd (by rw [datK_keys]; exact r1) (by rw [datK_vals]; exact r2)
    rw [← datK_keys] at m1 k1
    rw [← datK_vals] at m2 k2
    have mm : ReadAtMost s.heap (PyData.depthKv (datK ds)) (bs ++ ds') := (m1.mono (PyData.depthAll_keys_le _)).append (m2.mono (PyData.depthAll_vals_le _))
    have hna : a ∉ bs ++ ds' := not_mem_of_deeper rd (by simp only [PyData.depth]; omega) mm
    refine ⟨_, a :: (bs ++ ds'), by simp only [D.dat]; exact rd, by simp only [D.dat]; exact ReadAtMost.cons rd (by simp only [PyData.depth]; omega) mm, ?_⟩
    simp only [D.dat, PyData.depth, PyData.shown, PyData.shownKv_eq]
    exact ReprK.dict ho hx.1 hd hsys hna (ReprEntriesK.of_two es.toList _ _ (k1.more_le (fun b hb => List.mem_append_left _ hb) (PyData.depthAll_keys_le _)) (k2.more_le (fun b hb => List.mem_append_right _ hb) (PyData.depthAll_vals_le _)))
  | _, _, .obj _ _ _ _, h, _, _, _, _ => by simp [D.neat] at h
  | _, _, .ref _, h, _, _, _, _ => by simp [D.neat] at h
  | _, _, .fn _, h, _, _, _, _ => by simp [D.neat] at h
  | _, _, .roi _, h, _, _, _, _ => by simp [D.neat] at h
theorem nestAll (I : Inv X pins σ H s) : ∀ {ds : List D} {vs : List V}, RDs W Z ρ H ds vs → neatAll ds = true → (∀ t ∈ PyData.shownAll (datAll ds), t.length ≤ sizeLine) → X.K = W.K → ∀ us, Vals vs us → NestAll X s us (datAll ds)
  | _, _, .nil, _, _, _, _, r => by
    cases r
    simp only [datAll]
    exact .nil
  | _, _, .cons r t, h, hz, hK, _, rv => by
    cases rv with
    | cons r1 r2 =>
      simp only [neatAll, Bool.and_eq_true] at h
      simp only [datAll, PyData.shownAll] at hz ⊢
      exact .cons (nest I r h.1 (hz _ List.mem_cons_self) hK _ r1) (nestAll I t h.2 (fun z hz' => hz z (List.mem_cons_of_mem _ hz')) hK _ r2)
theorem nestK (I : Inv X pins σ H s) : ∀ {ds : List (K1 × D)} {vs : List (Key × V)}, RKs W Z ρ H ds vs → neatK ds = true → (∀ t ∈ PyData.shownAll (ds.map fun q => KeyDat q.1), t.length ≤ sizeLine) → (∀ t ∈ PyData.shownAll (datAll (ds.map (·.2))), t.length ≤ sizeLine) → X.K = W.K →
    ∀ {us : List (Key × Value)} {es : List DictEntry}, KV vs us → Pairs (mixKind X.prog X.w) es us → NestAll X s (es.map (·.key)) (ds.map fun q => KeyDat q.1) ∧ NestAll X s (es.map (·.val)) (datAll (ds.map (·.2)))
  | _, _, .nil, _, _, _, _, _, _, kv, hp => by
    cases kv
    cases hp
    simp only [List.map_nil, datAll]
    exact ⟨.nil, .nil⟩
  | _, _, .cons (k := k) r t, h, hz, hy, hK, _, _, kv, hp => by
    cases kv with
    | cons q kv =>
      cases hp with
      | cons h1 h2 hp =>
        simp only [neatK, Bool.and_eq_true] at h
        simp only [List.map_cons, PyData.shownAll, datAll] at hz hy ⊢
        obtain ⟨i1, i2⟩ := nestK I t h.2 (fun z hz' => hz z (List.mem_cons_of_mem _ hz')) (fun z hz' => hy z (List.mem_cons_of_mem _ hz')) hK kv hp
        obtain ⟨q1, q2⟩ := q
        refine ⟨.cons (nest_key (by have q1' := q1; simp only at q1'; rw [q1']; exact h1) h.1.1 (hz _ List.mem_cons_self)) i1, .cons (h2 ▸ nest I r h.1.2 (hy _ List.mem_cons_self) hK _ q2) i2⟩
end
theorem shows_lst (I : Inv X pins σ H s) (hK : X.K = W.K) {a : Addr} {ds : List D} {vs : List V} (q : H a = some (.lst vs)) (t : RDs W Z ρ H ds vs) (h : neatAll ds = true) (hz : (listText (PyData.shownAll (datAll ds))).length ≤ sizeLine) :
    ∃ T idr, ShowsBy X.prog X.w s.heap a (.list (datAll ds)) T idr := by
  obtain ⟨its, rv, ⟨o, n, ho, hc, _, hd⟩, _⟩ := I.list (SqL.of (K := X.K) q)
  obtain ⟨as, bs, r1, m1, k1⟩ := nestAll I t h (fun z hz' => Nat.le_trans (listText_mem_le hz') hz) hK its rv
  have rd : Reads s.heap (.ref a) (.list (datAll ds)) _ := .list ho hc hd r1
  have hna : a ∉ bs := not_mem_of_deeper rd (by simp only [PyData.depth]; omega) m1
  refine ⟨"list", "list.__repr__", PySem.F.slot_list_repr.toG, PySem.F.slot_list_str, PySem.F.slot_list_format, fun s hk => ⟨o, hk _ _ ho, hc⟩, fun A E s' Q hg hu hk hQ => ?_⟩
  simp only [PyData.depth] at hu
  simp only [PyData.shown] at hQ
  cases its with
  | nil =>
    cases rv
    cases t
    simp only [datAll, PyData.shownAll, listText_nil] at hQ
    exact call_list_repr_empty ⟨o, hk _ _ ho, hc⟩ (hk _ _ ho) hd (hQ s'.heap _ _ fun _ _ e => e)
  | cons x l => exact call_list_reprK ho hc hd hna (by simpa using k1.length_eq) (fun i y e => k1.item i y (by simpa using e)) hg (fun b _ => Clear.nil b) hu hk hQ hz
theorem shows_tup (I : Inv X pins σ H s) (hK : X.K = W.K) {a : Addr} {ds : List D} {vs : List V} (q : SqT X.K H a vs) (t : RDs W Z ρ H ds vs) (h : neatAll ds = true) (hz : (tupleText (PyData.shownAll (datAll ds))).length ≤ sizeLine) :
    ∃ T idr, ShowsBy X.prog X.w s.heap a (.tuple (datAll ds)) T idr := by
  obtain ⟨its, rv, ⟨o, ho, hc, n, hd⟩, _⟩ := I.tuple q
  obtain ⟨as, bs, r1, m1, k1⟩ := nestAll I t h (fun z hz' => Nat.le_trans (tupleText_mem_le hz') hz) hK its rv
  have rd : Reads s.heap (.ref a) (.tuple (datAll ds)) _ := .tuple ho hc hd r1
  have hna : a ∉ bs := not_mem_of_deeper rd (by simp only [PyData.depth]; omega) m1
  refine ⟨"tuple", "tuple.__repr__", PySem.F.slot_tuple_repr, PySem.F.slot_tuple_str, PySem.F.slot_tuple_format, fun s hk => ⟨o, hk _ _ ho, hc⟩, fun A E s' Q hg hu hk hQ => ?_⟩
  simp only [PyData.depth] at hu
  simp only [PyData.shown] at hQ
  exact call_tuple_reprK ho hc hd hna k1 hg (fun b _ => Clear.nil b) hu hk hQ hz
theorem shows_dct (I : Inv X pins σ H s) (hK : X.K = W.K) {a : Addr} {ds : List (K1 × D)} {vs : List (Key × V)} (q : Rd H a (.dK vs)) (t : RKs W Z ρ H ds vs) (h : neatK ds = true) (hz : (dictText (PyData.shownKv (datK ds))).length ≤ sizeLine) :
    ∃ T idr, ShowsBy X.prog X.w s.heap a (.dict (datK ds)) T idr := by
  obtain ⟨_, hsys, us, kv, o, es, ep, ho, hx, hd, _, hp, _⟩ := dk_rd I.hok q
  obtain ⟨⟨as, bs, r1, m1, k1⟩, ⟨cs, ds', r2, m2, k2⟩⟩ := nestK I t h
    (fun z hz' => let ⟨p, hp, hl⟩ := PyData.shownKv_key_le _ z (by rw [datK_keys]; exact hz'); Nat.le_trans hl (Nat.le_trans (dictText_mem_le hp) hz))
    (fun z hz' => let ⟨p, hp, hl⟩ := PyData.shownKv_val_le _ z (by rw [datK_vals]; exact hz'); Nat.le_trans hl (Nat.le_trans (dictText_mem_le hp) hz)) hK kv hp
  have rd : Reads s.heap (.ref a) (.dict (datK ds)) _ := .dict ho hx.1 hd (by rw [datK_keys]; exact r1) (by rw [datK_vals]; exact r2)
  rw [← datK_keys] at m1 k1
  rw [← datK_vals] at m2 k2
  have mm : ReadAtMost s.heap (PyData.depthKv (datK ds)) (bs ++ ds') := (m1.mono (PyData.depthAll_keys_le _)).append (m2.mono (PyData.depthAll_vals_le _))
  have hna : a ∉ bs ++ ds' := not_mem_of_deeper rd (by simp only [PyData.depth]; omega) mm
  refine ⟨"dict", "dict.__repr__", PySem.F.slot_dict_repr, PySem.F.slot_dict_str, PySem.F.slot_dict_format, fun s hk => ⟨o, hk _ _ ho, hx.1⟩, fun A E s' Q hg hu hk hQ => ?_⟩
  simp only [PyData.depth] at hu
  simp only [PyData.shown, PyData.shownKv_eq] at hQ
  exact call_dict_reprK ho hx.1 hd hsys hna (ReprEntriesK.of_two es.toList _ _ (k1.more_le (fun b hb => List.mem_append_left _ hb) (PyData.depthAll_keys_le _)) (k2.more_le (fun b hb => List.mem_append_right _ hb) (PyData.depthAll_vals_le _)))
    hg (fun b _ => Clear.nil b) hu hk hQ (by rw [← PyData.shownKv_eq]; exact hz)
end
def ownV (h : Hh) (d : D) : Option D := match d with
  | .ref n => (match h[n]? with
    | some (.lst xs) => some (.lst xs)
    | some (.dct kvs) => some (.dct kvs)
    | _ => none)
  | d => some d
def reprV (h : Hh) (d : D) : Option D := (ownV h d).bind fun e => if e.neat = true ∧ e.dat.depth ≤ 170 ∧ (reprT e).length ≤ line then some (.str (reprT e)) else none
section
variable {X : Cx} {W : Wd}
theorem cl_repr (hK : X.K = W.K) (hu : X.A.units + 190 < cLine) (hg : X.A.guards = some []) : CallR X (.builtin "repr") (r1 W reprV) := by
  intro pins s σ H xs us Q I rv ⟨Z, ρ, h, d, r, v, hx, S, rd, e, hA⟩
  subst hx
  obtain ⟨u, rfl, ru⟩ := vals1 rv
  simp only [reprV, Option.bind_eq_some_iff] at e
  obtain ⟨d', e1, e2⟩ := e
  split at e2
  case isFalse => cases e2
  case isTrue hc =>
  cases e2
  obtain ⟨c1, c2, c3⟩ := hc
  have c3' : d'.dat.shown.length ≤ sizeLine := by
    rw [line_eq] at c3
    have : (reprT d').length = d'.dat.shown.length := by simp [reprT, Str.length]
    omega
  have fin : ∀ (s' : Shared) (t : Tok), Inv X pins σ H s' → EP X pins σ Q (.str d'.dat.shown t) s' := fun s' t I' => by
    refine ⟨.str d'.dat.shown, H, I', ⟨t, rfl⟩, ?_⟩
    have := hA.now S (v := .str (toS (reprT d'))) (.str _)
    rwa [reprT, toS_of] at this
  have cont : ∀ {a : Addr} {p : PyData}, p = d'.dat → (∃ T idr, ShowsBy X.prog X.w s.heap a p T idr) → wpAny (model X.prog X.w) X.A (call (.builtin "repr") [.ref a]) (EP X pins σ Q) X.xe s := by
    rintro a p rfl ⟨T, idr, B⟩
    exact call_repr_slot (by omega) (B.typeIs s fun _ _ e => e) B.slotRepr (B.call X.A.in1 X.xe s _ hg (by show X.A.units + 1 + _ < cLine; omega) (fun _ _ e => e) fun h' u tk hk => ⟨_, _, rfl, fin _ u (I.kept hk)⟩)
  have rd0 := rd
  cases rd
  case ref a n en =>
    cases ru
    simp only [ownV] at e1
    cases eo : h[n]? with
    | none => rw [eo] at e1; cases e1
    | some o =>
      rw [eo] at e1
      have q := S.obj n o a eo en
      cases o <;> dsimp only at e1 <;> cases e1
      · cases q with | lst q t => exact cont (by simp only [D.dat]) (shows_lst I hK q t (by simpa [D.neat] using c1) (by simpa only [D.dat, PyData.shown] using c3'))
      · cases q with | dct q t => exact cont (by simp only [D.dat]) (shows_dct I hK (.inl q) t (by simpa [D.neat] using c1) (by simpa only [D.dat, PyData.shown] using c3'))
  all_goals
    simp only [ownV, Option.some.injEq] at e1
    subst e1
  case non => cases ru; simp only [D.dat, PyData.shown] at fin; exact PySem.P.repr_of_none (fin _ _ (I.tok _))
  case bl b => cases ru; simp only [D.dat, PyData.shown] at fin; exact PySem.P.repr_of_bool (fin _ _ (I.tok _))
  case int i => obtain ⟨t, rfl⟩ := ru; simp only [D.dat, PyData.shown] at fin; exact PySem.P.repr_of_int (by simpa [D.neat] using c1) (fin _ _ (I.tok _))
  case str x => obtain ⟨t, rfl⟩ := ru; simp only [D.dat, PyData.shown] at fin c3'; exact PySem.P.repr_of_str (fin _ _ (I.tok _)) c3'
  case tup a ds vs z ra q t => cases ru; exact cont (by simp only [D.dat]) (shows_tup I hK (.inl q.rd) t (by simpa [D.neat] using c1) (by simpa only [D.dat, PyData.shown] using c3'))
  case tupK a ds vs q t => cases ru; exact cont (by simp only [D.dat]) (shows_tup I hK (.inr (hK ▸ q)) t (by simpa [D.neat] using c1) (by simpa only [D.dat, PyData.shown] using c3'))
  case lst a ds vs z ra q t => cases ru; exact cont (by simp only [D.dat]) (shows_lst I hK q t (by simpa [D.neat] using c1) (by simpa only [D.dat, PyData.shown] using c3'))
  case dct a ds vs z ra q t => cases ru; exact cont (by simp only [D.dat]) (shows_dct I hK q t (by simpa [D.neat] using c1) (by simpa only [D.dat, PyData.shown] using c3'))
  all_goals simp [D.neat] at c1
end
end Fw
end
section
set_option Elab.async false
set_option maxHeartbeats 1000000
namespace Fw
open PySem PySem.Spec PyProof.Rows L2
def strV (_ : Hh) (d : D) : Option D := match d with
  | .int i => if i.natAbs.log2 < 1920 then some (.str (toString i : Str).cps.toList) else none
  | .str s => some (.str s)
  | _ => none
def intV (h : Hh) (d : D) : Option D := match d with
  | .str s => if s.length ≤ 640 then (PySem.intText? (toS s)).map .int else none
  | d => intD h d
section
variable {X : Cx} {W : Wd}
theorem cl_str : CallR X (.type "str") (r1 W strV) := by
  intro pins s σ H xs us Q I rv ⟨Z, ρ, h, d, r, v, hx, S, rd, e, hA⟩
  subst hx
  cases d <;> simp only [strV] at e <;> first | (cases e; done) | skip
  · split at e
    · rename_i hl
      cases e
      cases rd
      have := hA.now S (.str _)
      rw [toS_of] at this
      exact call_str_int pins s σ H _ us Q I rv ⟨_, rfl, hl, this⟩
    · cases e
  · cases e
    cases rd
    exact SkE.call_str_str pins s σ H _ us Q I rv ⟨_, rfl, hA.now S (.str _)⟩
theorem cl_intV : CallR X (.type "int") (r1 W intV) := by
  intro pins s σ H xs us Q I rv ⟨Z, ρ, h, d, r, v, hx, S, rd, e, hA⟩
  by_cases ht : ∃ t, d = .str t
  · obtain ⟨t, rfl⟩ := ht
    subst hx
    simp only [intV] at e
    split at e
    · rename_i hl
      obtain ⟨n, e1, rfl⟩ := Option.map_eq_some_iff.mp e
      cases rd
      exact call_int_str pins s σ H _ us Q I rv ⟨_, n, rfl, e1, by rw [toS_len]; exact hl, hA.now S (.int _)⟩
    · cases e
  · have e' : intD h d = some r := by
      rw [← e]
      cases d <;> first | rfl | exact absurd ⟨_, rfl⟩ ht
    exact cl_int pins s σ H xs us Q I rv ⟨Z, ρ, h, d, r, v, hx, S, rd, e', hA⟩
end
section
variable {X : Cx} {W : Wd} {wx : WX} {a b c : Expr} {fa fb fc : TM} {x : Str}
end
section
variable {X : Cx} {W : Wd} {wx : WX} {a e : Expr} {fa : TM} {x : Str} {pos p p2 : Pos} {tab : List (Tx × Nat)} {d : Addr} {es : List Expr} {as : AM} {k i : Nat}
end
end Fw
end
section
set_option Elab.async false
set_option maxHeartbeats 1000000
namespace Fw
open PySem PySem.Spec PyProof.Rows L2
section
variable {X : Cx} {W : Wd}
end
end Fw
end
section
set_option Elab.async false
set_option maxHeartbeats 1000000
namespace Fw
open PySem PySem.Spec PyProof.Rows L2
def sBad : SM := fun _ _ => .bad
section
variable {X : Cx} {W : Wd} {wx : WX}
theorem sj_bad {st : Stmt} : SJ X W wx st sBad := ⟨fun pins s σ H D I ⟨Z, ρ, σd, h0, S, rs, p⟩ => p.elim⟩
end
section
variable {X : Cx} {W : Wd} {wx : WX} {a : Expr} {fa : TM} {pos : Pos}
inductive JsJ (X : Cx) (W : Wd) (wx : WX) : List Expr → List TM → Prop where
  | nil : JsJ X W wx [] []
  | cons {e : Expr} {f : TM} {es : List Expr} {fs : List TM} (h : EJ X W wx e f) (r : JsJ X W wx es fs) : JsJ X W wx (e :: es) (f :: fs)
end
section
variable {prog : Program} {w : World} {A : Around} {E : Value → Shared → Prop} {s : Shared}
end
section
variable {X : Cx} {pos : Pos}
end
section
variable {X : Cx} {W : Wd} {wx : WX} {e tg : Expr} {fe : TM} {pos : Pos}
end
end Fw
end
section
set_option Elab.async false
set_option maxHeartbeats 1000000
namespace Fw
open PySem PySem.Spec PyProof.Rows L2
structure RaK (K : PySem.W.Frag) (C : Addr) : Prop where
  x : PySem.W.excIn K C [.type "ValueError", .type "Exception", .type "BaseException", .type "object"] "ValueError.__new__" = true
  k : PySem.W.keepIn K (.ref C) = true
  b : PySem.W.subIn K (.ref C) (.type "BaseException") = some true
  t : PySem.W.typeIn K (.ref C) = some (.type "type")
section
variable {X : Cx} {W : Wd} {wx : WX} {e : Expr} {fe : TM} {x : Str} {p pos pos' : Pos}
end
def tX (W : Wd) (known : List Nat) (i : Nat) (a : Addr) (cls : Value) (dd : Option Addr) (f : Exn → Hh → Option D) : TE := fun σ H Q => σ[i]? = some (some (.ref a)) ∧ ∃ Z ρ h x d, Sim W Z ρ h H ∧ RX W Z ρ H x cls dd ∧ x.cls ∈ known ∧ f x h = some d ∧ Fw.Ans W Z ρ h H d Q
section
variable {X : Cx} {W : Wd} {wx : WX} {e : Expr} {b : SM} {body : List Stmt} {x n : Str} {c : Value} {i : Nat} {known cs : List Nat} {f : Exn → Hh → Option D} {np pos pos' p3 : Pos}
end
section
variable {X : Cx} {W : Wd} {known : List Nat} {i : Nat} {a : Addr} {oe : Obj} {cls : Value} {dd : Option Addr} {pn : List (Addr × Obj)} {f g : Exn → Hh → Option D} {pos : Pos}
variable {p pe : Pos} {n : Str} {ce : Expr} {cv : V} {u : Value} {l : List Nat}
variable {c2 : Expr} {cv2 : V} {u2 : Value} {l2 : List Nat} {ctx : Nat} {tpos : Pos}
end
end Fw
end
section
set_option Elab.async false
set_option maxHeartbeats 1000000
namespace Fw
open PySem PySem.Spec PyProof.Rows L2
section
variable {X : Cx} {W : Wd} {wx : WX} {a b c : Expr} {fa fb fc : TM} {pos : Pos}
end
section
variable {X : Cx} {W : Wd} {wx : WX} {a b : Expr} {fa fb : TM} {x : Str} {d : Addr} {tab : List (Tx × Int)} {p apos cpos : Pos}
end
section
variable {X : Cx} {W : Wd} {wx : WX} {x : Str} {pos : Pos}
theorem rds_k {W : Wd} {Z ρ : List Addr} {H : Hp} : ∀ ts : List Tx, RDs W Z ρ H (ts.map .str) (ts.map fun t => V.str (toS t))
  | [] => .nil
  | t :: ts => .cons (.str t) (rds_k ts)
theorem ej_gt {a : Addr} {ts : List Tx} (hk : KTup W.K a (ts.map fun t => V.str (toS t))) (hm : X.mg x = some (.ref a)) (hg : Gl X x := by rfl) (hd : (x == ("__debug__" : Str)) = false := by decide) : EJ X W wx (.Name x pos) (eC (.tup (ts.map .str))) :=
  ej_c (pe_glob (v := .ref a) hg hm rfl hd) fun _ _ _ => .tupK hk (rds_k ts)
end
theorem strsB_ok : ∀ {vs : List Value} {ts : List Tx}, strsB vs ts = true → Vals (ts.map fun t => V.str (toS t)) vs
  | [], [], _ => .nil
  | v :: vs, t :: ts, h => by
    simp only [strsB, Bool.and_eq_true] at h
    obtain ⟨h1, h2⟩ := h
    cases v <;> first | (cases h1; done) | skip
    rename_i x tk
    have e : x = toS t := of_decide_eq_true h1
    subst e
    exact .cons ⟨tk, rfl⟩ (strsB_ok h2)
  | [], _ :: _, h => by simp [strsB] at h
  | _ :: _, [], h => by simp [strsB] at h
theorem ktB_ok {K : PySem.W.Frag} {a : Addr} {ts : List Tx} (h : ktB K a ts = true) : KTup K a (ts.map fun t => V.str (toS t)) := by
  unfold ktB at h
  split at h
  · rename_i c dd its n sl e
    simp only [Bool.and_eq_true, decide_eq_true_eq] at h
    obtain ⟨⟨rfl, h2⟩, h3⟩ := h
    exact ⟨_, its, n, e, rfl, rfl, Nat.le_trans h2 (by decide), strsB_ok h3⟩
  · cases h
end Fw
end
section
set_option Elab.async false
set_option maxHeartbeats 1000000
namespace Fw
open PySem PySem.Spec PyProof.Rows L2
section
variable {X : Cx} {W : Wd} {wx : WX} {a b c : Expr} {fs : AM} {pos : Pos}
end
end Fw
end
section
set_option Elab.async false
set_option maxHeartbeats 1000000
namespace Fw
open PySem PySem.Spec PyProof.Rows L2
section
variable {X : Cx} {e : Expr} {es : List Expr} {ta : L2.TA} {x : Str} {B : Addr} {p1 p2 pos : Pos}
end
end Fw
end
section
set_option Elab.async false
set_option maxHeartbeats 1000000
namespace Fw
open PySem PySem.Spec PyProof.Rows L2
section
variable {X : Cx} {W : Wd} {wx : WX} {e : Expr} {fe : TM} {x : Str} {p pos pos' : Pos}
end
end Fw
end
section
set_option Elab.async false
set_option maxHeartbeats 1000000
namespace Fw
open PySem PySem.Spec PyProof.Rows L2
section
variable {X : Cx} {W : Wd} {known : List Nat} {i : Nat} {a : Addr} {oe : Obj} {cls : Value} {dd : Option Addr} {pn : List (Addr × Obj)} {f g : Exn → Hh → Option D} {pos : Pos}
end
end Fw
end
section
set_option Elab.async false
set_option maxHeartbeats 1000000
namespace Fw
open PySem PySem.Spec PyProof.Rows L2
section
variable {X : Cx} {W : Wd} {wx : WX} {a b : Expr} {fa fb : TM} {pos : Pos}
end
end Fw
end
section
set_option Elab.async false
set_option maxHeartbeats 1000000
namespace Fw
open PySem PySem.Spec PyProof.Rows L2
end Fw
end
section
set_option Elab.async false
set_option maxHeartbeats 1000000
namespace Fw
open PySem PySem.Spec PyProof.Rows L2
def itmI : It → Nat → D → D
  | .enum, i, d => .tup [.int i, d]
  | _, _, d => d
def lcLI (n : Nat) (it : It) (step : D → Hh → R (Option D)) : Nat → Nat → List D → Hh → R (List D)
  | 0, _, _, _ => .bad
  | f + 1, i, acc, h => match h[n]? with
    | some (.lst ys) => (match ys[i]? with
      | none => .ok acc h
      | some x => (step (itmI it i x) h).bind fun o h => match o with
        | none => lcLI n it step f (i + 1) acc h
        | some d => if acc.length < line then lcLI n it step f (i + 1) (acc ++ [d]) h else .bad)
    | _ => .bad
def isOwnL (h : Hh) (n : Nat) : Bool := match h[n]? with
  | some (.lst _) => true
  | _ => false
def eLcI (elt : TM) (g : G) (it : It) (src : TM) (cond : BM) (own : List Nat) (F : Nat) : TM := fun σ h => (src σ h).bind fun d h => match d with
  | .ref n => if isOwnL h n then (noX (lcLI n it (lcStep elt g cond own σ) F 0 [] h)).bind fun ys h => .ok (.lst ys) h else .bad
  | _ => .bad
def forLI (n : Nat) (it : It) (body : D → Sg → Hh → SR) : Nat → Nat → Sg → Hh → SR
  | 0, _, _, _ => .bad
  | f + 1, i, σ, h => match h[n]? with
    | some (.lst ys) => (match ys[i]? with
      | none => .nx σ h
      | some x => match body (itmI it i x) σ h with
        | .nx σ h => forLI n it body f (i + 1) σ h
        | .ct σ h => forLI n it body f (i + 1) σ h
        | .bk σ h => .nx σ h
        | r => r)
    | _ => .bad
def sForI (g : G) (it : It) (src : TM) (b : SM) (F : Nat) : SM := fun σ h => .of σ (src σ h) fun d h => match d with
  | .ref n => if isOwnL h n then forLI n it (forB g b) F 0 σ h else .bad
  | _ => .bad
theorem isOwnL_ok {h : Hh} {n : Nat} (e : isOwnL h n = true) : ∃ ys, h[n]? = some (.lst ys) := by
  unfold isOwnL at e
  split at e
  · rename_i ys q; exact ⟨ys, q⟩
  · cases e
def jI (K : PySem.W.Frag) : It → Addr → L2.It
  | .enum, a => Ite K a
  | _, a => Itl K a
def tIR (K : PySem.W.Frag) (W : Wd) (wx : WX) (it : It) (f : TM) : TI := fun σ H R => ∃ Z ρ σd h, Sim W Z ρ h H ∧ RSg W Z ρ H σd σ ∧
  Post W Z ρ H (f σd h) (fun d ρ' h' H' => ∃ n a ys, d = .ref n ∧ ρ'[n]? = some a ∧ h'[n]? = some (.lst ys) ∧ R (jI K it a) H') (fun cls dd H' => wx cls dd σ H')
abbrev IR (X : Cx) (W : Wd) (wx : WX) (tg e : Expr) (it : It) (f : TM) : Prop := PI X tg e (tIR X.K W wx it f)
section
variable {X : Cx} {W : Wd} {wx : WX} {tg e : Expr} {f : TM}
theorem own_at {Z ρ : List Addr} {h : Hh} {H : Hp} {n : Nat} {a : Addr} {ys : List D} (S : Sim W Z ρ h H) (hn : ρ[n]? = some a) (e : h[n]? = some (.lst ys)) : ∃ vs, H a = some (.lst vs) ∧ RDs W Z ρ H ys vs := by
  cases S.obj n _ a e hn with
  | lst q t => exact ⟨_, q, t⟩
theorem ir_e (he : EJ X W wx e f) : IR X W wx tg e .e f := by
  refine ⟨fun pins s σ H R I ⟨Z, ρ, σd, h0, S, rs, p⟩ => ?_⟩
  refine thn (he.run pins s σ H (fun v H1 => IterV X tg pins σ R v H1) I ⟨Z, ρ, σd, h0, S, rs, Post.imp p fun d ρ1 h1 H1 x1 S1 p2 v rv => ?_⟩) fun u s1 ⟨v, H1, I1, r1, q1⟩ => q1 s1 u I1 r1
  obtain ⟨n, a, ys, rfl, hn, hy, q⟩ := p2
  cases rv with
  | ref hv =>
    rw [hn] at hv
    cases hv
    obtain ⟨vs, q1, t⟩ := own_at S1 hn hy
    exact iter_list (SqL.of q1) q
end
section
variable {X : Cx} {W : Wd} {wx : WX} {tg iter elt : Expr} {ifs : List Expr} {scope : Scope} {own : List (Str × Nat)} {pos : Pos} {f fs : TM} {gb : BM} {it : It} {g : G}
theorem lc_stepK {Z ρ : List Addr} {Hc : Hp} {D : Addr} {acc : List V} {accd : List Fw.D} {h : Hh} {σd : Sg} {σ : L2.St} {x : Fw.D} {v : V} {ownI : List Nat} {k : List Fw.D → Hh → R (List Fw.D)} {Q : List Fw.D → List Addr → Hh → Hp → Prop} {E : XK} {Nx : Hp → Prop}
    (hK : X.K = W.K) (hg : ∀ i ∈ g.ix, i ∈ ownI) (hD : D ∉ Z) (n : Hc D = none) (S : Sim W Z ρ h Hc) (rs : RSg W Z ρ Hc σd σ) (ra : RDs W Z ρ Hc accd acc)
    {H' : Hp} (hH : H' = upd (hid H' D) D (.lst acc)) (hx : Ext ρ Hc ρ (hid H' D)) (S' : Sim W (D :: Z) ρ h H') (rv : RD W (D :: Z) ρ H' x v)
    (p : Post W Z ρ Hc (noX ((lcStep f g gb ownI σd x h).bind fun o h => match o with
        | none => k accd h
        | some d => if accd.length < line then k (accd ++ [d]) h else .bad)) Q E)
    (hN : ∀ ρ' h' Hc' acc' accd', Hc' D = none → Ext ρ Hc ρ' Hc' → Sim W Z ρ' h' Hc' → RDs W Z ρ' Hc' accd' acc' → Post W Z ρ' Hc' (noX (k accd' h')) Q E → Nx (upd Hc' D (.lst acc'))) :
    gOf X.K g v (L2.wipe σ ownI) H' fun σ2 H2 => L2.wipe σ2 ownI = L2.wipe σ ownI ∧ tB W (fun _ _ _ _ => False) gb σ2 H2 fun b H3 =>
      if b = true then tE W (fun _ _ _ _ => False) f σ2 H3 fun y H4 => ∃ acc, H4 D = some (.lst acc) ∧ acc.length < sizeLine ∧ Nx (upd H4 D (.lst (acc ++ [y]))) else Nx H3 := by
  have p1 := noX_bind p
  unfold lcStep at p1
  have hn' : hid H' D D = none := hid_self
  have hzz' : ∀ z ∈ D :: Z, z ∈ Z ∨ hid H' D z = none := fun z hz => (List.mem_cons.mp hz).elim (fun e => .inr (by rw [e]; exact hn')) .inl
  have xl : Ext ρ (hid H' D) ρ H' := by
    have := Ext.laid (ρ := ρ) (H := hid H' D) (o := .lst acc) hn'
    rw [← hH] at this
    exact this
  have rs' : RSg W (D :: Z) ρ H' (wipe σd ownI) (L2.wipe σ ownI) := by
    refine RSg.wipe ⟨rs.len, fun i d e => ?_⟩ ownI
    obtain ⟨w, e1, r1⟩ := rs.at_ i d e
    exact ⟨w, e1, ((r1.mono hx).reZ hzz').mono xl⟩
  cases hb : bindG (wipe σd ownI) g x with
  | none => rw [hb] at p1; exact p1.elim
  | some σ1 =>
    rw [hb] at p1
    dsimp only at p1
    refine bindG_ok hK g rs' rv hb fun σ2 r2 hw => ⟨?_, ?_⟩
    · rw [hw ownI hg]
      have idem : ∀ (vs : List Nat), (∀ i ∈ vs, i ∈ ownI) → L2.wipe (L2.wipe σ vs) ownI = L2.wipe σ ownI := by
        intro vs
        induction vs with
        | nil => intro _; rfl
        | cons w ws ih =>
          intro hw
          simp only [L2.wipe]
          rw [wipe_set (hw w List.mem_cons_self)]
          exact ih fun i hi => hw i (List.mem_cons_of_mem _ hi)
      exact idem ownI fun i hi => hi
    · have pa := Post.mono hx p1
      have hDρ : D ∉ ρ := (S'.dis D List.mem_cons_self).1
      have q := Post.shown (acc := acc) (E := fun _ _ _ => False) hD hDρ hn' (Post.bind pa)
      rw [← hH] at q
      refine ⟨D :: Z, ρ, σ1, h, S', r2, q.imp fun kk ρ3 h3 H3 x3 S3 q3 => ?_⟩
      obtain ⟨e3, S3', x3', p3⟩ := q3
      have hH3 : upd (hid H3 D) D (.lst acc) = H3 := upd_self e3
      cases kk with
      | false =>
        have p4 := post_now S3' p3
        rw [if_neg (by decide)]
        rw [← hH3]
        exact hN ρ3 h3 (hid H3 D) acc accd hid_self (hx.trans x3') S3' (ra.mono (hx.trans x3')) p4
      | true =>
        rw [if_pos rfl]
        have hDρ3 : D ∉ ρ3 := (S3.dis D List.mem_cons_self).1
        have q4 := Post.shown (acc := acc) (E := fun _ _ _ => False) hD hDρ3 hid_self (Post.bind p3)
        rw [hH3] at q4
        refine ⟨D :: Z, ρ3, σ1, h3, S3, r2.mono x3, q4.imp fun d ρ4 h4 H4 x4 S4 q5 v4 rv4 => ?_⟩
        obtain ⟨e4, S4', x4', p5⟩ := q5
        have p6 : Post W Z ρ4 (hid H4 D) (noX (if accd.length < line then k (accd ++ [d]) h4 else .bad)) Q E := post_now S4' p5
        by_cases hlen : accd.length < line
        · rw [if_pos hlen] at p6
          have hx4 := (hx.trans x3').trans x4'
          refine ⟨acc, e4, by rw [← ra.length, ← line_eq]; exact hlen, ?_⟩
          rw [← upd_hid]
          exact hN ρ4 h4 (hid H4 D) (acc ++ [v4]) (accd ++ [d]) hid_self hx4 S4' ((ra.mono hx4).append (.cons rv4.hid .nil)) p6
        · rw [if_neg hlen] at p6
          exact p6.elim
theorem own_turn {K : PySem.W.Frag} {Z ρ : List Addr} {h : Hh} {H : Hp} {a : Addr} {vs : List V} {ys : List D} {i : Nat} {y : D} (S : Sim W Z ρ h H) (q : H a = some (.lst vs)) (t : RDs W Z ρ H ys vs) (hy : ys[i]? = some y) (hW : it = .enum → W.pl = false := by first | assumption | exact fun e => nomatch e) :
    (jI K it a).go i H ∧ ∀ v H2, (jI K it a).yld i H v H2 → Ext ρ H ρ H2 ∧ Sim W Z ρ h H2 ∧ RD W Z ρ H2 (itmI it i y) v := by
  obtain ⟨v0, ev, rv⟩ := t.get hy
  have sq : SqL K H a vs := SqL.of q
  by_cases hit : it = .enum
  · subst hit
    refine ⟨⟨vs, v0, sq, ev⟩, fun v H2 ⟨T, x, e1, n, e2, hw⟩ => ?_⟩
    subst e1 e2
    have := hw vs sq
    rw [ev] at this
    cases this
    exact pair_ok S n (.int _) rv (hW rfl)
  · have e1 : jI K it a = Itl K a := by cases it <;> first | rfl | exact absurd rfl hit
    have e2 : itmI it i y = y := by cases it <;> first | rfl | exact absurd rfl hit
    rw [e1, e2]
    refine ⟨⟨vs, v0, sq, ev⟩, fun v H2 ⟨e3, hw⟩ => ?_⟩
    subst e3
    have := hw vs sq
    rw [ev] at this
    cases this
    exact ⟨Ext.refl, S, rv⟩
theorem own_stop {K : PySem.W.Frag} {H : Hp} {a : Addr} {vs : List V} {i : Nat} (q : H a = some (.lst vs)) (hi : vs.length ≤ i) : (jI K it a).stop i H := by
  cases it <;> exact ⟨vs, SqL.of q, hi⟩
theorem lcI_read (hK : X.K = W.K) {ownI : List Nat} {F : Nat} (hix : ∀ i ∈ g.ix, i ∈ ownI) {σ : L2.St} {H : Hp} {Q : VK} (p : tE W wx (eLcI f g it fs gb ownI F) σ H Q) (hW : it = .enum → W.pl = false := by assumption) :
    tLc (tIR X.K W wx it fs) (gOf X.K g) (tB W (fun _ _ _ _ => False) gb) (tE W (fun _ _ _ _ => False) f) ownI σ H Q := by
  obtain ⟨Z, ρ, σd, h0, S, rs, p⟩ := p
  refine ⟨Z, ρ, σd, h0, S, rs, (Post.bind p).imp fun d ρ1 h1 H1 x1 S1 p1 => ?_⟩
  cases d <;> first | (exact p1.elim) | skip
  rename_i n
  dsimp only at p1
  by_cases hio : isOwnL h1 n = true
  · rw [if_pos hio] at p1
    obtain ⟨ys0, hy0⟩ := isOwnL_ok hio
    obtain ⟨a, hna, _⟩ := S1.at_ hy0
    refine ⟨n, a, ys0, rfl, hna, hy0, fun D hD => ?_⟩
    have rs1 := rs.mono x1
    have hDZ := (S1.new hD).1
    have pl := Post.bind p1
    refine ⟨fun i m H => ∃ ρ h Hc acc accd, Hc D = none ∧ H = upd Hc D (.lst acc) ∧ Ext ρ1 H1 ρ Hc ∧ Sim W Z ρ h Hc ∧ RDs W Z ρ Hc accd acc ∧
        Post W Z ρ Hc (noX (lcLI n it (lcStep f g gb ownI σd) m i accd h)) (fun (a : List Fw.D) ρ h H => Post W Z ρ H (R.ok (Fw.D.lst a) h) (fun d ρ' _ H' => ∀ v, RD W Z ρ' H' d v → Q v H') (fun cls dd H' => wx cls dd σ H')) (fun cls dd H' => wx cls dd σ H'),
      ⟨F, ρ1, h1, H1, [], [], hD, rfl, Ext.refl, S1, .nil, pl⟩, ?_⟩
    rintro i m H' ⟨ρ2, h2, Hc, acc, accd, n2, e2, x2, S2, ra, p2⟩
    subst e2
    cases m with
    | zero => exact p2.elim
    | succ m =>
      rw [lcLI] at p2
      cases eo : h2[n]? with
      | none => rw [eo] at p2; exact p2.elim
      | some ob =>
        rw [eo] at p2
        cases ob <;> dsimp only at p2 <;> first | (exact p2.elim) | skip
        rename_i ys
        have hna2 : ρ2[n]? = some a := pre_get x2.pre hna
        have SD : Sim W (D :: Z) ρ2 h2 (upd Hc D (.lst acc)) := S2.shown n2
        obtain ⟨vs, q, t⟩ := own_at SD hna2 eo
        cases ey : ys[i]? with
        | none =>
          rw [ey] at p2
          refine .inl ⟨own_stop q (by rw [← t.length]; exact List.getElem?_eq_none_iff.mp ey), ?_⟩
          have p3 : Post W Z ρ2 Hc (R.ok accd h2) (fun (a : List Fw.D) ρ h H => Post W Z ρ H (R.ok (Fw.D.lst a) h) (fun d ρ' _ H' => ∀ v, RD W Z ρ' H' d v → Q v H') (fun cls dd H' => wx cls dd σ H')) (fun cls dd H' => wx cls dd σ H') := p2
          have hl2 := Ext.laid (ρ := ρ2) (o := .lst acc) n2
          have p4 := p3 ρ2 Hc Ext.refl S2
          exact (Post.mono hl2 p4) ρ2 _ Ext.refl (S2.laid n2) (.ref D) (.lst hDZ (S2.new n2).2 upd_same (ra.mono hl2))
        | some y =>
          rw [ey] at p2
          dsimp only at p2
          obtain ⟨go, yl⟩ := own_turn (K := X.K) (it := it) SD q t ey
          refine .inr ⟨go, fun H' => ∃ ρ h Hc acc accd, Hc D = none ∧ H' = upd Hc D (.lst acc) ∧ Ext ρ1 H1 ρ Hc ∧ Sim W Z ρ h Hc ∧ RDs W Z ρ Hc accd acc ∧
            Post W Z ρ Hc (noX (lcLI n it (lcStep f g gb ownI σd) m (i + 1) accd h)) (fun (a : List Fw.D) ρ h H => Post W Z ρ H (R.ok (Fw.D.lst a) h) (fun d ρ' _ H' => ∀ v, RD W Z ρ' H' d v → Q v H') (fun cls dd H' => wx cls dd σ H')) (fun cls dd H' => wx cls dd σ H'),
            fun H' a2 => ⟨m, by omega, a2⟩, fun v H4 hy => ?_⟩
          obtain ⟨x3, S3, rv⟩ := yl v H4 hy
          have hD4 : H4 D = some (.lst acc) := (x3.keep D _ (S2.new n2).2 upd_same).2
          have hH4 : H4 = upd (hid H4 D) D (.lst acc) := (upd_self hD4).symm
          have hx4 : Ext ρ2 Hc ρ2 (hid H4 D) := Ext.hid n2 x3
          exact lc_stepK (Q := fun (a : List Fw.D) ρ h H => Post W Z ρ H (R.ok (Fw.D.lst a) h) (fun d ρ' _ H' => ∀ v, RD W Z ρ' H' d v → Q v H') (fun cls dd H' => wx cls dd σ H')) (E := fun cls dd H' => wx cls dd σ H')
            (k := fun acc h => lcLI n it (lcStep f g gb ownI σd) m (i + 1) acc h) hK hix hDZ n2 S2 (rs1.mono x2) ra hH4 hx4 S3 rv p2 fun ρ' h' Hc' acc' accd' n' x' S' ra' p' => ⟨ρ', h', Hc', acc', accd', n', rfl, x2.trans x', S', ra', p'⟩
  · rw [if_neg hio] at p1
    exact p1.elim
theorem sj_setLcI {F : Nat} {i : Nat} {y : Str} {py spos : Pos} (J : Js X W wx) (hi : IR X W wx tg iter it fs) (ok : BlkOk X.N X.env.scope scope own) (hix : ∀ i ∈ g.ix, i ∈ own.map (·.2)) (hy : X.N[i]? = some y) (hyl : X.env.scope.names.lookup y = some .local)
    (hsw : swapsWith (.ListComp elt [⟨tg, iter, ifs, 0⟩] scope pos) (some (.Name y py)) spos.line X.env = pure true)
    (hg : ∀ (s : Shared) (H : Hp) (C : Addr) (cl : List (Str × Addr)) (fp : List Addr), GJ (X.blk s H scope (compEnvC scope cl C X.env) fp) tg g)
    (ht : ∀ (s : Shared) (H : Hp) (C : Addr) (cl : List (Str × Addr)) (fp : List Addr), CJ (X.blk s H scope (compEnvC scope cl C X.env) fp) W ifs gb)
    (he : ∀ (s : Shared) (H : Hp) (C : Addr) (cl : List (Str × Addr)) (fp : List Addr), EJ (X.blk s H scope (compEnvC scope cl C X.env) fp) W (fun _ _ _ _ => False) elt f)
    (hs : ∀ x, foldedSetIterable iter X.env x = pure x := by intro _; rfl) (hW : it = .enum → W.pl = false := by first | exact fun e => nomatch e | exact fun _ => rfl) :
    SJ X W wx (.Assign [.Name y py] (.ListComp elt [⟨tg, iter, ifs, 0⟩] scope pos) spos) (sSet i (eLcI f g it fs gb (own.map (·.2)) F)) :=
  ⟨fun pins s σ H D I ⟨Z, ρ, σd, h0, S, rs, p⟩ => (ps_setLc J.hc J.hN hy hyl hsw hi ok hg ht he hs).run pins s σ H D I
    (lcI_read J.hK hix ⟨Z, ρ, σd, h0, S, rs, (PostS.of rs p).imp fun d ρ1 h1 H1 x1 S1 p1 v rv => p1.nx S1 ((rs.mono x1).set rv)⟩)⟩
theorem sj_forI {F : Nat} {body : List Stmt} {b : SM} (J : Js X W wx) (hi : IR X W wx tg iter it fs) (hg : GJ X tg g) (hb : SsJ X W wx body b)
    (hs : ∀ x, foldedSetIterable iter X.env x = pure x := by intro _; rfl) (hW : it = .enum → W.pl = false := by first | exact fun e => nomatch e | exact fun _ => rfl) : SJ X W wx (.For tg iter body [] pos) (sForI g it fs b F) := by
  refine ⟨fun pins s σ H D I ⟨Z, ρ, σd, h0, S, rs, p⟩ => (ps_for J.hp J.hc hi hg hb hs).run pins s σ H D I ⟨Z, ρ, σd, h0, S, rs, (PostS.of rs p).imp fun d ρ1 h1 H1 x1 S1 p1 => ?_⟩⟩
  cases d <;> first | (exact p1.elim) | skip
  rename_i n
  dsimp only at p1
  by_cases hio : isOwnL h1 n = true
  · rw [if_pos hio] at p1
    obtain ⟨ys0, hy0⟩ := isOwnL_ok hio
    obtain ⟨a, hna, _⟩ := S1.at_ hy0
    refine ⟨n, a, ys0, rfl, hna, hy0, ?_⟩
    refine ⟨fun i m σ H => ∃ ρ σd h, Ext ρ1 H1 ρ H ∧ Sim W Z ρ h H ∧ RSg W Z ρ H σd σ ∧ PostS W Z ρ H (forLI n it (forB g b) m i σd h) D wx,
      ⟨F, ρ1, σd, h1, Ext.refl, S1, rs.mono x1, p1⟩, fun i m σ H ⟨ρ2, σ2, h2, x2, S2, r2, p2⟩ => ?_⟩
    cases m with
    | zero => exact p2.elim
    | succ m =>
      rw [forLI] at p2
      cases eo : h2[n]? with
      | none => rw [eo] at p2; exact p2.elim
      | some ob =>
        rw [eo] at p2
        cases ob <;> dsimp only at p2 <;> first | (exact p2.elim) | skip
        rename_i ys
        have hna2 : ρ2[n]? = some a := pre_get x2.pre hna
        obtain ⟨vs, q, t⟩ := own_at S2 hna2 eo
        cases ey : ys[i]? with
        | none =>
          rw [ey] at p2
          exact .inl ⟨own_stop q (by rw [← t.length]; exact List.getElem?_eq_none_iff.mp ey), p2.nx S2 r2⟩
        | some y =>
          rw [ey] at p2
          dsimp only at p2
          obtain ⟨go, yl⟩ := own_turn (K := X.K) (it := it) S2 q t ey
          refine .inr ⟨go, fun σ' H' => ∃ ρ σd h, Ext ρ1 H1 ρ H' ∧ Sim W Z ρ h H' ∧ RSg W Z ρ H' σd σ' ∧ PostS W Z ρ H' (forLI n it (forB g b) m (i + 1) σd h) D wx,
            fun σ' H' a2 => ⟨m, by omega, a2⟩, fun v H' hy => ?_⟩
          obtain ⟨x3, S3, rv⟩ := yl v H' hy
          have q := wh_post (N := fun σ' H' => ∃ ρ σd h, Ext ρ1 H1 ρ H' ∧ Sim W Z ρ h H' ∧ RSg W Z ρ H' σd σ' ∧ PostS W Z ρ H' (forLI n it (forB g b) m (i + 1) σd h) D wx) (k := fun σ h => forLI n it (forB g b) m (i + 1) σ h) (p2.mono x3)
            fun ρ' H4 σ' σd' h' S' rs' x4 q => ⟨ρ', σd', h', (x2.trans x3).trans x4, S', rs', q⟩
          unfold forB at q
          cases hb' : bindG σ2 g (itmI it i y) with
          | none => rw [hb'] at q; exact q.elim
          | some σ4 =>
            rw [hb'] at q
            exact bindG_ok J.hK g (r2.mono x3) rv hb' fun σ5 r5 _ => ⟨Z, ρ2, σ4, h2, S3, r5, q⟩
  · rw [if_neg hio] at p1
    exact p1.elim
end
def pairK : D → Option (K1 × D)
  | .tup [k, d] => (key1 k).map fun k => (k, d)
  | _ => none
def asPairs : List D → Option (List (K1 × D))
  | [] => some []
  | x :: xs => (pairK x).bind fun q => (asPairs xs).map (q :: ·)
def mergeP (acc : List (K1 × D)) (kvs : List (K1 × D)) : List (K1 × D) := kvs.foldl (fun acc q => put q.1 q.2 acc) acc
section
variable {X : Cx} {W : Wd} {Z ρ : List Addr} {H : Hp}
theorem pairs_ok : ∀ {xs : List D} {vs : List V} {kvs : List (K1 × D)}, RDs W Z ρ H xs vs → asPairs xs = some kvs →
    ∃ (ps : List Addr) (us : List (Key × V)), vs = ps.map V.ref ∧ Paired (fun p kv => SqT W.K H p [kV kv.1, kv.2]) ps us ∧ RKs W Z ρ H kvs us
  | [], _, _, .nil, e => by simp only [asPairs, Option.some.injEq] at e; subst e; exact ⟨[], [], rfl, .nil, .nil⟩
  | x :: xs, _, kvs, .cons (v := v) (vs := vs) r t, e => by
    simp only [asPairs, Option.bind_eq_some_iff, Option.map_eq_some_iff] at e
    obtain ⟨q, eq, kvs', e1, rfl⟩ := e
    obtain ⟨ps, us, rfl, hp, rk⟩ := pairs_ok t e1
    cases x <;> simp only [pairK] at eq <;> first | (cases eq; done) | skip
    rename_i ds
    match ds, eq with
    | [k, d], eq =>
      simp only [Option.map_eq_some_iff] at eq
      obtain ⟨kk, ek, rfl⟩ := eq
      obtain ⟨a, ws, rfl, ha, tt⟩ := tup_at r
      cases tt with
      | cons r1 tt =>
        cases tt with
        | cons r2 tt =>
          cases tt
          rename_i v1 v2
          have hk : v1 = kV (keyS kk) := by
            cases r1 <;> simp only [key1] at ek <;> first | (cases ek; done) | skip
            · cases ek; rfl
            · cases ek; rfl
          subst hk
          exact ⟨a :: ps, (keyS kk, v2) :: us, rfl, .cons (sqT_of ha) hp, .cons r2 rk⟩
theorem rks_merge {us : List (Key × V)} : ∀ {kvs acc : List (K1 × D)} {ac : List (Key × V)}, RKs W Z ρ H kvs us → RKs W Z ρ H acc ac → RKs W Z ρ H (mergeP acc kvs) (mergeK ac us) := by
  induction us with
  | nil => intro kvs acc ac r r0; cases r; exact r0
  | cons u us ih =>
    intro kvs acc ac r r0
    cases r with
    | @cons k d ds v _ r t => exact ih (kvs := ds) (acc := put k d acc) (ac := putK ac (keyS k) v) t (rks_put r r0)
end
section
variable {X : Cx} {W : Wd} {wx : WX} {a : Expr} {fa : TM} {x : Str}
def rM0 (W : Wd) (f : Hh → D → Option (D × Option (Nat × O))) : V → List V → Hp → VK → Prop := fun x vs H Q => ∃ Z ρ h d r w, vs = [] ∧ Sim W Z ρ h H ∧ RD W Z ρ H d x ∧ f h d = some (r, w) ∧
  ∀ ρ' H' v, Ext ρ H ρ' H' → Sim W Z ρ' (wr h w) H' → RD W Z ρ' H' r v → Q v H'
theorem m_pop0 : MtR X "list.pop" (rM0 W pop0D) := by
  intro pins s σ H x xs v us Q I rx rs ⟨Z, ρ, h, d, r, w, hx, S, rd, hf, hA⟩
  subst hx
  cases rd <;> simp only [pop0D] at hf <;> first | (cases hf; done) | skip
  rename_i ad n hn
  cases eo : h[n]? with
  | none => rw [eo] at hf; cases hf
  | some ob =>
    rw [eo] at hf
    have qo := S.obj n ob ad eo hn
    cases ob <;> dsimp only at hf <;> first | (cases hf; done) | skip
    simp only [Option.map_eq_some_iff] at hf
    obtain ⟨y, e2, e3⟩ := hf
    cases e3
    cases qo with
    | lst qo t =>
      rename_i ds vs
      have x : Ext ρ H ρ (upd H ad (.lst vs.dropLast)) := ext_own hn qo
      have td : RDs W Z ρ H ds.dropLast vs.dropLast := by
        rw [List.dropLast_eq_take, List.dropLast_eq_take, t.length]
        exact t.take
      obtain ⟨_, S'⟩ := S.write hn qo (o := .lst ds.dropLast) (.lst (upd_same (o := .lst vs.dropLast)) (td.mono x))
      obtain ⟨z, ez, rz⟩ := t.get e2
      exact mt_pop pins s σ H _ _ v us Q I rx rs ⟨ad, vs, z, rfl, rfl, qo, by rw [← t.length]; exact ez, hA ρ _ _ x S' (rz.mono x)⟩
theorem ej_m0 {T id : String} {g : Hh → D → Option (D × Option (Nat × O))} {apos cpos : Pos} (pa : PlainAttrs T) (slot : Slot T x id) (hty : typeOf (.builtin id) = pure (.type "method_descriptor")) (hm : MtR X id (rM0 W g))
    (hk : ∀ {Z ρ : List Addr} {h : Hh} {H : Hp} {d : D} {v : V}, Sim W Z ρ h H → RD W Z ρ H d v → (∃ q, g h d = some q) → tyV X.K T v H) (ha : EJ X W wx a fa)
    (hbase : attributeBase a x X.env (eval a X.env) = eval a X.env := by rfl) (hline : (apos.endLine == cpos.line) = true := by rfl) : EJ X W wx (.Call (.Attribute a x apos) [] [] cpos) (eM0 g fa) :=
  ⟨fun pins s σ H Q I ⟨Z, ρ, σd, h0, S, rs, p⟩ => (pe_bm0 pa slot hty hm ha hbase hline).run pins s σ H Q I
    ⟨Z, ρ, σd, h0, S, rs, (Post.bind p).imp fun d ρ1 h1 H1 x1 S1 p1 v rv => by
      cases hg : g h1 d with
      | none => rw [hg] at p1; exact p1.elim
      | some q =>
        obtain ⟨r, w⟩ := q
        rw [hg] at p1
        exact ⟨hk S1 rv ⟨_, hg⟩, Z, ρ1, h1, d, r, w, rfl, S1, rv, hg, fun ρ' H' v' x' S' rv' => p1 ρ' H' x' S' v' rv'⟩⟩⟩
theorem ownL_ty {Z ρ : List Addr} {h : Hh} {H : Hp} {n : Nat} {v : V} (S : Sim W Z ρ h H) (r : RD W Z ρ H (.ref n) v) (e : ∃ ys, h[n]? = some (.lst ys)) : tyV X.K "list" v H := by
  obtain ⟨ys, e⟩ := e
  exact isLst_ty S r (by simp [isLst, asLst, e])
theorem ej_pop0 {apos cpos : Pos} (ha : EJ X W wx a fa) (hbase : attributeBase a "pop" X.env (eval a X.env) = eval a X.env := by rfl) (hline : (apos.endLine == cpos.line) = true := by rfl) : EJ X W wx (.Call (.Attribute a "pop" apos) [] [] cpos) (eM0 pop0D fa) :=
  ej_m0 PySem.F.plainAttrs_list PySem.F.slot_list_pop PySem.F.type_list_pop m_pop0 (fun {Z ρ h H d v} S r ⟨q, e⟩ => by
    cases d <;> simp only [pop0D] at e <;> first | (cases e; done) | skip
    split at e
    · rename_i ys eq; exact ownL_ty S r ⟨ys, eq⟩
    · cases e) ha hbase hline
end
end Fw
end
section
set_option Elab.async false
set_option maxHeartbeats 1000000
namespace Fw
open PySem PySem.Spec PyProof.Rows L2
def isDct (h : Hh) (d : D) : Bool := (asDct h d).isSome
def dpopD (h : Hh) : D → D → Option (D × Option (Nat × O))
  | .ref n, e => match h[n]? with
    | some (.dct kvs) => (key1 e).bind fun k => (look k kvs).map fun d => (d, some (n, .dct (drop1 k kvs)))
    | _ => none
  | _, _ => none
section
variable {W : Wd} {Z ρ : List Addr} {h : Hh} {H : Hp}
theorem key_ok {d : D} {v : V} {k : K1} (r : RD W Z ρ H d v) (e : key1 d = some k) : v = kV (keyS k) := by
  cases r <;> simp only [key1] at e <;> first | (cases e; done) | skip
  · cases e; rfl
  · cases e; rfl
theorem rks_drop {k : K1} : ∀ {kds : List (K1 × D)} {kvs : List (Key × V)}, RKs W Z ρ H kds kvs → RKs W Z ρ H (drop1 k kds) (dropK kvs (keyS k)) := by
  intro kds
  induction kds with
  | nil => intro kvs r; cases r; exact .nil
  | cons q kds ih =>
    intro kvs r
    cases r with
    | @cons k' d' _ v vs r t =>
      have ih' := ih t
      by_cases hk : k' = k
      · subst hk
        simpa [drop1, dropK] using ih'
      · have h1 : ¬ keyS k' = keyS k := fun z => hk (keyS_inj z)
        have e1 : drop1 k ((k', d') :: kds) = (k', d') :: drop1 k kds := by simp [drop1, hk]
        have e2 : dropK ((keyS k', v) :: vs) (keyS k) = (keyS k', v) :: dropK vs (keyS k) := by simp [dropK, h1]
        rw [e1, e2]
        exact .cons r ih'
end
section
variable {X : Cx} {W : Wd} {wx : WX} {a b c : Expr} {fa fb fc : TM} {apos cpos : Pos}
theorem isDct_is {Z ρ : List Addr} {h : Hh} {H : Hp} {d : D} {v : V} (S : Sim W Z ρ h H) (r : RD W Z ρ H d v) (e : isDct h d = true) : ∃ a, v = .ref a ∧ IsD H a := by
  unfold isDct at e
  obtain ⟨kvs, e1⟩ := Option.isSome_iff_exists.mp e
  obtain ⟨a, vs, rfl, q, t⟩ := asDct_ok S r e1
  exact ⟨a, rfl, .inl ⟨_, q⟩⟩
theorem ownD_at {Z ρ : List Addr} {h : Hh} {H : Hp} {n : Nat} {v : V} {kvs : List (K1 × D)} (S : Sim W Z ρ h H) (r : RD W Z ρ H (.ref n) v) (e : h[n]? = some (.dct kvs)) : ∃ a vs, v = .ref a ∧ ρ[n]? = some a ∧ H a = some (.dK vs) ∧ RKs W Z ρ H kvs vs := by
  cases r with
  | ref hn =>
    cases S.obj n _ _ e hn with
    | dct q t => exact ⟨_, _, rfl, hn, q, t⟩
theorem Sim.dropD {Z ρ : List Addr} {h : Hh} {H : Hp} {n : Nat} {ad : Addr} {kvs : List (K1 × D)} {vs : List (Key × V)} (k : K1) (S : Sim W Z ρ h H) (hn : ρ[n]? = some ad) (q : H ad = some (.dK vs)) (t : RKs W Z ρ H kvs vs) :
    Ext ρ H ρ (upd H ad (.dK (dropK vs (keyS k)))) ∧ Sim W Z ρ (h.set n (.dct (drop1 k kvs))) (upd H ad (.dK (dropK vs (keyS k)))) := by
  have x : Ext ρ H ρ (upd H ad (.dK (dropK vs (keyS k)))) := ext_own hn q
  exact S.write hn q (o := .dct (drop1 k kvs)) (.dct (upd_same (o := .dK (dropK vs (keyS k)))) (rks_drop (t.mono x)))
theorem ej_dpop1 (ha : EJ X W wx a fa) (hb : EJ X W wx b fb) (m : M1 X a "pop" apos b cpos := by exact ⟨rfl, rfl, rfl, rfl⟩) : EJ X W wx (.Call (.Attribute a "pop" apos) [b] [] cpos) (eM isDct dpopD fa fb) :=
  ⟨fun pins s σ H Q I ⟨Z, ρ, σd, h0, S, rs, p⟩ => (pe_dpop1 ha hb m).run pins s σ H Q I
    ⟨Z, ρ, σd, h0, S, rs, (Post.bind p).imp fun d ρ1 h1 H1 x1 S1 p1 v rv => by
      by_cases hk : isDct h1 d = true
      · rw [if_pos hk] at p1
        obtain ⟨ad, rfl, hi⟩ := isDct_is S1 rv hk
        refine ⟨ad, rfl, hi, Z, ρ1, σd, h1, S1, rs.mono x1, (Post.bind p1).imp fun e ρ2 h2 H2 x2 S2 p2 u ru => ?_⟩
        cases d <;> simp only [dpopD] at p2 <;> first | (exact p2.elim) | skip
        rename_i n
        cases eo : h2[n]? with
        | none => rw [eo] at p2; exact p2.elim
        | some ob =>
          rw [eo] at p2
          cases ob <;> dsimp only at p2 <;> first | (exact p2.elim) | skip
          rename_i kvs
          cases e2 : key1 e with
          | none => rw [e2] at p2; exact p2.elim
          | some k =>
            rw [e2] at p2
            simp only [Option.bind_some] at p2
            cases e3 : look k kvs with
            | none => rw [e3] at p2; exact p2.elim
            | some w =>
              rw [e3] at p2
              obtain ⟨a2, vs, ea, hn, q, t⟩ := ownD_at S2 (rv.mono x2) eo
              cases ea
              obtain ⟨z, ez, rz⟩ := t.look e3
              obtain ⟨x3, S3⟩ := S2.dropD k hn q t
              exact ⟨vs, keyS k, z, q, key_ok ru e2, ez, p2 ρ2 _ x3 S3 _ (rz.mono x3)⟩
      · rw [if_neg hk] at p1
        exact p1.elim⟩⟩
end
def dPairs : List (TM × TM) → Sg → Hh → R (List (K1 × D))
  | [], _, h => .ok [] h
  | (k, v) :: r, σ, h => (k σ h).bind fun kd h => (v σ h).bind fun d h => match key1 kd with
    | none => .bad
    | some kk => (dPairs r σ h).bind fun qs h => .ok ((kk, d) :: qs) h
def eDisp (ps : List (TM × TM)) : TM := fun σ h => (noX (dPairs ps σ h)).bind fun qs h => .ok (.dct (mergeP [] qs)) h
def eDispN (ps : List (TM × TM)) : TM := fun σ h => (noX (dPairs ps σ h)).bind fun qs h => .ok (.ref h.length) (h ++ [.dct (mergeP [] qs)])
section
variable {W : Wd} {Z ρ ρ' : List Addr} {H H' Hc : Hp} {D : Addr} {h h' : Hh} {o : HO}
theorem Ext.hidO (n : Hc D = none) (x : Ext ρ (upd Hc D o) ρ' H') : Ext ρ Hc ρ' (Fw.hid H' D) :=
  ⟨x.pre, fun a u hr e => by
    have na : a ≠ D := ne_of_none e n
    obtain ⟨h1, h2⟩ := x.keep a u hr (by rw [upd_ne na]; exact e)
    exact ⟨h1, by rw [hid_ne na]; exact h2⟩, fun a od u e => by
    have na : a ≠ D := ne_of_none e n
    rw [hid_ne na]
    exact x.fz a od u (by rw [upd_ne na]; exact e)⟩
theorem RX.hidO {e : Exn} {cls : Value} {dd : Option Addr} (hl : H D = some o) (ho : ∀ gs, o ≠ .xd gs) (r : RX W (D :: Z) ρ H e cls dd) : RX W Z ρ (Fw.hid H D) e cls dd := by
  refine ⟨r.1, ?_⟩
  have r2 := r.2
  cases hf : e.fld with
  | none => rw [hf] at r2; exact r2
  | some d =>
    obtain ⟨f, d⟩ := d
    rw [hf] at r2
    obtain ⟨a, v, e1, e2, e3, e4⟩ := r2
    exact ⟨a, v, e1, by rw [hid_ne (fun z => by rw [z, hl] at e2; cases e2; exact ho _ rfl)]; exact e2, e3, e4.hid⟩
theorem Post.shownO {α : Type} {r : R α} {Q : α → List Addr → Hh → Hp → Prop} (ho : ∀ gs, o ≠ .xd gs) (hD : D ∉ Z) (hρ : D ∉ ρ) (n : Hc D = none) (p : Post W Z ρ Hc r Q fun _ _ _ => False) {E : XK} :
    Post W (D :: Z) ρ (upd Hc D o) r (fun a ρ' h' H' => H' D = some o ∧ Sim W Z ρ' h' (hid H' D) ∧ Ext ρ Hc ρ' (hid H' D) ∧ Q a ρ' h' (hid H' D)) E := by
  cases r with
  | ok a h => exact fun ρ' H' x S => ⟨(x.keep D _ hρ upd_same).2, S.hid hD, Ext.hidO n x, p ρ' (hid H' D) (Ext.hidO n x) (S.hid hD)⟩
  | xn e h =>
    intro ρ' H' cls dd x S rx
    exact (p ρ' (Fw.hid H' D) cls dd (Ext.hidO n x) (S.hid hD) (RX.hidO (x.keep D _ hρ upd_same).2 ho rx)).elim
  | bad => exact p
end
section
variable {X : Cx} {W : Wd} {wx : WX} {pos : Pos}
inductive PsJ (X : Cx) (W : Wd) (wx : WX) : List (Option Expr) → List Expr → List (TM × TM) → Prop
  | nil : PsJ X W wx [] [] []
  | cons {k v : Expr} {ks : List (Option Expr)} {vs : List Expr} {fk fv : TM} {fs : List (TM × TM)} : EJ X W wx k fk → EJ X W wx v fv → PsJ X W wx ks vs fs → PsJ X W wx (some k :: ks) (v :: vs) ((fk, fv) :: fs)
theorem PsJ.pps {ks : List (Option Expr)} {vs : List Expr} {fs : List (TM × TM)} (h : PsJ X W wx ks vs fs) : PPs X pos ks vs (fs.map fun q => (tE W wx q.1, tE W wx q.2)) := by
  induction h with
  | nil => exact pps_nil
  | cons hk hv _ ih => exact pps_cons hk hv ih
theorem PsJ.all {ks : List (Option Expr)} {vs : List Expr} {fs : List (TM × TM)} (h : PsJ X W wx ks vs fs) : ks.all (·.isSome) = true ∧ ks.length = vs.length ∧ ks.length = fs.length := by
  induction h with
  | nil => exact ⟨rfl, rfl, rfl⟩
  | cons _ _ _ ih => exact ⟨by simpa using ih.1, by simp [ih.2.1], by simp [ih.2.2]⟩
theorem pairs_read : ∀ (fs : List (TM × TM)) {σ : L2.St} {H : Hp} {Z ρ : List Addr} {σd : Sg} {h : Hh} {QQ : List (V × V) → Hp → Prop}, Sim W Z ρ h H → RSg W Z ρ H σd σ →
    Post W Z ρ H (dPairs fs σd h) (fun qs ρ' h' H' => ∀ us, RKs W Z ρ' H' qs us → us.length = fs.length → QQ (us.map fun kv => (kV kv.1, kv.2)) H') (fun cls dd H' => wx cls dd σ H') →
    tPairs (fs.map fun q => (tE W wx q.1, tE W wx q.2)) σ H QQ
  | [], σ, H, Z, ρ, σd, h, QQ, S, rs, p => post_now S p [] .nil rfl
  | (fk, fv) :: fs, σ, H, Z, ρ, σd, h, QQ, S, rs, p => by
    refine ⟨Z, ρ, σd, h, S, rs, (Post.bind p).imp fun kd ρ1 h1 H1 x1 S1 p1 v rv => ?_⟩
    refine ⟨Z, ρ1, σd, h1, S1, rs.mono x1, (Post.bind p1).imp fun d ρ2 h2 H2 x2 S2 p2 u ru => ?_⟩
    cases ek : key1 kd with
    | none => rw [ek] at p2; exact p2.elim
    | some kk =>
      rw [ek] at p2
      dsimp only at p2
      have hv := key_ok rv ek
      refine pairs_read fs S2 ((rs.mono x1).mono x2) ((Post.bind p2).imp fun qs ρ3 h3 H3 x3 S3 p3 us rus hl => ?_)
      have := post_now S3 p3 ((keyS kk, u) :: us) (.cons (ru.mono x3) rus) (by simp [hl])
      rw [hv]
      exact this
theorem disp_core {fs : List (TM × TM)} {σ : L2.St} {H : Hp} {Q : VK} {Z ρ : List Addr} {σd : Sg} {h : Hh} (hl : fs.length ≤ 15) (S : Sim W Z ρ h H) (rs : RSg W Z ρ H σd σ)
    (p : Post W Z ρ H (noX (dPairs fs σd h)) (fun qs ρ' h' H' => ∀ us p, RKs W Z ρ' H' qs us → H' p = none → Q (.ref p) (upd H' p (.dK (mergeK [] us)))) fun _ _ _ => False) :
    tDisp (fs.map fun q => (tE W wx q.1, tE W wx q.2)) σ H Q := by
  intro pa hpa
  have hnw := S.new hpa
  have q := Post.shownO (o := .dK []) (E := fun cls dd H' => wx cls dd σ H') (fun gs => by intro e; cases e) hnw.1 hnw.2 hpa (noX_ok' p)
  have hz : ∀ z ∈ pa :: Z, z ∈ Z ∨ H z = none := fun z hz => (List.mem_cons.mp hz).elim (fun e => .inr (by rw [e]; exact hpa)) .inl
  have rs' : RSg W (pa :: Z) ρ (upd H pa (.dK [])) σd σ := ⟨rs.len, fun i d e => by
    obtain ⟨w, e1, r1⟩ := rs.at_ i d e
    exact ⟨w, e1, (r1.reZ hz).mono (Ext.laid hpa)⟩⟩
  refine pairs_read fs (S.shown hpa) rs' (q.imp fun qs ρ1 h1 H1 x1 S1 p1 us rus hlen => ?_)
  obtain ⟨e1, S2, x2, p2⟩ := p1
  refine ⟨e1, us, rfl, by omega, ?_⟩
  have := p2 us pa rus.hid hid_self
  rwa [upd_hid] at this
theorem ej_disp {ks : List (Option Expr)} {vs : List Expr} {fs : List (TM × TM)} (h : PsJ X W wx ks vs fs) (h0 : ks ≠ [] := by decide) (h15 : ks.length ≤ 15 := by decide) : EJ X W wx (.Dict ks vs pos) (eDisp fs) :=
  ⟨fun pins s σ H Q I ⟨Z, ρ, σd, hh, S, rs, p⟩ => (pe_disp h.pps h.all.1 h.all.2.1 h0 h15).run pins s σ H Q I (disp_core (by rw [← h.all.2.2]; exact h15) S rs (by
    unfold eDisp at p
    cases hd : noX (dPairs fs σd hh) with
    | ok qs h1 =>
      rw [hd] at p
      exact fun ρ' H' x S' us pa rus n => p ρ' _ (x.trans (Ext.laid n)) (S'.laid n) (.ref pa) (.dct (S'.new n).1 (S'.new n).2 (Rd.of upd_same) (rks_merge (rus.mono (Ext.laid n)) .nil))
    | xn e h1 => cases hq : dPairs fs σd hh <;> rw [hq] at hd <;> cases hd
    | bad => rw [hd] at p; exact p))⟩
theorem ej_dispN {ks : List (Option Expr)} {vs : List Expr} {fs : List (TM × TM)} (h : PsJ X W wx ks vs fs) (h0 : ks ≠ [] := by decide) (h15 : ks.length ≤ 15 := by decide) : EJ X W wx (.Dict ks vs pos) (eDispN fs) :=
  ⟨fun pins s σ H Q I ⟨Z, ρ, σd, hh, S, rs, p⟩ => (pe_disp h.pps h.all.1 h.all.2.1 h0 h15).run pins s σ H Q I (disp_core (by rw [← h.all.2.2]; exact h15) S rs (by
    unfold eDispN at p
    cases hd : noX (dPairs fs σd hh) with
    | ok qs h1 =>
      rw [hd] at p
      intro ρ' H' x S' us pa rus n
      have S2 := S'.own (o := .dK (mergeK [] us)) (ob := .dct (mergeP [] qs)) n (.dct upd_same (rks_merge (rus.mono (Ext.own n)) .nil))
      exact p (ρ' ++ [pa]) _ (x.trans (Ext.own n)) S2 (.ref pa) (.ref (by rw [← S'.len]; simp))
    | xn e h1 => cases hq : dPairs fs σd hh <;> rw [hq] at hd <;> cases hd
    | bad => rw [hd] at p; exact p))⟩
end
section
variable {X : Cx} {W : Wd} {wx : WX} {a b : Expr} {fa fb : TM} {pos : Pos}
end
end Fw
end
section
namespace Fw
open PySem PySem.Spec PyProof.Rows L2
def isOwnD (h : Hh) : D → Bool
  | .ref n => match h[n]? with
    | some (.dct _) => true
    | _ => false
  | _ => false
section
variable {X : Cx} {W : Wd} {wx : WX} {a b : Expr} {fa fb : TM}
theorem rks_len {Z ρ : List Addr} {H : Hp} : ∀ {kds : List (K1 × D)} {kvs : List (Key × V)}, RKs W Z ρ H kds kvs → kds.length = kvs.length := by
  intro kds
  induction kds with
  | nil => intro kvs r; cases r; rfl
  | cons q kds ih =>
    intro kvs r
    cases r with
    | @cons k' d' _ v vs r t => simp [ih t]
theorem isOwnD_ty {Z ρ : List Addr} {h : Hh} {H : Hp} {d : D} {v : V} (S : Sim W Z ρ h H) (r : RD W Z ρ H d v) (e : isOwnD h d = true) : tyV X.K "dict" v H := by
  cases r <;> simp only [isOwnD] at e <;> first | (cases e; done) | skip
  rename_i ad n hn
  cases eo : h[n]? with
  | none => rw [eo] at e; cases e
  | some ob =>
    rw [eo] at e
    have qo := S.obj n ob ad eo hn
    cases ob <;> dsimp only at e <;> first | (cases e; done) | skip
    cases qo with
    | dct qo t => exact .inr (.inr (.inl ⟨rfl, .inl ⟨_, qo⟩⟩))
end
end Fw
end
section
set_option Elab.async false
set_option maxHeartbeats 1000000
namespace Fw
open PySem PySem.Spec PyProof.Rows L2
section
variable {X : Cx} {W : Wd} {wx : WX} {a b : Expr} {fa fb : TM}
end
end Fw
end
section
set_option Elab.async false
set_option maxHeartbeats 1000000
namespace Fw
open PySem PySem.Spec PyProof.Rows L2
section
variable {X : Cx}
end
section
variable {X : Cx} {W : Wd}
end
section
variable {X : Cx} {W : Wd}
end
section
variable {X : Cx} {W : Wd} {wx : WX}
end
section
variable {X : Cx} {W : Wd} {known : List Nat} {i : Nat} {a : Addr} {oe : Obj} {cls : Value} {dd : Option Addr} {pn : List (Addr × Obj)} {f g : Exn → Hh → Option D} {pos : Pos}
variable {p pe : Pos} {n : Str} {ce : Expr} {cv : V} {u : Value} {l : List Nat}
end
section
variable {X : Cx} {W : Wd} {wx : WX} {e tc : Expr} {b : SM} {body : List Stmt} {x n : Str} {c : Value} {i : Nat} {known cs : List Nat} {t f : Exn → Hh → Option D} {np pos pos' p3 p4 : Pos}
end
end Fw
end
section
set_option Elab.async false
set_option maxHeartbeats 1000000
namespace Fw
open PySem PySem.Spec PyProof.Rows L2
def keysT : List D → Option (List K1)
  | [] => some []
  | d :: ds => (key1 d).bind fun k => (keysT ds).map (k :: ·)
def lookT (k : List K1) : List (List K1 × D) → Option D
  | [] => none
  | q :: r => if q.1 = k then some q.2 else lookT k r
def putT (k : List K1) (d : D) (l : List (List K1 × D)) : List (List K1 × D) := if l.any fun q => decide (q.1 = k) then l.map fun q => if q.1 = k then (q.1, d) else q else l ++ [(k, d)]
section
variable {W : Wd} {Z ρ : List Addr} {H : Hp}
end
def getT (h : Hh) (d : D) (ds : List D) : Option D := match d with
  | .ref n => match h[n]? with
    | some (.dtu kvs) => if ds.length ≤ 100 then (keysT ds).map fun k => (lookT k kvs).getD .non else none
    | _ => none
  | _ => none
section
variable {X : Cx} {W : Wd} {wx : WX} {a e : Expr} {es : List Expr} {fa f : TM} {fs : AM} {pos : Pos}
end
section
variable {X : Cx} {W : Wd} {wx : WX} {b : SM} {body : List Stmt} {x n : Str} {c : Value} {i j : Nat} {v : Bool} {known cs : List Nat} {np pos pos' p1 p2 p3 : Pos}
end
end Fw
end
section
set_option Elab.async false
set_option maxHeartbeats 1000000
namespace Fw
open PySem PySem.Spec PyProof.Rows L2
section
variable {W : Wd} {Z ρ : List Addr} {H : Hp}
end
section
variable {P : Program} {w : World} {K : PySem.W.Frag} {mg : Str → Option Value} {base : Heap} {x qual : Str} {params : Arguments} {body : List Stmt} {scope : Scope} {dvs : List V} {kws : List (Str × V)} {f : Addr} {fd : FuncData} {N ps : List Str} {k : Nat} {W : Wd} {sm : SM}
end
end Fw
end
section
set_option Elab.async false
set_option maxHeartbeats 1000000
namespace Fw
open PySem PySem.Spec PyProof.Rows L2
section
variable {X : Cx} {W : Wd} {wx : WX} {tg e : Expr} {f : TM}
end
section
variable {X : Cx} {W : Wd} {wx : WX} {tg iter : Expr} {pos : Pos} {fs : TM} {g : G}
end
end Fw
end
section
set_option Elab.async false
set_option maxHeartbeats 1000000
namespace Fw
open PySem PySem.Spec PyProof.Rows L2
section
variable {X : Cx} {W : Wd} {known : List Nat} {i : Nat} {a : Addr} {oe : Obj} {cls : Value} {dd : Option Addr} {pn : List (Addr × Obj)} {f g : Exn → Hh → Option D} {pos : Pos}
end
section
variable {X : Cx} {W : Wd} {wx : WX} {k : Nat} {f : Addr} {fd : FuncData} {ps : List Str} {r : List D → Hh → R D} {x : Str} {p pos : Pos} {dds : List D} {dvs : List V} {ds : List Value} {cls : Nat}
end
end Fw
end
section
set_option Elab.async false
set_option maxHeartbeats 1000000
namespace Fw
open PySem PySem.Spec PyProof.Rows L2
def eNewRg (a b : TM) : TM := fun σ h => (a σ h).bind fun d h => (b σ h).bind fun e h => match d, e with
  | .int m, .int n => if 0 ≤ m ∧ m ≤ 16777216 ∧ 0 ≤ n ∧ n ≤ 16777216 then .ok (.ref h.length) (h ++ [.lst (rangeD m (n - m).toNat)]) else .bad
  | _, _ => .bad
theorem rds_rg {W : Wd} {Z ρ : List Addr} {H : Hp} (m : Int) : ∀ l : List Nat, RDs W Z ρ H (l.map fun (i : Nat) => D.int (m + (i : Int))) (l.map fun (i : Nat) => V.int (m + (i : Int)))
  | [] => .nil
  | x :: l => .cons (.int _) (rds_rg m l)
section
variable {X : Cx} {W : Wd} {wx : WX} {a b : Expr} {fa fb : TM} {p1 p2 q1 q2 : Pos}
theorem ej_newRg (hc : X.calm = true) (ha : EJ X W wx a fa) (hb : EJ X W wx b fb) (hl : Gl X "list") (hlm : X.mg "list" = none) (hr : Gl X "range") (hrm : X.mg "range" = none)
    (na : starEach [a, b] X.env = (false, eval a X.env) :: starEach [b] X.env := by rfl) (nb : starEach [b] X.env = (false, eval b X.env) :: starEach [] X.env := by rfl) (hp : (backTo q2 (starEach [b] X.env)).any (·.1) = false := by rfl) :
    EJ X W wx (.Call (.Name "list" p1) [.Call (.Name "range" q1) [a, b] [] q2] [] p2) (eNewRg fa fb) :=
  ⟨fun pins s σ H Q I ⟨Z, ρ, σd, h0, S, rs, p⟩ => (pe_listRg hc hl hlm (prg_2 hr hrm ha hb na nb hp)).run pins s σ H Q I
    ⟨Z, ρ, σd, h0, S, rs, (Post.bind p).imp fun d ρ1 h1 H1 x1 S1 p1 v rv => ⟨Z, ρ1, σd, h1, S1, rs.mono x1, (Post.bind p1).imp fun e ρ2 h2 H2 x2 S2 p2 w rw => by
      cases d <;> cases e <;> first | (exact p2.elim) | skip
      rename_i m n
      dsimp only at p2
      split at p2
      · rename_i hb
        cases rv
        cases rw
        refine ⟨m, n, rfl, rfl, RgOk.of_le hb.1 hb.2.2.2 hb.2.1 hb.2.2.1, fun q nq => ?_⟩
        exact p2 (ρ2 ++ [q]) _ (Ext.own nq) (S2.own (o := .lst (rgV m n)) (ob := .lst (rangeD m (n - m).toNat)) nq (.lst upd_same ((rds_rg m _).mono (Ext.own nq)))) (.ref q) (.ref (by rw [← S2.len]; simp))
      · exact p2.elim⟩⟩⟩
end
def keyD : K1 → D
  | .inl i => .int i
  | .inr t => .str t
def noXS : SR → SR
  | .xn _ _ _ => .bad
  | r => r
structure Lk (H H' : Hp) (a : Addr) (kvs : List (Key × V)) : Prop where
  ne : ∀ b, b ≠ a → H' b = H b
  old : Rd H a (.dK kvs)
  new : Rd H' a (.dK kvs)
section
variable {W : Wd} {Z ρ : List Addr} {H H' : Hp} {a : Addr} {kvs : List (Key × V)}
theorem rd_one {u u' : HO} (h1 : Rd H a u) (h2 : Rd H a u') (m1 : ∀ o v, u ≠ .frz o v) (m2 : ∀ o v, u' ≠ .frz o v) : u' = u := by
  rcases h1 with h1 | ⟨o, h1⟩ <;> rcases h2 with h2 | ⟨o', h2⟩ <;> rw [h1] at h2 <;> cases h2
  · rfl
  · exact absurd rfl (m1 _ _)
  · exact absurd rfl (m2 _ _)
  · rfl
theorem Lk.rd (L : Lk H H' a kvs) {b : Addr} {u : HO} (h : Rd H b u) (m : ∀ o v, u ≠ .frz o v) : Rd H' b u := by
  by_cases e : b = a
  · subst e
    rw [rd_one L.old h (fun _ _ => nofun) m]
    exact L.new
  · rcases h with h | ⟨o, h⟩
    · exact .inl (by rw [L.ne b e]; exact h)
    · exact .inr ⟨o, by rw [L.ne b e]; exact h⟩
theorem Lk.at_ (L : Lk H H' a kvs) {b : Addr} {u : HO} (h : H b = some u) (m : ∀ o v, u ≠ .frz o v) (k : ∀ l, u ≠ .dK l) : H' b = some u := by
  by_cases e : b = a
  · subst e
    exact absurd (rd_one L.old (.inl h) (fun _ _ => nofun) m) (k _)
  · rw [L.ne b e]
    exact h
theorem Lk.tup {W : Wd} (L : Lk H H' a kvs) {b : Addr} {vs : List V} (t : TupAt W H b vs) : TupAt W H' b vs := by
  by_cases hb : b = a
  · subst hb
    exact absurd (rd_one L.old t.rd (fun _ _ => nofun) (fun _ _ => nofun)) nofun
  · refine t.map fun u e => ?_
    rw [L.ne b hb]; exact e
mutual
theorem RD.lk (L : Lk H H' a kvs) : ∀ {d : D} {v : V}, RD W Z ρ H d v → RD W Z ρ H' d v
  | _, _, .non => .non
  | _, _, .bl b => .bl b
  | _, _, .int i => .int i
  | _, _, .str s => .str s
  | _, _, .tup z r q t => .tup z r (L.tup q) (RDs.lk L t)
  | _, _, .tupK k t => .tupK k (RDs.lk L t)
  | _, _, .lst z r q t => .lst z r (L.at_ q (fun _ _ => nofun) (fun _ => nofun)) (RDs.lk L t)
  | _, _, .dct z r q t => .dct z r (L.rd q (fun _ _ => nofun)) (RKs.lk L t)
  | _, _, .obj z r q t => .obj z r (L.at_ q (fun _ _ => nofun) (fun _ => nofun)) (RFs.lk L t)
  | _, _, .ref e => .ref e
  | _, _, .fn f => .fn f
  | _, _, .roi q => .roi (q.elim (fun ⟨z, r, q⟩ => .inl ⟨z, r, L.rd q (fun _ _ => nofun)⟩) .inr)
theorem RDs.lk (L : Lk H H' a kvs) : ∀ {ds : List D} {vs : List V}, RDs W Z ρ H ds vs → RDs W Z ρ H' ds vs
  | _, _, .nil => .nil
  | _, _, .cons r t => .cons (RD.lk L r) (RDs.lk L t)
theorem RKs.lk (L : Lk H H' a kvs) : ∀ {ds : List (K1 × D)} {vs : List (Key × V)}, RKs W Z ρ H ds vs → RKs W Z ρ H' ds vs
  | _, _, .nil => .nil
  | _, _, .cons r t => .cons (RD.lk L r) (RKs.lk L t)
theorem RFs.lk (L : Lk H H' a kvs) : ∀ {ds : List (Nat × D)} {vs : List (Str × V)}, RFs W Z ρ H ds vs → RFs W Z ρ H' ds vs
  | _, _, .nil => .nil
  | _, _, .cons r t => .cons (RD.lk L r) (RFs.lk L t)
end
theorem RSg.lk (L : Lk H H' a kvs) {σd : Sg} {σ : L2.St} (r : RSg W Z ρ H σd σ) : RSg W Z ρ H' σd σ :=
  ⟨r.len, fun i d e => let ⟨v, e1, r1⟩ := r.at_ i d e; ⟨v, e1, r1.lk L⟩⟩
theorem Lk.there (L : Lk H H' a kvs) {b : Addr} (h : ∃ o, H b = some o) : ∃ o, H' b = some o := by
  by_cases e : b = a
  · subst e
    rcases L.new with h | ⟨_, h⟩
    · exact ⟨_, h⟩
    · exact ⟨_, h⟩
  · rw [L.ne b e]
    exact h
theorem Sim.lk (L : Lk H H' a kvs) {h : Hh} (ha : a ∉ ρ) (S : Sim W Z ρ h H) : Sim W Z ρ h H' := by
  refine ⟨S.len, S.nd, fun z hz => ⟨(S.dis z hz).1, L.there (S.dis z hz).2⟩, fun n o b e1 e2 => ?_⟩
  have hb : b ≠ a := fun e => ha (e ▸ List.mem_of_getElem? e2)
  cases S.obj n o b e1 e2 with
  | lst q t => exact .lst (by rw [L.ne b hb]; exact q) (t.lk L)
  | ro q t => exact .ro (L.rd q (fun _ _ => nofun)) (t.lk L)
  | dct q t => exact .dct (by rw [L.ne b hb]; exact q) (t.lk L)
  | ins q t => exact .ins (by rw [L.ne b hb]; exact q) (t.lk L)
  | dtu q e t => exact .dtu (by rw [L.ne b hb]; exact q) e (t.lk L)
  | rod q t => exact .rod (by rw [L.ne b hb]; exact q) (t.lk L)
def endsL (a : Addr) (od : Obj) (u : HO) (D : Ends) : Ends := ⟨fun σ' H' => H' a = some (.frz od u) ∧ D.nx σ' (upd H' a u), fun v H' => H' a = some (.frz od u) ∧ D.rt v (upd H' a u), fun σ' H' => H' a = some (.frz od u) ∧ D.bk σ' (upd H' a u), fun σ' H' => H' a = some (.frz od u) ∧ D.ct σ' (upd H' a u)⟩
theorem PostS.noX {r : SR} {D : Ends} {wx : WX} (p : PostS W Z ρ H (noXS r) D wx) : PostS W Z ρ H r D wx := by
  cases r with
  | xn e σ h1 => exact p.elim
  | _ => exact p
theorem rd_keys : ∀ {kds : List (K1 × D)} {kvs : List (Key × V)}, RKs W Z ρ H kds kvs → ∀ (i : Nat) (d : D), (kds.map fun q => keyD q.1)[i]? = some d → ∃ (k : Key) (v : V), kvs[i]? = some (k, v) ∧ ∀ (Z' ρ' : List Addr) (H' : Hp), RD W Z' ρ' H' d (kV k)
  | _, _, .nil, i, d, e => by simp at e
  | _, _, .cons (k := k) r t, 0, d, e => by
    simp only [List.map_cons, List.getElem?_cons_zero, Option.some.injEq] at e
    subst e
    refine ⟨_, _, rfl, fun Z' ρ' H' => ?_⟩
    cases k with
    | inl i => exact .int i
    | inr t => exact .str t
  | _, _, .cons r t, i + 1, d, e => by
    simp only [List.map_cons, List.getElem?_cons_succ] at e
    exact rd_keys t i d e
theorem RKs.length : ∀ {kds : List (K1 × D)} {kvs : List (Key × V)}, RKs W Z ρ H kds kvs → kds.length = kvs.length
  | _, _, .nil => rfl
  | _, _, .cons r t => by simp [RKs.length t]
end
section
variable {X : Cx} {W : Wd} {wx : WX} {tg : Expr}
end
end Fw
end
section
set_option Elab.async false
set_option maxHeartbeats 1000000
namespace Fw
open PySem PySem.Spec PyProof.Rows L2
def eNewDct (a : TM) : TM := fun σ h => (a σ h).bind fun d h => match asDct h d with
  | some kvs => .ok (.ref h.length) (h ++ [.dct kvs])
  | none => .bad
def rNewD (W : Wd) : List V → Hp → VK → Prop := fun xs H Q => ∃ Z ρ h d kvs v, xs = [v] ∧ Sim W Z ρ h H ∧ RD W Z ρ H d v ∧ asDct h d = some kvs ∧ ∀ ρ' H' v, Ext ρ H ρ' H' → Sim W Z ρ' (h ++ [.dct kvs]) H' → RD W Z ρ' H' (.ref h.length) v → Q v H'
section
variable {X : Cx} {W : Wd} {wx : WX}
theorem cl_newDct : CallR X (.type "dict") (rNewD W) := by
  intro pins s σ H xs us Q I rv ⟨Z, ρ, h, d, kvs, v, hx, S, rd, e, hA⟩
  subst hx
  obtain ⟨a, vs, rfl, q, t⟩ := asDct_ok S rd e
  exact call_dictD pins s σ H _ us Q I rv ⟨a, vs, rfl, q, fun l n => hA (ρ ++ [l]) _ _ (Ext.own n) (S.own (o := .dK vs) (ob := .dct kvs) n (.dct upd_same (t.mono (Ext.own n)))) (.ref (by rw [← S.len]; simp))⟩
theorem newDct_read {fa : TM} {σ : L2.St} {H : Hp} {Q : VK} (p : tE W wx (eNewDct fa) σ H Q) : tA W wx (aCons fa aNil) σ H fun vs H1 => rNewD W vs H1 Q := by
  obtain ⟨Z, ρ, σd, h0, S, rs, p⟩ := p
  refine ⟨Z, ρ, σd, h0, S, rs, ?_⟩
  unfold aCons aNil
  unfold eNewDct at p
  cases hf : fa σd h0 with
  | ok d h1 =>
    rw [hf] at p
    intro ρ' H' x S' vs rvs
    simp only [R.bind_ok] at p
    cases e : asDct h1 d with
    | none => rw [e] at p; exact p.elim
    | some kvs =>
      rw [e] at p
      cases rvs with
      | cons rv t => cases t; exact ⟨Z, ρ', h1, d, kvs, _, rfl, S', rv, e, fun ρ2 H2 v x2 S2 rv2 => p ρ2 H2 (x.trans x2) S2 v rv2⟩
  | xn x h1 => rw [hf] at p; exact p
  | bad => rw [hf] at p; exact p
theorem ej_newDct {a : Expr} {fa : TM} {p pos : Pos} (ha : EJ X W wx a fa) (hg : Gl X "dict" := by rfl) (hm : X.mg "dict" = none := by assumption)
    (he : starEach [a] X.env = (false, eval a X.env) :: starEach [] X.env := by rfl) : EJ X W wx (.Call (.Name "dict" p) [a] [] pos) (eNewDct fa) :=
  ⟨fun pins s σ H Q I q => (pe_callTy (cl_newDct (W := W)) hg hm (by decide +kernel) (aj_cons ha aj_nil he) (by decide) (by decide) he).run pins s σ H Q I (newDct_read q)⟩
end
end Fw
namespace Fw
open PySem PySem.Spec PyProof.Rows L2
section
variable {X : Cx} {W : Wd} {wx : WX} {a b : Expr} {fa fb : TM} {pos : Pos}
end
end Fw
end
section
set_option Elab.async false
set_option maxHeartbeats 1000000
namespace Fw
open PySem PySem.Spec PyProof.Rows L2
abbrev hold (X : Cx) (q : Addr × Obj) : Cx := { X with pn := q :: X.pn }
section
variable {X : Cx} {q : Addr × Obj} {pins : List (Addr × Obj)} {σ : L2.St} {H : Hp} {s : Shared}
end
section
variable {X : Cx} {x1 x2 n m : Str} {c1 c2 : Value} {i j kk : Nat} {body rest : List Stmt} {p1 p2 p3 p4 p5 tp pos pos' : Pos} {tb : WX → TS} {t1 : TS} {ts : Addr → Value → Option Addr → TS}
end
section
variable {X : Cx} {W : Wd} {known : List Nat} {i : Nat} {a : Addr} {oe : Obj} {cls : Value} {dd : Option Addr} {f g : Exn → Hh → Option D} {pos : Pos}
variable {p pe : Pos} {n : Str} {ce : Expr} {cv : V} {u : Value} {l : List Nat}
end
section
variable {X : Cx} {W : Wd} {wx : WX} {e1 tc ef eg : Expr} {b r : SM} {body : List Stmt} {x1 x2 n m : Str} {c1 c2 : Value} {i j jn kk : Nat} {known : List Nat} {t f g : Exn → Hh → Option D}
  {p1 p2 p3 p4 p5 p6 p7 p8 tp pos pos' q1 q2 q3 q4 q5 : Pos}
end
end Fw
end
section
set_option Elab.async false
set_option maxHeartbeats 3200000
namespace Fw
open PySem PySem.Spec PyProof.Rows L2
section
variable {P : Program} {w : World} {A : Around} {E : Value → Shared → Prop} {s : Shared}
end
section
variable {X : Cx}
end
section
variable {X : Cx} {W : Wd} {wx : WX} {a : Expr} {fa : TM} {p p2 pos pos2 : Pos}
end
end Fw
end
section
set_option Elab.async false
set_option maxHeartbeats 1000000
namespace Fw
open PySem PySem.Spec PyProof.Rows L2
section
variable {X : Cx} {W : Wd} {wx : WX} {k : Nat} {f : Addr} {fd : FuncData} {ps : List Str} {sp : Sp} {E : XK}
variable {a : Expr} {fa fb : TM} {p pos : Pos} {cls : Nat} {r : List D → Hh → R D}
theorem op_neD (hu : X.A.units < cLine) : OpR X (compareOp .NotEq) (fun x y H Q => ∃ a b ks ls, x = .ref a ∧ y = .ref b ∧ Rd H a (.dK ks) ∧ Rd H b (.dK ls) ∧ ks.length = ls.length ∧ (∀ p ∈ ks, valV ls p.1 = some p.2 ∧ flatB p.2 = true) ∧ Q (.bl false) H) := by
  intro pins s σ H x y v u Q I rx ry ⟨a, b, ks, ls, hx, hy, ea, eb, hlen, hp, q⟩
  subst hx hy
  cases rx
  cases ry
  obtain ⟨_, ya, va, ra, da⟩ := dk_rd I.hok ea
  obtain ⟨_, yb, vb, rb, db⟩ := dk_rd I.hok eb
  have hl : va.length = vb.length := by
    rw [← ra.length, ← rb.length]
    exact hlen
  exact PySem.W.keq_ne (knd := mixKind X.prog X.w) (r := true) ya yb da db hu
    (fun _ => hits_all rb ra hp) (fin_bl I q (by simp [hl]))
end
section
variable {X : Cx} {W : Wd} {wx : WX} {a b : Expr} {elts : List Expr} {kk : Nat} {tpos p pos pos2 : Pos} {fa fb : TM} {g : G}
end
end Fw
end
section
set_option Elab.async false
set_option maxHeartbeats 1000000
namespace Fw
open PySem PySem.Spec PyProof.Rows L2
def dcL (step : D → Hh → R (Option (K1 × D))) : List D → List (K1 × D) → Hh → R (List (K1 × D))
  | [], acc, h => .ok acc h
  | x :: xs, acc, h => (step x h).bind fun o h => match o with
    | none => dcL step xs acc h
    | some q => if acc.length < line then dcL step xs (put q.1 q.2 acc) h else .bad
def dcStep (kf vf : TM) (g : G) (cond : BM) (own : List Nat) (σ : Sg) (x : D) (h : Hh) : R (Option (K1 × D)) := match bindG (wipe σ own) g x with
  | none => .bad
  | some σ => (cond σ h).bind fun t h => if t then (kf σ h).bind fun kd h => (vf σ h).bind fun d h => match key1 kd with
    | none => .bad
    | some k => .ok (some (k, d)) h else .ok none h
def eDc (kf vf : TM) (g : G) (it : It) (src : AM) (cond : BM) (own : List Nat) : TM := fun σ h => (itM it src σ h).bind fun xs h => (noX (dcL (dcStep kf vf g cond own σ) xs [] h)).bind fun ys h => .ok (.dct ys) h
section
variable {X : Cx} {W : Wd} {wx : WX} {tg iter ke ve : Expr} {ifs : List Expr} {scope : Scope} {own : List (Str × Nat)} {pos : Pos} {kf vf : TM} {gb : BM} {it : It} {src : AM} {g : G}
theorem dc_step {Z ρ : List Addr} {Hc : Hp} {D : Addr} {acc : List (Key × V)} {accd : List (K1 × Fw.D)} {h : Hh} {σd : Sg} {σ : L2.St} {x : Fw.D} {v : V} {ownI : List Nat} {xs : List Fw.D} {Q : List (K1 × Fw.D) → List Addr → Hh → Hp → Prop} {E : XK} {Nx : Hp → Prop}
    (hK : X.K = W.K) (hg : ∀ i ∈ g.ix, i ∈ ownI) (hD : D ∉ Z) (n : Hc D = none) (S : Sim W Z ρ h Hc) (rs : RSg W Z ρ Hc σd σ) (ra : RKs W Z ρ Hc accd acc)
    {H' : Hp} (hH : H' = upd (hid H' D) D (.dK acc)) (hx : Ext ρ Hc ρ (hid H' D)) (S' : Sim W (D :: Z) ρ h H') (rv : RD W (D :: Z) ρ H' x v)
    (p : Post W Z ρ Hc (noX (dcL (dcStep kf vf g gb ownI σd) (x :: xs) accd h)) Q E)
    (hN : ∀ ρ' h' Hc' acc' accd', Hc' D = none → Ext ρ Hc ρ' Hc' → Sim W Z ρ' h' Hc' → RKs W Z ρ' Hc' accd' acc' → Post W Z ρ' Hc' (noX (dcL (dcStep kf vf g gb ownI σd) xs accd' h')) Q E → Nx (upd Hc' D (.dK acc'))) :
    gOf X.K g v (L2.wipe σ ownI) H' fun σ2 H2 => L2.wipe σ2 ownI = L2.wipe σ ownI ∧ tB W (fun _ _ _ _ => False) gb σ2 H2 fun b H3 =>
      if b = true then tE W (fun _ _ _ _ => False) kf σ2 H3 fun y H4 => tE W (fun _ _ _ _ => False) vf σ2 H4 fun z H5 => ∃ kvs k, y = kV k ∧ H5 D = some (.dK kvs) ∧ kvs.length < sizeLine ∧ Nx (upd H5 D (.dK (putK kvs k z))) else Nx H3 := by
  simp only [dcL] at p
  have p1 := noX_bind p
  unfold dcStep at p1
  have ho : ∀ gs, (HO.dK acc) ≠ .xd gs := fun gs => by intro e; cases e
  have hzz : ∀ z ∈ D :: Z, z ∈ Z ∨ Hc z = none := fun z hz => (List.mem_cons.mp hz).elim (fun e => .inr (by rw [e]; exact n)) .inl
  have hn' : hid H' D D = none := hid_self
  have hzz' : ∀ z ∈ D :: Z, z ∈ Z ∨ hid H' D z = none := fun z hz => (List.mem_cons.mp hz).elim (fun e => .inr (by rw [e]; exact hn')) .inl
  have xl : Ext ρ (hid H' D) ρ H' := by
    have := Ext.laid (ρ := ρ) (H := hid H' D) (o := .dK acc) hn'
    rw [← hH] at this
    exact this
  have rs' : RSg W (D :: Z) ρ H' (wipe σd ownI) (L2.wipe σ ownI) := by
    refine RSg.wipe ⟨rs.len, fun i d e => ?_⟩ ownI
    obtain ⟨w, e1, r1⟩ := rs.at_ i d e
    exact ⟨w, e1, ((r1.mono hx).reZ hzz').mono xl⟩
  cases hb : bindG (wipe σd ownI) g x with
  | none => rw [hb] at p1; exact p1.elim
  | some σ1 =>
    rw [hb] at p1
    dsimp only at p1
    refine bindG_ok hK g rs' rv hb fun σ2 r2 hw => ⟨?_, ?_⟩
    · rw [hw ownI hg]
      have idem : ∀ (vs : List Nat), (∀ i ∈ vs, i ∈ ownI) → L2.wipe (L2.wipe σ vs) ownI = L2.wipe σ ownI := by
        intro vs
        induction vs with
        | nil => intro _; rfl
        | cons w ws ih =>
          intro hw
          simp only [L2.wipe]
          rw [wipe_set (hw w List.mem_cons_self)]
          exact ih fun i hi => hw i (List.mem_cons_of_mem _ hi)
      exact idem ownI fun i hi => hi
    · have pa := Post.mono hx p1
      have hDρ : D ∉ ρ := (S'.dis D List.mem_cons_self).1
      have q := Post.shownO (o := .dK acc) (E := fun _ _ _ => False) ho hD hDρ hn' (Post.bind pa)
      rw [← hH] at q
      refine ⟨D :: Z, ρ, σ1, h, S', r2, q.imp fun k ρ3 h3 H3 x3 S3 q3 => ?_⟩
      obtain ⟨e3, S3', x3', p3⟩ := q3
      have hH3 : upd (hid H3 D) D (.dK acc) = H3 := upd_self e3
      cases k with
      | false =>
        have p4 := post_now S3' p3
        rw [if_neg (by decide)]
        rw [← hH3]
        exact hN ρ3 h3 (hid H3 D) acc accd hid_self (hx.trans x3') S3' (ra.mono (hx.trans x3')) p4
      | true =>
        rw [if_pos rfl]
        have hDρ3 : D ∉ ρ3 := (S3.dis D List.mem_cons_self).1
        have q4 := Post.shownO (o := .dK acc) (E := fun _ _ _ => False) ho hD hDρ3 hid_self (Post.bind p3)
        rw [hH3] at q4
        refine ⟨D :: Z, ρ3, σ1, h3, S3, r2.mono x3, q4.imp fun kd ρ4 h4 H4 x4 S4 q5 v4 rv4 => ?_⟩
        obtain ⟨e4, S4', x4', p5⟩ := q5
        have hH4 : upd (hid H4 D) D (.dK acc) = H4 := upd_self e4
        have hDρ4 : D ∉ ρ4 := (S4.dis D List.mem_cons_self).1
        have q6 := Post.shownO (o := .dK acc) (E := fun _ _ _ => False) ho hD hDρ4 hid_self (Post.bind p5)
        rw [hH4] at q6
        refine ⟨D :: Z, ρ4, σ1, h4, S4, (r2.mono x3).mono x4, q6.imp fun d ρ5 h5 H5 x5 S5 q7 v5 rv5 => ?_⟩
        obtain ⟨e5, S5', x5', p7⟩ := q7
        cases ek : key1 kd with
        | none => rw [ek] at p7; exact p7.elim
        | some kk =>
          rw [ek] at p7
          have p8 : Post W Z ρ5 (hid H5 D) (noX (if accd.length < line then dcL (dcStep kf vf g gb ownI σd) xs (put kk d accd) h5 else .bad)) Q E := post_now S5' p7
          have hv := key_ok rv4 ek
          by_cases hlen : accd.length < line
          · rw [if_pos hlen] at p8
            have hx5 := ((hx.trans x3').trans x4').trans x5'
            refine ⟨acc, keyS kk, hv, e5, by rw [← ra.length, ← line_eq]; exact hlen, ?_⟩
            rw [← upd_hid]
            exact hN ρ5 h5 (hid H5 D) (putK acc (keyS kk) v5) (put kk d accd) hid_self hx5 S5' (rks_put rv5.hid (ra.mono hx5)) p8
          · rw [if_neg hlen] at p8
            exact p8.elim
theorem dc_read (hK : X.K = W.K) {ownI : List Nat} (hix : ∀ i ∈ g.ix, i ∈ ownI) {σ : L2.St} {H : Hp} {Q : VK} (p : tE W wx (eDc kf vf g it src gb ownI) σ H Q) :
    tDc (tI W wx it src) (gOf X.K g) (tB W (fun _ _ _ _ => False) gb) (tE W (fun _ _ _ _ => False) kf) (tE W (fun _ _ _ _ => False) vf) ownI σ H Q := by
  obtain ⟨Z, ρ, σd, h0, S, rs, p⟩ := p
  exact
    ⟨Z, ρ, σd, h0, S, rs, (Post.bind p).imp fun xs ρ1 h1 H1 x1 S1 p1 Ji hw D hD => by
      have rs1 := rs.mono x1
      have hDZ := (S1.new hD).1
      have pl := Post.bind p1
      refine ⟨fun i m H => i ≤ xs.length ∧ m = xs.length - i ∧ ∃ ρ h Hc acc accd, Hc D = none ∧ H = upd Hc D (.dK acc) ∧ Ext ρ1 H1 ρ Hc ∧ Sim W Z ρ h Hc ∧ RKs W Z ρ Hc accd acc ∧
          Post W Z ρ Hc (noX (dcL (dcStep kf vf g gb ownI σd) (xs.drop i) accd h)) (fun (a : List (K1 × Fw.D)) ρ h H => Post W Z ρ H (R.ok (Fw.D.dct a) h) (fun d ρ' _ H' => ∀ v, RD W Z ρ' H' d v → Q v H') (fun cls dd H' => wx cls dd σ H')) (fun cls dd H' => wx cls dd σ H'),
        ⟨xs.length, Nat.zero_le _, rfl, ρ1, h1, H1, [], [], hD, rfl, Ext.refl, S1, .nil, pl⟩, ?_⟩
      rintro i m H' ⟨hi, hm, ρ2, h2, Hc, acc, accd, n2, e2, x2, S2, ra, p2⟩
      subst e2
      have hwz : ∀ z ∈ D :: Z, z ∈ Z ∨ H1 z = none := fun z hz => (List.mem_cons.mp hz).elim (fun e => .inr (by rw [e]; exact hD)) .inl
      have xD : Ext ρ1 H1 ρ2 (upd Hc D (.dK acc)) := x2.trans (Ext.laid n2)
      have SD : Sim W (D :: Z) ρ2 h2 (upd Hc D (.dK acc)) := S2.shown n2
      have w := hw (D :: Z) ρ2 h2 _ hwz xD.z SD
      by_cases hE : i = xs.length
      · subst hE
        rw [List.drop_length] at p2
        have p3 := post_now S2 (post_now S2 p2)
        refine .inl ⟨w.2, ?_⟩
        have hl2 := Ext.laid (ρ := ρ2) (o := .dK acc) n2
        have p4 := p2 ρ2 Hc Ext.refl S2
        exact (Post.mono hl2 p4) ρ2 _ Ext.refl (S2.laid n2) (.ref D) (.dct hDZ (S2.new n2).2 (Rd.of upd_same) (ra.mono hl2))
      · have hlt : i < xs.length := by omega
        obtain ⟨go, yl⟩ := w.1 i xs[i] (by simp [hlt])
        rw [List.drop_eq_getElem_cons hlt] at p2
        refine .inr ⟨go, fun H' => i + 1 ≤ xs.length ∧ ∃ ρ h Hc acc accd, Hc D = none ∧ H' = upd Hc D (.dK acc) ∧ Ext ρ1 H1 ρ Hc ∧ Sim W Z ρ h Hc ∧ RKs W Z ρ Hc accd acc ∧
          Post W Z ρ Hc (noX (dcL (dcStep kf vf g gb ownI σd) (xs.drop (i + 1)) accd h)) (fun (a : List (K1 × Fw.D)) ρ h H => Post W Z ρ H (R.ok (Fw.D.dct a) h) (fun d ρ' _ H' => ∀ v, RD W Z ρ' H' d v → Q v H') (fun cls dd H' => wx cls dd σ H')) (fun cls dd H' => wx cls dd σ H'),
          fun H' ⟨a1, a2⟩ => ⟨xs.length - (i + 1), by omega, a1, rfl, a2⟩, fun v H4 hy => ?_⟩
        obtain ⟨x3, S3, rv⟩ := yl v H4 hy
        have hD4 : H4 D = some (.dK acc) := (x3.keep D _ (S2.new n2).2 upd_same).2
        have hH4 : H4 = upd (hid H4 D) D (.dK acc) := (upd_self hD4).symm
        have hx4 : Ext ρ2 Hc ρ2 (hid H4 D) := Ext.hidO n2 x3
        refine dc_step (Q := fun (a : List (K1 × Fw.D)) ρ h H => Post W Z ρ H (R.ok (Fw.D.dct a) h) (fun d ρ' _ H' => ∀ v, RD W Z ρ' H' d v → Q v H') (fun cls dd H' => wx cls dd σ H')) (E := fun cls dd H' => wx cls dd σ H') hK hix hDZ n2 S2 (rs1.mono x2) ra hH4 hx4 S3 rv p2 fun ρ' h' Hc' acc' accd' n' x' S' ra' p' => ?_
        exact ⟨by omega, ρ', h', Hc', acc', accd', n', rfl, x2.trans x', S', ra', p'⟩⟩
theorem ej_dc (J : Js X W wx) (hi : IJ X W wx tg iter it src) (ok : BlkOk X.N X.env.scope scope own) (hix : ∀ i ∈ g.ix, i ∈ own.map (·.2))
    (hg : ∀ (s : Shared) (H : Hp) (C : Addr) (cl : List (Str × Addr)) (fp : List Addr), GJ (X.blk s H scope (compEnvC scope cl C X.env) fp) tg g)
    (ht : ∀ (s : Shared) (H : Hp) (C : Addr) (cl : List (Str × Addr)) (fp : List Addr), CJ (X.blk s H scope (compEnvC scope cl C X.env) fp) W ifs gb)
    (hk : ∀ (s : Shared) (H : Hp) (C : Addr) (cl : List (Str × Addr)) (fp : List Addr), EJ (X.blk s H scope (compEnvC scope cl C X.env) fp) W (fun _ _ _ _ => False) ke kf)
    (he : ∀ (s : Shared) (H : Hp) (C : Addr) (cl : List (Str × Addr)) (fp : List Addr), EJ (X.blk s H scope (compEnvC scope cl C X.env) fp) W (fun _ _ _ _ => False) ve vf)
    (hs : ∀ x, foldedSetIterable iter X.env x = pure x := by intro _; rfl) :
    EJ X W wx (.DictComp ke ve [⟨tg, iter, ifs, 0⟩] scope pos) (eDc kf vf g it src gb (own.map (·.2))) :=
  ⟨fun pins s σ H Q I p => (pe_dc J.hc J.hN hi ok hg ht hk he hs).run pins s σ H Q I (dc_read J.hK hix p)⟩
end
end Fw
end
section
set_option Elab.async false
set_option maxHeartbeats 1000000
namespace Fw
open PySem PySem.Spec PyProof.Rows L2
def headU (h : Heap) : Value → Int
  | .ref a => match h.get? a with
    | some o => (match o.data with
      | .seq xs _ => (match (xs[0]? : Option Value) with
        | some (Value.int i _) => i
        | _ => 0)
      | _ => 0)
    | none => 0
  | _ => 0
def IsHd (h : Heap) (v : Value) (i : Int) : Prop := ∃ a o t n xs, v = .ref a ∧ h.get? a = some o ∧ o.cls = .type "tuple" ∧ o.data = .seq xs n ∧ xs[0]? = some (Value.int i t)
theorem IsHd.keeps {h h' : Heap} {v : Value} {i : Int} (p : IsHd h v i) (k : ∀ b o, h.get? b = some o → o.cls = .type "tuple" → h'.get? b = some o) : IsHd h' v i := by
  obtain ⟨a, o, t, n, xs, e, ho, hc, hd, hx⟩ := p
  exact ⟨a, o, t, n, xs, e, k _ _ ho hc, hc, hd, hx⟩
theorem IsHd.u {h : Heap} {v : Value} {i : Int} (p : IsHd h v i) : headU h v = i := by
  obtain ⟨a, o, t, n, xs, rfl, ho, hc, hd, hx⟩ := p
  simp [headU, ho, hd, hx]
section
variable {prog : Program} {w : World} {A : Around} {s : Shared}
end
section
variable {X : Cx} {W : Wd}
end
end Fw
end
section
set_option Elab.async false
set_option maxHeartbeats 1000000
namespace Fw
open PySem PySem.Spec PyProof.Rows L2
section
variable {X : Cx} {W : Wd} {wx : WX} {a b : Expr} {fa fb : TM}
end
end Fw
end
section
set_option Elab.async false
set_option maxHeartbeats 1000000
namespace Fw
open PySem PySem.Spec PyProof.Rows L2
mutual
def D.noL : D → Bool
  | .non => true
  | .bl _ => true
  | .int _ => true
  | .str _ => true
  | .tup ds => noLs ds
  | _ => false
def noLs : List D → Bool
  | [] => true
  | d :: ds => d.noL && noLs ds
end
section
variable {W : Wd} {Z ρ : List Addr} {H H' : Hp} {h : Hh}
theorem noTup (S : Sim W Z ρ h H) {a : Addr} {vs : List V} (e : TupAt W H a vs) : a ∉ ρ := fun ha => by
  obtain ⟨i, hi⟩ := List.mem_iff_getElem?.mp ha
  have hl : i < h.length := by rw [← S.len]; exact (List.getElem?_eq_some_iff.mp hi).1
  obtain ⟨o, ho⟩ : ∃ o, h[i]? = some o := ⟨h[i], by simp [hl]⟩
  cases S.obj i o a ho hi with
  | lst q _ => exact e.ne q nofun (fun _ => nofun)
  | ro q _ =>
    rcases q with q | ⟨_, q⟩
    · exact e.ne q nofun (fun _ => nofun)
    · exact e.ne q nofun (fun _ => nofun)
  | dct q _ => exact e.ne q nofun (fun _ => nofun)
  | ins q _ => exact e.ne q nofun (fun _ => nofun)
  | dtu q _ _ => exact e.ne q nofun (fun _ => nofun)
  | rod q _ => exact e.ne q nofun (fun _ => nofun)
mutual
theorem RD.noL (S : Sim W Z ρ h H) : ∀ {d : D} {v : V}, d.noL = true → RD W Z [] H d v → RD W Z ρ H d v
  | .non, _, c, .non => .non
  | .bl b, _, c, .bl _ => .bl b
  | .int i, _, c, .int _ => .int i
  | .str s, _, c, .str _ => .str s
  | .tup ds, _, c, .tup z r e t => .tup z (noTup S e) e (RDs.noL S (by simpa [D.noL] using c) t)
  | .tup ds, _, c, .tupK k t => .tupK k (RDs.noL S (by simpa [D.noL] using c) t)
theorem RDs.noL (S : Sim W Z ρ h H) : ∀ {ds : List D} {vs : List V}, noLs ds = true → RDs W Z [] H ds vs → RDs W Z ρ H ds vs
  | _, _, c, .nil => .nil
  | d :: ds, _, c, .cons r t => by
    simp only [noLs, Bool.and_eq_true] at c
    exact .cons (RD.noL S c.1 r) (RDs.noL S c.2 t)
end
end
section
variable {P : Program} {w : World} {K : PySem.W.Frag} {mg : Str → Option Value} {base : Heap} {x qual : Str} {params : Arguments} {body : List Stmt} {scope : Scope} {dvs : List V} {kws : List (Str × V)} {f : Addr} {fd : FuncData} {N ps : List Str} {k : Nat} {W : Wd} {sm : SM}
end
end Fw
end
section
set_option Elab.async false
set_option maxHeartbeats 1000000
namespace FwE
open PySem PySem.Spec PyProof.Rows L2
section
variable {prog : Program} {w : World} {A : Around} {E : Value → Shared → Prop} {s : Shared}
end
end FwE
namespace Fw
open PySem PySem.Spec PyProof.Rows L2 FwE
section
variable {X : Cx} {W : Wd} {wx : WX} {f : TM} {Z ρ : List Addr} {H : Hp} {a : Addr} {vs : List V} {xs : List D}
end
def updX (h : Hh) : D → D → Option (D × Option (Nat × O))
  | .ref n, .dct more => match h[n]? with
    | some (.dct kvs) => if kvs.length + more.length ≤ 1000000 then some (.non, some (n, .dct (mergeP kvs more))) else none
    | _ => none
  | _, _ => none
def rUpdX : V → List V → Hp → VK → Prop := fun x xs H Q => ∃ (a b : Addr) (kvs more : List (Key × V)), x = .ref a ∧ xs = [.ref b] ∧ a ≠ b ∧ H a = some (.dK kvs) ∧ Rd H b (.dK more) ∧ kvs.length + more.length ≤ 1000000 ∧ Q .non (upd H a (.dK (mergeK kvs more)))
section
variable {X : Cx} {W : Wd} {wx : WX} {a b : Expr} {fa fb : TM}
theorem mt_updX : MtR X "dict.update" rUpdX := by
  intro pins s σ H x vs v us Q I rx rv h
  obtain ⟨a, b, kvs, more, rfl, rfl, hab, hA, hB, hz, q⟩ := h
  cases rx
  obtain ⟨u, rfl, ru⟩ := vals1 rv
  cases ru
  obtain ⟨z, hd, vs0, r0, dd⟩ := dk_of I.hok hA
  obtain ⟨z2, hd2, vs2, r2, dd2⟩ := dk_rd I.hok hB
  have l0 := r0.length
  have l2 := r2.length
  refine call_meetsIn PySem.F.slot_dict_update dd.typeIs PySem.F.entry_dict_update (PySem.F.args_dict_update_2 _ _) (meets_dict_update (mixKind X.prog X.w) a b hab hd2)
    ⟨vs0, vs2, dd, dd2, by rw [← l0, ← l2, sizeLine_eq]; omega, fun h' dd' _ hs => ⟨.non, _, ?_, rfl, q⟩⟩
  have he : ∃ q, h'.get? a = some q := let ⟨q, _, _, hq, _⟩ := dd'; ⟨q, hq⟩
  have hl : (mergeK kvs more).length ≤ sizeLine := by
    have := length_mergeK more kvs
    rw [sizeLine_eq]
    omega
  exact d_write I (by rw [hA]; exact True.intro) hs he (dk_new hl hd (r2.merge r0) dd')
theorem m_updX : MtR X "dict.update" (rM W updX) := by
  intro pins s σ H x xs v us Q I rx rs ⟨Z, ρ, h, d, e, r, w, u, hx, S, rd, re, hf, hA⟩
  subst hx
  cases rd <;> simp only [updX] at hf <;> first | (cases hf; done) | skip
  rename_i ad n hn
  cases re <;> simp only [updX] at hf <;> first | (cases hf; done) | skip
  rename_i bd ms us2 bz bρ qm t2
  cases eo : h[n]? with
  | none => rw [eo] at hf; cases hf
  | some ob =>
    rw [eo] at hf
    have qo := S.obj n ob ad eo hn
    cases ob <;> dsimp only at hf <;> first | (cases hf; done) | skip
    split at hf
    · rename_i hl
      cases hf
      cases qo with
      | dct qo t =>
        rename_i ks us1
        have hne : ad ≠ bd := by
          rintro rfl
          exact bρ (List.mem_of_getElem? hn)
        have l1 := rks_len t
        have l2 := rks_len t2
        have x : Ext ρ H ρ (upd H ad (.dK (mergeK us1 us2))) := ext_own hn qo
        obtain ⟨_, S'⟩ := S.write hn qo (o := .dct (mergeP ks ms)) (.dct (upd_same (o := .dK (mergeK us1 us2))) (rks_merge (t2.mono x) (t.mono x)))
        exact mt_updX pins s σ H _ _ v us Q I rx rs ⟨ad, bd, _, _, rfl, rfl, hne, qo, qm, by rw [← l1, ← l2]; exact hl, hA ρ _ _ x S' .non⟩
    · cases hf
theorem ej_updX {apos cpos : Pos} (ha : EJ X W wx a fa) (hb : EJ X W wx b fb)
    (hbase : attributeBase a "update" X.env (eval a X.env) = eval a X.env := by rfl)
    (hfew : ((backTo cpos (starEach [b] X.env)).all (fun x => !x.1) && (backToKw cpos (keywordEach [] X.env)).all (fun x => x.1.isSome)
      && decide ([b].length + ([] : List Keyword).length + (if ([] : List Keyword).isEmpty then 0 else 1) < 30)) = true := by rfl)
    (hline : (apos.endLine == cpos.line) = true := by rfl) (hs : starEach [b] X.env = (false, eval b X.env) :: starEach [] X.env := by rfl) : EJ X W wx (.Call (.Attribute a "update" apos) [b] [] cpos) (eM isOwnD updX fa fb) :=
  ej_m PySem.F.plainAttrs_dict PySem.F.slot_dict_update PySem.F.type_dict_update m_updX isOwnD_ty ha hb hbase hfew hline hs
end
section
variable {X : Cx} {W : Wd} {wx : WX} {tg iter tg1 iter1 elt : Expr} {ifs ifs1 : List Expr} {scope : Scope} {own : List (Str × Nat)} {own1 : List Nat} {pos : Pos} {f : TM} {gb gb1 : BM} {it it1 : It} {src src1 : AM} {g g1 : G}
end
end Fw
end
section
set_option Elab.async false
set_option maxHeartbeats 1000000
namespace Fw
open PySem PySem.Spec PyProof.Rows L2
def CasOk (K : PySem.W.Frag) (W : Wd) : Nat → List Addr → Prop
  | _, [] => True
  | i, a :: as => W.ca i = a ∧ Cls K a ∧ CasOk K W (i + 1) as
theorem CasOk.at_ {K : PySem.W.Frag} {W : Wd} : ∀ {as : List Addr} {i c : Nat} {a : Addr}, CasOk K W i as → as[c]? = some a → W.ca (i + c) = a ∧ Cls K a
  | [], i, c, a, _, h => by simp at h
  | b :: as, i, c, a, hc, h => by
    obtain ⟨h1, h2, h3⟩ := hc
    cases c with
    | zero =>
      simp at h
      subst h
      exact ⟨h1, h2⟩
    | succ c =>
      have := CasOk.at_ (c := c) h3 (by simpa using h)
      rwa [show i + (c + 1) = i + 1 + c by omega]
section
variable {X : Cx} {W : Wd} {wx : WX} {k cls : Nat} {f : Addr} {ps : List Str} {r : List D → Hh → R D} {a b : Expr} {fa fb : TM} {pos : Pos}
end
section
variable {X : Cx} {W : Wd} {wx : WX} {Z ρ : List Addr} {h : Hh} {H : Hp} {pins : List (Addr × Obj)} {σ : L2.St} {s : Shared}
end
section
variable {X : Cx} {W : Wd} {wx : WX}
end
section
variable {X : Cx} {W : Wd} {wx : WX} {k cls : Nat} {f : Addr} {ps : List Str} {r : List D → Hh → R D} {a : Expr} {fa : TM} {p pos : Pos}
end
end Fw
end
section
set_option Elab.async false
set_option maxHeartbeats 1000000
namespace Fw
open PySem PySem.Spec PyProof.Rows L2
def extD (h : Hh) : D → D → Option (D × Option (Nat × O))
  | .ref n, .lst ys => match h[n]? with
    | some (.lst xs) => if xs.length + ys.length ≤ line then some (.non, some (n, .lst (xs ++ ys))) else none
    | _ => none
  | _, _ => none
section
variable {X : Cx} {W : Wd} {wx : WX} {a b : Expr} {fa fb : TM}
theorem m_ext : MtR X "list.extend" (rM W extD) := by
  intro pins s σ H x xs v us Q I rx rs ⟨Z, ρ, h, d, e, r, w, u, hx, S, rd, re, hf, hA⟩
  subst hx
  cases rd <;> simp only [extD] at hf <;> first | (cases hf; done) | skip
  rename_i ad n hn
  cases re <;> simp only [extD] at hf <;> first | (cases hf; done) | skip
  rename_i bd ms us2 bz bρ qm t2
  cases eo : h[n]? with
  | none => rw [eo] at hf; cases hf
  | some ob =>
    rw [eo] at hf
    have qo := S.obj n ob ad eo hn
    cases ob <;> dsimp only at hf <;> first | (cases hf; done) | skip
    split at hf
    · rename_i hl
      cases hf
      cases qo with
      | lst qo t =>
        rename_i ds vs
        have x : Ext ρ H ρ (upd H ad (.lst (vs ++ us2))) := ext_own hn qo
        obtain ⟨_, S'⟩ := S.write hn qo (o := .lst (ds ++ ms)) (.lst (upd_same (o := .lst (vs ++ us2))) ((t.mono x).append (t2.mono x)))
        exact mt_extend pins s σ H _ _ v us Q I rx rs ⟨ad, bd, vs, us2, rfl, rfl, qo, qm, by rw [← t.length, ← t2.length, ← line_eq]; exact hl, hA ρ _ _ x S' .non⟩
    · cases hf
end
section
variable {X : Cx} {W : Wd} {wx : WX} {a b : Expr} {fa fb : TM}
theorem ej_ext {apos cpos : Pos} (ha : EJ X W wx a fa) (hb : EJ X W wx b fb)
    (hbase : attributeBase a "extend" X.env (eval a X.env) = eval a X.env := by rfl)
    (hfew : ((backTo cpos (starEach [b] X.env)).all (fun x => !x.1) && (backToKw cpos (keywordEach [] X.env)).all (fun x => x.1.isSome)
      && decide ([b].length + ([] : List Keyword).length + (if ([] : List Keyword).isEmpty then 0 else 1) < 30)) = true := by rfl)
    (hline : (apos.endLine == cpos.line) = true := by rfl) (hs : starEach [b] X.env = (false, eval b X.env) :: starEach [] X.env := by rfl) : EJ X W wx (.Call (.Attribute a "extend" apos) [b] [] cpos) (eM isLst extD fa fb) :=
  ej_m PySem.F.plainAttrs_list PySem.F.slot_list_extend PySem.F.type_list_extend m_ext isLst_ty ha hb hbase hfew hline hs
end
section
variable {X : Cx} {W : Wd} {wx : WX} {k cls n n0 : Nat} {f : Addr} {ps : List Str} {r : List D → Hh → R D} {m : Str} {pos apos : Pos} {e o : Expr} {es : List Expr} {fs fk : AM} {fo : TM} {kws : List Keyword} {ks : List Str} {gV : List V → List V → List V} {gD : List D → List D → List D} {pl : Sem Bool}
end
end Fw
end
section
set_option Elab.async false
set_option maxHeartbeats 1000000
namespace Fw
open PySem PySem.Spec PyProof.Rows L2
def eNewO (g : Hh → D → Option O) (a : TM) : TM := fun σ h => (a σ h).bind fun d h => match g h d with
  | some o => .ok (.ref h.length) (h ++ [o])
  | none => .bad
def rNewO (W : Wd) (g : Hh → D → Option O) : List V → Hp → VK → Prop := fun xs H Q => ∃ Z ρ h d o v, xs = [v] ∧ Sim W Z ρ h H ∧ RD W Z ρ H d v ∧ g h d = some o ∧ ∀ ρ' H' v, Ext ρ H ρ' H' → Sim W Z ρ' (h ++ [o]) H' → RD W Z ρ' H' (.ref h.length) v → Q v H'
section
variable {X : Cx} {W : Wd} {wx : WX} {g : Hh → D → Option O}
theorem newO_read {fa : TM} {σ : L2.St} {H : Hp} {Q : VK} (p : tE W wx (eNewO g fa) σ H Q) : tA W wx (aCons fa aNil) σ H fun vs H1 => rNewO W g vs H1 Q := by
  obtain ⟨Z, ρ, σd, h0, S, rs, p⟩ := p
  refine ⟨Z, ρ, σd, h0, S, rs, ?_⟩
  unfold aCons aNil
  unfold eNewO at p
  cases hf : fa σd h0 with
  | ok d h1 =>
    rw [hf] at p
    intro ρ' H' x S' vs rvs
    simp only [R.bind_ok] at p
    cases e : g h1 d with
    | none => rw [e] at p; exact p.elim
    | some o =>
      rw [e] at p
      cases rvs with
      | cons rv t => cases t; exact ⟨Z, ρ', h1, d, o, _, rfl, S', rv, e, fun ρ2 H2 v x2 S2 rv2 => p ρ2 H2 (x.trans x2) S2 v rv2⟩
  | xn x h1 => rw [hf] at p; exact p
  | bad => rw [hf] at p; exact p
end
section
variable {X : Cx} {W : Wd} {wx : WX} {g : Hh → D → Option O} {a : Expr} {fa : TM} {x : Str} {id T : String} {p pos : Pos}
theorem ej_nOT (hc : CallR X (.type T) (rNewO W g)) (ha : EJ X W wx a fa) (hv : bootBuiltins x = some (.type T)) (hg : Gl X x := by rfl) (hm : X.mg x = none := by assumption) (hn : x ≠ "__name__" := by decide) (hdb : (x == ("__debug__" : Str)) = false := by decide)
    (he : starEach [a] X.env = (false, eval a X.env) :: starEach [] X.env := by rfl) : EJ X W wx (.Call (.Name x p) [a] [] pos) (eNewO g fa) :=
  ⟨fun pins s σ H Q I q => (pe_callTy hc hg hm hv (aj_cons ha aj_nil he) hn hdb he).run pins s σ H Q I (newO_read q)⟩
end
section
variable {X : Cx} {W : Wd} {wx : WX} {a : Expr} {fa : TM}
end
section
variable {X : Cx} {W : Wd} {wx : WX} {a b : Expr} {fa fb : TM} {p1 p2 q1 q2 : Pos}
end
section
variable {X : Cx} {W : Wd} {wx : WX} {tg a b c : Expr} {f f2 f3 : TM} {p pos : Pos}
end
end Fw
end
section
set_option Elab.async false
set_option maxHeartbeats 1000000
namespace Fw
open PySem PySem.Spec PyProof.Rows L2
def unrod (n : Nat) (h : Hh) : Option Hh := match h[n]? with
  | some (.rod kvs) => some (h.set n (.dct kvs))
  | _ => none
def unrodS (n : Nat) : SR → SR
  | .nx σ h => (match unrod n h with
    | some h => .nx σ h
    | none => .bad)
  | .bk σ h => (match unrod n h with
    | some h => .bk σ h
    | none => .bad)
  | .ct σ h => (match unrod n h with
    | some h => .ct σ h
    | none => .bad)
  | .rt d h => (match unrod n h with
    | some h => .rt d h
    | none => .bad)
  | _ => .bad
section
variable {W : Wd} {Z ρ ρ' : List Addr} {h h1 : Hh} {H H' : Hp} {a : Addr} {od : Obj} {kvs : List (Key × V)} {kds : List (K1 × D)} {n : Nat}
theorem OR.lkO (L : Lk H H' a kvs) {b : Addr} (hb : b ≠ a) {o : O} (r : OR W Z ρ H b o) : OR W Z ρ H' b o := by
  cases r with
  | lst q t => exact .lst (by rw [L.ne b hb]; exact q) (t.lk L)
  | ro q t => exact .ro (L.rd q (fun _ _ => nofun)) (t.lk L)
  | dct q t => exact .dct (by rw [L.ne b hb]; exact q) (t.lk L)
  | ins q t => exact .ins (by rw [L.ne b hb]; exact q) (t.lk L)
  | dtu q e t => exact .dtu (by rw [L.ne b hb]; exact q) e (t.lk L)
  | rod q t => exact .rod (by rw [L.ne b hb]; exact q) (t.lk L)
theorem Sim.rodSet (S : Sim W Z ρ h H) (L : Lk H H' a kvs) (hn : ρ[n]? = some a) {o : O} (r : OR W Z ρ H' a o) : Sim W Z ρ (h.set n o) H' := by
  refine ⟨by rw [List.length_set]; exact S.len, S.nd, fun z hz => ⟨(S.dis z hz).1, L.there (S.dis z hz).2⟩, fun m u b e1 e2 => ?_⟩
  by_cases hmn : n = m
  · subst hmn
    have hl : n < h.length := by rw [← S.len]; exact (List.getElem?_eq_some_iff.mp hn).1
    rw [List.getElem?_set_self hl] at e1
    rw [hn] at e2
    cases e1; cases e2
    exact r
  · rw [List.getElem?_set_ne hmn] at e1
    exact (S.obj m u b e1 e2).lkO L fun z => hmn (nodup_inj S.nd hn (z ▸ e2))
theorem lk_in (q : H a = some (.dK kvs)) : Lk H (upd H a (.frz od (.dK kvs))) a kvs := ⟨fun b hb => upd_ne hb, .inl q, .inr ⟨od, upd_same⟩⟩
theorem lk_out (q : H a = some (.frz od (.dK kvs))) : Lk H (upd H a (.dK kvs)) a kvs := ⟨fun b hb => upd_ne hb, .inr ⟨od, q⟩, .inl upd_same⟩
theorem Sim.rodIn (S : Sim W Z ρ h H) (hn : ρ[n]? = some a) (q : H a = some (.dK kvs)) (t : RKs W Z ρ H kds kvs) : Sim W Z ρ (h.set n (.rod kds)) (upd H a (.frz od (.dK kvs))) :=
  S.rodSet (lk_in q) hn (.rod upd_same (t.lk (lk_in q)))
theorem Sim.rodOut (S : Sim W Z ρ h H) (hn : ρ[n]? = some a) (q : H a = some (.frz od (.dK kvs))) (e : unrod n h = some h1) : Sim W Z ρ h1 (upd H a (.dK kvs)) := by
  unfold unrod at e
  split at e
  · rename_i kds eq
    cases e
    cases S.obj n _ a eq hn with
    | rod q2 t =>
      rw [q] at q2
      cases q2
      exact S.rodSet (lk_out q) hn (.dct upd_same (t.lk (lk_out q)))
  · cases e
theorem ext_rod (x : Ext ρ (upd H a (.frz od (.dK kvs))) ρ' H') (hn : ρ[n]? = some a) (q : H a = some (.dK kvs)) : Ext ρ H ρ' (upd H' a (.dK kvs)) := by
  have hm : a ∈ ρ := List.mem_of_getElem? hn
  refine ⟨x.pre, fun b o hb e => ?_, fun b od' w e => ?_⟩
  · have hb' : b ≠ a := fun z => hb (z ▸ hm)
    obtain ⟨j1, j2⟩ := x.keep b o hb (by rw [upd_ne hb']; exact e)
    exact ⟨j1, by rw [upd_ne hb']; exact j2⟩
  · have hb' : b ≠ a := fun z => by rw [z, q] at e; cases e
    rw [upd_ne hb']
    exact x.fz b od' w (by rw [upd_ne hb']; exact e)
theorem walks_keys (hf : H a = some (.frz od (.dK kvs))) (t : RKs W Z ρ H kds kvs) : Walks W Z ρ H (Itk a od kvs) (kds.map fun q => keyD q.1) := by
  intro Z' ρ' h' H' hz x S
  have hf' := x.fz a od _ hf
  refine ⟨fun i d e => ?_, hf', by rw [List.length_map, t.length]; exact Nat.le_refl _⟩
  obtain ⟨k, v, ek, rk⟩ := rd_keys t i d e
  refine ⟨⟨hf', (List.getElem?_eq_some_iff.mp ek).1⟩, fun w H2 ⟨e2, k', v', hk, hw⟩ => ?_⟩
  subst e2 hw
  rw [ek] at hk
  cases hk
  exact ⟨Ext.refl, S, rk Z' ρ' _⟩
end
section
variable {X : Cx} {W : Wd} {wx : WX} {tg : Expr}
end
def eLcN (elt : TM) (g : G) (it : It) (src : AM) (cond : BM) (own : List Nat) : TM := fun σ h => (itM it src σ h).bind fun xs h => (noX (lcL (lcStep elt g cond own σ) xs [] h)).bind fun ys h => .ok (.ref h.length) (h ++ [.lst ys])
section
variable {X : Cx} {W : Wd} {wx : WX} {tg iter elt : Expr} {ifs : List Expr} {scope : Scope} {own : List (Str × Nat)} {pos : Pos} {f : TM} {gb : BM} {it : It} {src : AM} {g : G}
theorem lcN_read (hK : X.K = W.K) {ownI : List Nat} (hix : ∀ i ∈ g.ix, i ∈ ownI) {σ : L2.St} {H : Hp} {Q : VK} (p : tE W wx (eLcN f g it src gb ownI) σ H Q) :
    tLc (tI W wx it src) (gOf X.K g) (tB W (fun _ _ _ _ => False) gb) (tE W (fun _ _ _ _ => False) f) ownI σ H Q := by
  obtain ⟨Z, ρ, σd, h0, S, rs, p⟩ := p
  exact
    ⟨Z, ρ, σd, h0, S, rs, (Post.bind p).imp fun xs ρ1 h1 H1 x1 S1 p1 Ji hw D hD => by
      have rs1 := rs.mono x1
      have hDZ := (S1.new hD).1
      have pl := Post.bind p1
      refine ⟨fun i m H => i ≤ xs.length ∧ m = xs.length - i ∧ ∃ ρ h Hc acc accd, Hc D = none ∧ H = upd Hc D (.lst acc) ∧ Ext ρ1 H1 ρ Hc ∧ Sim W Z ρ h Hc ∧ RDs W Z ρ Hc accd acc ∧
          Post W Z ρ Hc (noX (lcL (lcStep f g gb ownI σd) (xs.drop i) accd h)) (fun (a : List Fw.D) ρ h H => Post W Z ρ H (R.ok (Fw.D.ref h.length) (h ++ [Fw.O.lst a])) (fun d ρ' _ H' => ∀ v, RD W Z ρ' H' d v → Q v H') (fun cls dd H' => wx cls dd σ H')) (fun cls dd H' => wx cls dd σ H'),
        ⟨xs.length, Nat.zero_le _, rfl, ρ1, h1, H1, [], [], hD, rfl, Ext.refl, S1, .nil, pl⟩, ?_⟩
      rintro i m H' ⟨hi, hm, ρ2, h2, Hc, acc, accd, n2, e2, x2, S2, ra, p2⟩
      subst e2
      have hwz : ∀ z ∈ D :: Z, z ∈ Z ∨ H1 z = none := fun z hz => (List.mem_cons.mp hz).elim (fun e => .inr (by rw [e]; exact hD)) .inl
      have xD : Ext ρ1 H1 ρ2 (upd Hc D (.lst acc)) := x2.trans (Ext.laid n2)
      have SD : Sim W (D :: Z) ρ2 h2 (upd Hc D (.lst acc)) := S2.shown n2
      have w := hw (D :: Z) ρ2 h2 _ hwz xD.z SD
      by_cases hE : i = xs.length
      · subst hE
        rw [List.drop_length] at p2
        refine .inl ⟨w.2, ?_⟩
        have p4 := p2 ρ2 Hc Ext.refl S2
        exact p4 (ρ2 ++ [D]) _ (Ext.own n2) (S2.own (o := .lst acc) (ob := .lst _) n2 (.lst upd_same (ra.mono (Ext.own n2)))) (.ref D) (.ref (by rw [← S2.len]; simp))
      · have hlt : i < xs.length := by omega
        obtain ⟨go, yl⟩ := w.1 i xs[i] (by simp [hlt])
        rw [List.drop_eq_getElem_cons hlt] at p2
        refine .inr ⟨go, fun H' => i + 1 ≤ xs.length ∧ ∃ ρ h Hc acc accd, Hc D = none ∧ H' = upd Hc D (.lst acc) ∧ Ext ρ1 H1 ρ Hc ∧ Sim W Z ρ h Hc ∧ RDs W Z ρ Hc accd acc ∧
          Post W Z ρ Hc (noX (lcL (lcStep f g gb ownI σd) (xs.drop (i + 1)) accd h)) (fun (a : List Fw.D) ρ h H => Post W Z ρ H (R.ok (Fw.D.ref h.length) (h ++ [Fw.O.lst a])) (fun d ρ' _ H' => ∀ v, RD W Z ρ' H' d v → Q v H') (fun cls dd H' => wx cls dd σ H')) (fun cls dd H' => wx cls dd σ H'),
          fun H' ⟨a1, a2⟩ => ⟨xs.length - (i + 1), by omega, a1, rfl, a2⟩, fun v H4 hy => ?_⟩
        obtain ⟨x3, S3, rv⟩ := yl v H4 hy
        have hD4 : H4 D = some (.lst acc) := (x3.keep D _ (S2.new n2).2 upd_same).2
        have hH4 : H4 = upd (hid H4 D) D (.lst acc) := (upd_self hD4).symm
        have hx4 : Ext ρ2 Hc ρ2 (hid H4 D) := Ext.hid n2 x3
        refine lc_step (Q := fun (a : List Fw.D) ρ h H => Post W Z ρ H (R.ok (Fw.D.ref h.length) (h ++ [Fw.O.lst a])) (fun d ρ' _ H' => ∀ v, RD W Z ρ' H' d v → Q v H') (fun cls dd H' => wx cls dd σ H')) (E := fun cls dd H' => wx cls dd σ H') hK hix hDZ n2 S2 (rs1.mono x2) ra hH4 hx4 S3 rv p2 fun ρ' h' Hc' acc' accd' n' x' S' ra' p' => ?_
        exact ⟨by omega, ρ', h', Hc', acc', accd', n', rfl, x2.trans x', S', ra', p'⟩⟩
theorem ej_lcN (J : Js X W wx) (hi : IJ X W wx tg iter it src) (ok : BlkOk X.N X.env.scope scope own) (hix : ∀ i ∈ g.ix, i ∈ own.map (·.2))
    (hg : ∀ (s : Shared) (H : Hp) (C : Addr) (cl : List (Str × Addr)) (fp : List Addr), GJ (X.blk s H scope (compEnvC scope cl C X.env) fp) tg g)
    (ht : ∀ (s : Shared) (H : Hp) (C : Addr) (cl : List (Str × Addr)) (fp : List Addr), CJ (X.blk s H scope (compEnvC scope cl C X.env) fp) W ifs gb)
    (he : ∀ (s : Shared) (H : Hp) (C : Addr) (cl : List (Str × Addr)) (fp : List Addr), EJ (X.blk s H scope (compEnvC scope cl C X.env) fp) W (fun _ _ _ _ => False) elt f)
    (hs : ∀ x, foldedSetIterable iter X.env x = pure x := by intro _; rfl) :
    EJ X W wx (.ListComp elt [⟨tg, iter, ifs, 0⟩] scope pos) (eLcN f g it src gb (own.map (·.2))) :=
  ⟨fun pins s σ H Q I p => (pe_lc J.hc J.hN hi ok hg ht he hs).run pins s σ H Q I (lcN_read J.hK hix p)⟩
end
end Fw
end
section
set_option Elab.async false
set_option maxHeartbeats 1000000
namespace Fw
open PySem PySem.Spec PyProof.Rows L2
section
variable {X : Cx} {W : Wd}
end
end Fw
end
section
set_option Elab.async false
set_option maxHeartbeats 1000000
namespace L2
open PySem PySem.Spec PyProof.Rows
section
variable {X : Cx}
end
end L2
namespace Fw
open PySem PySem.Spec PyProof.Rows L2
section
variable {X : Cx} {W : Wd} {wx : WX} {a b : Expr} {fa fb : TM}
end
end Fw
end
section
set_option Elab.async false
set_option maxHeartbeats 1000000
namespace Fw
open PySem PySem.Spec PyProof.Rows L2
structure Ld (X : Cx) (pins : List (Addr × Obj)) (σ : L2.St) (H : Hp) (cls : Value) (d : Option Addr) (a : Addr) (B : Heap) (sI s : Shared) : Prop where
  J : Inv X pins σ H sI
  nb : ∀ b o, sI.heap.get? b = some o → b ∉ frs X.stack → B.get? b = some o
  fl : HandSPX.FlyingZ B (X.env :: X.outer) a (Zc cls d) s.heap
  up : sI.heap.UpToSlots s.heap
  na : H a = none
  os : s.os = sI.os
  ag : AllBare s.gens
structure HsJ (X : Cx) (hs : List ExceptHandler) (w : Ends → WX) : Prop where
  run : ∀ {pins : List (Addr × Obj)} {σ : L2.St} {H : Hp} {cls : Value} {d : Option Addr} {a : Addr} {B : Heap} {sI s : Shared} {D : Ends}, Ld X pins σ H cls d a B sI s → w D cls d σ H → wpAny (model X.prog X.w) X.A (handleBy (.ref a) X.env hs) (SP X pins D) X.xe s
section
variable {X : Cx} {x n : Str} {c : Value} {i : Nat} {body suite : List Stmt} {b₀ : Stmt} {np pos pos' : Pos} {tb : WX → TS} {ts : Addr → Value → Option Addr → TS} {Wout : WX} {w : Ends → WX} {hs : List ExceptHandler}
theorem hs_nil (hst : X.stack = X.env :: X.outer) (hf : X.env.frame = some X.env.locals) (tk : Takes X Wout) : HsJ X [] (fun _ => Wout) := by
  refine ⟨fun {pins σ H cls d a B sI s D} L hw => ?_⟩
  obtain ⟨J, nb, fl3, up3, na, os, ag⟩ := L
  refine wpAny_handleBy_nil ?_
  obtain ⟨k1, k2, k3, oe, vs, T, oT, ts', he, hz, hd, h1, hr⟩ := id fl3
  unfold PySem.passOn
  refine wpAny_bind (wpAny_field he hd h1 ?_)
  rw [if_neg (show ¬ ((Value.ref T == Value.none) = true) from by simp)]
  have fin : wpAny (model X.prog X.w) X.A (setFlight (.ref a) X.env.frame) (fun _ s4 => wpAny (model X.prog X.w) X.A (throw (.ref a) : Sem Flow) (SP X pins D) X.xe s4) X.xe s := by
    rw [hf]
    refine HandSPX.setFlight_upZ fl3 fun h4 hh4 up4 => wpAny_throw (tk _ _ ?_)
    exact ⟨a, B, sI, pins, σ, H, cls, d, rfl, J, nb, up3.trans up4, .inr (.inr (by rw [hst]; exact hh4)), na, os, ag, hw⟩
  first
    | exact wpAny_bind (wpAny_pure (wpAny_bind fin))
    | exact wpAny_bind fin
def wHead (K : PySem.W.Frag) (c : Value) (i : Nat) (ts : Addr → Value → Option Addr → TS) (w : Ends → WX) (D : Ends) : WX := fun cls d σ H =>
  ∃ b, PySem.W.exmOne K cls c = some b ∧ (b = true → ∀ a, H a = none → ts a cls d { nx := fun σ' H' => D.nx (σ'.set i none) H', rt := D.rt, bk := fun σ' H' => D.bk (σ'.set i none) H', ct := fun σ' H' => D.ct (σ'.set i none) H' } (σ.set i (some (.ref a))) H) ∧
    (b = false → w D cls d σ H)
theorem hs_cons (hst : X.stack = X.env :: X.outer) (hf : X.env.frame = some X.env.locals) (hN : X.N.Nodup) (hi : X.N[i]? = some n) (hln : X.env.kindOf n = some .local) (hc : Names X x c)
    (hsu : ∀ (a : Addr) (oe : Obj) (cls : Value) (d : Option Addr) (pn : List (Addr × Obj)), Zc cls d oe → (∃ vs, oe.data = .fields vs) → PSs (X.suite a ((a, oe) :: pn)) (b₀ :: suite) (ts a cls d))
    (hr : HsJ X hs w) : HsJ X (.ExceptHandler (some (.Name x np)) (some n) (b₀ :: suite) pos' :: hs) (wHead X.K c i ts w) := by
  refine ⟨fun {pins σ' H' cls d a B sI s D} L hw => ?_⟩
  have L' := L
  obtain ⟨J, nb, fl3, up3, na, os, ag⟩ := L
  obtain ⟨b, hb1, hyes, hno⟩ := hw
  have ok := J.ok
  have hloc : Loc X.env.scope n := .inl hln
  have J3 : Inv X pins σ' H' s := J.landed nb fl3.1 up3 os ag
  obtain ⟨oe3, vs3, he3, hz3, hd3⟩ := fl3.there
  have notFr : ∀ {h : Heap} {o : Obj} {vs : Array Value}, h.FunFrames B (X.env :: X.outer) → h.get? a = some o → o.data = .fields vs → a ∉ frs (X.env :: X.outer) := fun {h o vs} ff e dd hm => by
    obtain ⟨_, o', e', hnf⟩ := ff.mem hm
    rw [e] at e'; cases e'
    exact hnf _ dd
  have nfr := notFr fl3.2.2.1 he3 hd3
  have nL : a ≠ X.env.locals := fun z => nfr (List.mem_filterMap.mpr ⟨X.env, List.mem_cons_self, by rw [hf, z]⟩)
  have nF : a ∉ X.fs := fun hm => by
    obtain ⟨e, he, q⟩ := List.mem_filterMap.mp hm
    exact nfr (List.mem_filterMap.mpr ⟨e, List.mem_cons_of_mem _ he, q⟩)
  have S3 := J3.suite he3 hd3 na nL nF
  refine wpAny_handleBy_cons (codeAny_handlers_test ?_) (by intro q; cases q)
  have LT : PySem.W.Looks (model X.prog X.w) s.heap (typeOf (.ref a)) cls := fun A Q E s k q => wpAny_typeOf_ref (k _ _ he3) (by rw [hz3.1]; exact q)
  have LM := PySem.W.exm_one (M := model X.prog X.w) (J3.kIn) LT hb1
  have test : ∀ {Q : Value → Shared → Prop} {E : Value → Shared → Prop}, Q c s → wpAny (model X.prog X.w) (X.A.mark (some (.ref a))) (eval (.Name x np) X.env) Q E s := fun {Q E} q => by
    obtain ⟨hg, hdbg, hm | ⟨hm, hv, hnn⟩⟩ := hc
    · exact ld_glob (X := X.suite a ((a, oe3) :: (X.pn ++ pins))) S3 hg hm q hdbg
    · exact ld_blt (X := X.suite a ((a, oe3) :: (X.pn ++ pins))) S3 hg hm hv q hnn hdbg
  refine test (LM.here ?_)
  cases b with
  | true =>
    refine codeAny_handlers_suite_as ?_
    refine HandSPX.lands_againZ fl3 fun h4 fl4 up4 => ?_
    have J4 : Inv X pins σ' H' { s with heap := h4 } := J.landed nb fl4.1 (up3.trans up4) os ag
    obtain ⟨oe4, vs4, he4, hz4, hd4⟩ := fl4.there
    have S4 := J4.suite he4 hd4 na nL nF
    refine store_ok (X := X.suite a ((a, oe4) :: (X.pn ++ pins))) (v := .ref a) S4 hN hi hloc rfl (fun s5 S5 => ?_) (.inr hln)
    refine wpAny_mono ((hsu a oe4 cls d (X.pn ++ pins) hz4 ⟨_, hd4⟩).run [] s5 _ H' _ S5 (hyes rfl a na)) (fun f s6 hsp => ?_) (fun _ _ z => False.elim z)
    have end_ : ∀ {σ6 : L2.St} {H6 : Hp} {Q : Shared → Prop}, Inv (X.suite a ((a, oe4) :: (X.pn ++ pins))) [] σ6 H6 s6 → (∀ s7, Inv X pins (σ6.set i none) H6 s7 → Q s7) →
        wpAny (model X.prog X.w) X.A (do bindName X.env n .none; unbindBehindTheSuite X.env n pos') (fun _ s7 => Q s7) X.xe s6 := fun {σ6 H6 Q} S6 hq => gone_ok (S6.unsuite ok) hN hi hln hq
    cases f with
    | next =>
      obtain ⟨σ6, H6, S6, q6⟩ := hsp
      exact end_ S6 fun s7 J7 => ⟨_, _, J7, q6⟩
    | brk =>
      obtain ⟨σ6, H6, S6, q6⟩ := hsp
      exact end_ S6 fun s7 J7 => ⟨_, _, J7, q6⟩
    | cont =>
      obtain ⟨σ6, H6, S6, q6⟩ := hsp
      exact end_ S6 fun s7 J7 => ⟨_, _, J7, q6⟩
    | ret u =>
      obtain ⟨v6, σ6, H6, S6, r6, q6⟩ := hsp
      exact end_ S6 fun s7 J7 => ⟨_, _, _, J7, r6, q6⟩
  | false =>
    show wpAny _ X.A (handleBy (.ref a) X.env hs) _ _ _
    exact hr.run L' (hno rfl)
end
def clF : List (Nat × List Nat × (Exn → Hh → Option D)) → Exn → Sg → Hh → SR
  | [], x, σ, h => .xn x σ h
  | c :: cl, x, σ, h => if c.1 < σ.length then (if x.cls ∈ c.2.1 then (match c.2.2 x h with
      | some d => .rt d h
      | none => .bad) else clF cl x σ h) else .bad
def ClJ (X : Cx) (W : Wd) (wx : WX) (known : List Nat) (hs : List ExceptHandler) (cl : List (Nat × List Nat × (Exn → Hh → Option D))) : Prop :=
  ∃ w : Ends → WX, HsJ X hs w ∧ ∀ (D : Ends) (Z ρ : List Addr) (h : Hh) (H : Hp) (σd : Sg) (σ : L2.St) (x : Exn) (cls : Value) (dd : Option Addr),
    Sim W Z ρ h H → RSg W Z ρ H σd σ → RX W Z ρ H x cls dd → x.cls ∈ known → PostS W Z ρ H (clF cl x σd h) D wx → w D cls dd σ H
section
variable {X : Cx} {W : Wd} {wx : WX} {e : Expr} {b : SM} {body : List Stmt} {x n : Str} {c : Value} {i : Nat} {known cs : List Nat} {f : Exn → Hh → Option D} {np pos pos' p3 : Pos} {hs : List ExceptHandler} {h₀ : ExceptHandler}
  {cl : List (Nat × List Nat × (Exn → Hh → Option D))}
theorem cl_nil (J : Js X W wx) (hst : X.stack = X.env :: X.outer := by rfl) (hf : X.env.frame = some X.env.locals := by rfl) : ClJ X W wx known [] [] :=
  ⟨fun _ => wx, hs_nil hst hf J.tk, fun D Z ρ h H σd σ x cls dd S rs rx hk p => p ρ H σ cls dd Ext.refl S rs rx⟩
theorem cl_cons (J : Js X W wx) (hk : ∀ k ∈ known, PySem.W.exmOne X.K (.ref (W.ca k)) c = some (decide (k ∈ cs))) (hc : Names X x c) (hi : X.N[i]? = some n) (hln : X.env.kindOf n = some .local)
    (he : ∀ (a : Addr) (oe : Obj) (cls : Value) (dd : Option Addr) (pn : List (Addr × Obj)), Zc cls dd oe → (∃ vs, oe.data = .fields vs) → PE (X.suite a ((a, oe) :: pn)) e (tX W known i a cls dd f))
    (hr : ClJ X W wx known hs cl) (hst : X.stack = X.env :: X.outer := by rfl) (hf : X.env.frame = some X.env.locals := by rfl) :
    ClJ X W wx known (.ExceptHandler (some (.Name x np)) (some n) [.Return (some e) p3] pos' :: hs) ((i, cs, f) :: cl) := by
  obtain ⟨w, hw, hp⟩ := hr
  refine ⟨_, hs_cons hst hf J.hN hi hln hc (fun a oe cls dd pn hz hv => pss_cons (ps_ret (he a oe cls dd pn hz hv)) pss_nil) hw, fun D Z ρ h H σd σ y cls dd S rs rx hkn p => ?_⟩
  simp only [clF] at p
  split at p
  · rename_i hlt
    have hcl : cls = .ref (W.ca y.cls) := rx.1
    refine ⟨decide (y.cls ∈ cs), hcl ▸ hk _ hkn, fun ht a ha => ?_, fun hf => ?_⟩
    · have hm : y.cls ∈ cs := of_decide_eq_true ht
      rw [if_pos hm] at p
      cases hd : f y h with
      | none => rw [hd] at p; exact p.elim
      | some d =>
        rw [hd] at p
        exact ⟨List.getElem?_set_self (by rw [← rs.len]; exact hlt), Z, ρ, h, y, d, S, rx, hkn, hd, fun ρ2 H2 v x2 S2 rv => p ρ2 H2 v x2 S2 rv⟩
    · have hm : y.cls ∉ cs := of_decide_eq_false hf
      rw [if_neg hm] at p
      exact hp D Z ρ h H σd σ y cls dd S rs rx hkn p
  · exact p.elim
end
end Fw
end
section
set_option Elab.async false
set_option maxHeartbeats 1000000
namespace Fw
open PySem PySem.Spec PyProof.Rows L2
section
variable {X : Cx} {W : Wd} {known : List Nat} {i : Nat} {a : Addr} {oe : Obj} {cls : Value} {dd : Option Addr} {pn : List (Addr × Obj)} {f g : Exn → Hh → Option D} {fs : List (Exn → Hh → Option D)} {pos : Pos} {e : Expr} {es : List Expr}
end
end Fw
end
section
set_option Elab.async false
set_option maxHeartbeats 1000000
namespace Fw
open PySem PySem.Spec PyProof.Rows L2
section
variable {X : Cx} {W : Wd}
end
theorem unkey_rd {W : Wd} {Z ρ : List Addr} {H : Hp} (k : K1) : RD W Z ρ H (unkey k) (kV (keyS k)) := by
  cases k with
  | inl i => exact .int i
  | inr s => exact .str s
theorem Ext.grow {ρ : List Addr} {H H' : Hp} (k : ∀ b o, H b = some o → H' b = some o) : Ext ρ H ρ H' := ⟨List.prefix_rfl, fun a u h e => ⟨h, k a u e⟩, fun a od u e => k a _ e⟩
theorem OR.grow {W : Wd} {Z ρ : List Addr} {H H' : Hp} (k : ∀ b o, H b = some o → H' b = some o) {a : Addr} {o : O} (r : OR W Z ρ H a o) : OR W Z ρ H' a o := by
  have x : Ext ρ H ρ H' := Ext.grow k
  cases r with
  | lst e t => exact .lst (k _ _ e) (t.mono x)
  | ro e t =>
    refine .ro ?_ (t.mono x)
    rcases e with e | ⟨ob, e⟩
    · exact .inl (k _ _ e)
    · exact .inr ⟨ob, k _ _ e⟩
  | dct e t => exact .dct (k _ _ e) (t.mono x)
  | ins e t => exact .ins (k _ _ e) (t.mono x)
  | dtu e q t => exact .dtu (k _ _ e) q (t.mono x)
  | rod e t => exact .rod (k _ _ e) (t.mono x)
theorem Sim.grow {W : Wd} {Z ρ : List Addr} {h : Hh} {H H' : Hp} (S : Sim W Z ρ h H) (k : ∀ b o, H b = some o → H' b = some o) : Sim W Z ρ h H' :=
  ⟨S.len, S.nd, fun z hz => let ⟨h1, u, e⟩ := S.dis z hz; ⟨h1, u, k _ _ e⟩, fun m u a e1 e2 => (S.obj m u a e1 e2).grow k⟩
theorem rds_items {W : Wd} {Z ρ : List Addr} {H : Hp} : ∀ {kvs : List (K1 × D)} {vs : List (Key × V)} {ts : List Addr}, RKs W Z ρ H kvs vs → Paired (fun (t : Addr) (q : Key × V) => TupAt W H t [kV q.1, q.2]) ts vs → (∀ t ∈ ts, t ∉ Z ∧ t ∉ ρ) →
    RDs W Z ρ H (kvs.map fun q => .tup [unkey q.1, q.2]) (ts.map V.ref)
  | [], _, _, .nil, .nil, _ => .nil
  | (k, d) :: kvs, _, _, .cons r t, .cons e p, n => by
    have hn := n _ List.mem_cons_self
    exact .cons (.tup hn.1 hn.2 e (.cons (unkey_rd k) (.cons r .nil))) (rds_items t p fun t ht => n t (List.mem_cons_of_mem _ ht))
section
variable {X : Cx} {W : Wd} {wx : WX} {e : Expr} {te : TE} {fe : TM} {p apos cpos pos : Pos}
end
theorem roomG_in2 {k : Nat} {A : Around} (hr : RoomG (k + 1) A) : RoomG k A.in1.in1 := ⟨hr.hd, by have := hr.dp; show A.depth + k + 15 < _; omega, by have := hr.un; show A.units + 1 + 1 + 16 * k + 300 < _; omega, hr.gd⟩
section
variable {X : Cx} {W : Wd} {wx : WX} {k cls : Nat} {f : Addr} {ps : List Str} {r : List D → Hh → R D} {a : Expr} {fa : TM} {p pos : Pos}
end
section
variable {prog : Program} {w : World} {A : Around} {E : Value → Shared → Prop} {s : Shared} {K : PySem.W.Frag} {x C L f : Addr} {h₀ : Heap} {m : Str → Option Value} {ox : Obj} {od : Option Obj} {name : Str} {b tb : Value}
end
section
variable {X : Cx} {W : Wd} {wx : WX} {k cls : Nat} {f : Addr} {ps : List Str} {r : List D → Hh → R D} {a b : Expr} {fa fb : TM} {pos : Pos}
end
section
variable {X : Cx} {W : Wd} {wx : WX} {Z ρ : List Addr} {h : Hh} {H : Hp} {pins : List (Addr × Obj)} {σ : L2.St} {s : Shared} {A : Around}
end
end Fw
end
section
set_option Elab.async false
set_option maxHeartbeats 1000000
namespace Fw
open PySem PySem.Spec PyProof.Rows L2
def strAll : List D → Bool
  | [] => true
  | .str _ :: r => strAll r
  | _ :: _ => false
def intAll : List D → Bool
  | [] => true
  | .int _ :: r => intAll r
  | _ :: _ => false
def keysOk (ks : List D) : Bool := strAll ks || intAll ks
def keysM (c : List D → Hh → R D) : List D → Hh → R (List D)
  | [], h => .ok [] h
  | x :: xs, h => (c [x] h).bind fun k h => (keysM c xs h).bind fun ks h => .ok (k :: ks) h
def keyLe (p q : D × D) : Bool := PySem.W.dataLe false (fun p : D × D => p.2.py) p q
def sortK (ks xs : List D) : List D := ((xs.zip ks).mergeSort keyLe).map (·.1)
def sortKE (c : List D → Hh → R D) (xs : List D) (h : Hh) : R D := (noX (keysM c xs h)).bind fun ks h => if keysOk ks then .ok (.lst (sortK ks xs)) h else .bad
def itemsL (kvs : List (K1 × D)) : List D := kvs.map fun q => .tup [unkey q.1, q.2]
def eSortKI (c : List D → Hh → R D) (a : TM) : TM := fun σ h => (a σ h).bind fun d h => match asDct h d with
  | some kvs => sortKE c (itemsL kvs) h
  | none => .bad
inductive KM (r : List D → Hh → R D) : List D → Hh → List D → Hh → Prop
  | nil {h : Hh} : KM r [] h [] h
  | cons {x k : D} {xs ks : List D} {h h1 h2 : Hh} : r [x] h = .ok k h1 → KM r xs h1 ks h2 → KM r (x :: xs) h (k :: ks) h2
theorem keysM_km {r : List D → Hh → R D} : ∀ {xs : List D} {h : Hh} {ks : List D} {h2 : Hh}, keysM r xs h = .ok ks h2 → KM r xs h ks h2
  | [], h, ks, h2, e => by
    simp only [keysM, R.ok.injEq] at e
    obtain ⟨rfl, rfl⟩ := e
    exact .nil
  | x :: xs, h, ks, h2, e => by
    unfold keysM at e
    cases e1 : r [x] h with
    | ok k h1 =>
      rw [e1, R.bind_ok] at e
      cases e2 : keysM r xs h1 with
      | ok ls h3 =>
        rw [e2, R.bind_ok] at e
        simp only [R.ok.injEq] at e
        obtain ⟨rfl, rfl⟩ := e
        exact .cons e1 (keysM_km e2)
      | xn x h => rw [e2] at e; cases e
      | bad => rw [e2] at e; cases e
    | xn x h => rw [e1] at e; cases e
    | bad => rw [e1] at e; cases e
theorem KM.len {r : List D → Hh → R D} {xs ks : List D} {h h2 : Hh} (m : KM r xs h ks h2) : xs.length = ks.length := by
  induction m with
  | nil => rfl
  | cons _ _ ih => simp [ih]
def KeyV (u : Value) (d : D) : Prop := (∃ x t, u = .str (toS x) t ∧ d = .str x) ∨ ∃ i t, u = .int i t ∧ d = .int i
def isKeyD : D → Bool
  | .str _ => true
  | .int _ => true
  | _ => false
theorem keyV_of {W : Wd} {Z ρ : List Addr} {H : Hp} {d : D} {v : V} {u : Value} (hd : isKeyD d = true) (rd : RD W Z ρ H d v) (rv : RelV v u) : KeyV u d := by
  cases rd <;> simp only [isKeyD] at hd <;> first | (cases hd; done) | skip
  · obtain ⟨t, rfl⟩ := rv
    exact .inr ⟨_, t, rfl, rfl⟩
  · obtain ⟨t, rfl⟩ := rv
    exact .inl ⟨_, t, rfl, rfl⟩
theorem KeyV.reads {X : Cx} {pins : List (Addr × Obj)} {σ : L2.St} {H : Hp} {s : Shared} (I : Inv X pins σ H s) {u : Value} {d : D} (h : KeyV u d) : ∃ as, PySem.Reads s.heap u d.py as := by
  rcases h with ⟨x, t, rfl, rfl⟩ | ⟨i, t, rfl, rfl⟩
  · exact Dp.reads I (D.str x).py (.str (toS x)) _ (by simp only [D.py]; exact Dp.str (toS x)) ⟨t, rfl⟩
  · exact Dp.reads I (D.int i).py (.int i) _ (by simp only [D.py]; exact Dp.int i) ⟨t, rfl⟩
theorem strAll_mem : ∀ {ks : List D}, strAll ks = true → ∀ k ∈ ks, ∃ x, k = .str x
  | [], _, k, hk => by cases hk
  | x :: ks, h, k, hk => by
    cases x <;> simp only [strAll] at h <;> first | (cases h; done) | skip
    rcases List.mem_cons.mp hk with rfl | hk
    · exact ⟨_, rfl⟩
    · exact strAll_mem h k hk
theorem intAll_mem : ∀ {ks : List D}, intAll ks = true → ∀ k ∈ ks, ∃ x, k = .int x
  | [], _, k, hk => by cases hk
  | x :: ks, h, k, hk => by
    cases x <;> simp only [intAll] at h <;> first | (cases h; done) | skip
    rcases List.mem_cons.mp hk with rfl | hk
    · exact ⟨_, rfl⟩
    · exact intAll_mem h k hk
theorem keys_kind {ks : List D} (h : keysOk ks = true) : (∀ k ∈ ks, isKeyD k = true) ∧ PySem.W.AllAlike (ks.map D.py) ∧ PySem.W.Sortable (ks.map D.py) ∧ ∀ d ∈ ks.map D.py, d.depth ≤ 1 := by
  rcases (Bool.or_eq_true_iff.mp h) with h | h
  · have m := strAll_mem h
    refine ⟨fun k hk => ?_, fun d hd d' hd' => ?_, .inr fun d hd => ?_, fun d hd => ?_⟩
    · obtain ⟨x, rfl⟩ := m k hk
      rfl
    · obtain ⟨k, hk, rfl⟩ := List.mem_map.mp hd
      obtain ⟨l, hl, rfl⟩ := List.mem_map.mp hd'
      obtain ⟨x, rfl⟩ := m k hk
      obtain ⟨y, rfl⟩ := m l hl
      simp [D.py, PySem.W.alike]
    · obtain ⟨k, hk, rfl⟩ := List.mem_map.mp hd
      obtain ⟨x, rfl⟩ := m k hk
      simp [D.py]
    · obtain ⟨k, hk, rfl⟩ := List.mem_map.mp hd
      obtain ⟨x, rfl⟩ := m k hk
      simp [D.py, PyData.depth]
  · have m := intAll_mem h
    refine ⟨fun k hk => ?_, fun d hd d' hd' => ?_, .inr fun d hd => ?_, fun d hd => ?_⟩
    · obtain ⟨x, rfl⟩ := m k hk
      rfl
    · obtain ⟨k, hk, rfl⟩ := List.mem_map.mp hd
      obtain ⟨l, hl, rfl⟩ := List.mem_map.mp hd'
      obtain ⟨x, rfl⟩ := m k hk
      obtain ⟨y, rfl⟩ := m l hl
      simp [D.py, PySem.W.alike]
    · obtain ⟨k, hk, rfl⟩ := List.mem_map.mp hd
      obtain ⟨x, rfl⟩ := m k hk
      simp [D.py]
    · obtain ⟨k, hk, rfl⟩ := List.mem_map.mp hd
      obtain ⟨x, rfl⟩ := m k hk
      simp [D.py, PyData.depth]
theorem isKey_at {ks : List D} {j : Nat} {k : D} (h : ∀ k ∈ ks, isKeyD k = true) (e : ks[j]? = some k) : isKeyD k = true := h k (List.mem_of_getElem? e)
section
variable {X : Cx} {W : Wd} {wx : WX} {k : Nat} {q : Addr} {ps : List Str} {r : List D → Hh → R D} {pins : List (Addr × Obj)} {σ : L2.St} {Z ρ0 : List Addr} {H0 : Hp} {xs kds : List D} {hF : Hh} {a kq : Addr} {e1 : Nat}
def KLoop (X : Cx) (W : Wd) (r : List D → Hh → R D) (pins : List (Addr × Obj)) (σ : L2.St) (Z ρ0 : List Addr) (H0 : Hp) (xs kds : List D) (hF : Hh) (a kq : Addr) (e1 : Nat) (j : Nat) (s : Shared) : Prop :=
  ∃ (us : List Value) (e : Nat) (H : Hp) (ρ : List Addr) (h : Hh), us.length = j ∧ s.heap.get? kq = some (seqObj "list" us.toArray e) ∧ s.heap.get? a = some (seqObj "list" #[] e1) ∧ Paired KeyV us (kds.take j) ∧
    Inv X pins σ H s ∧ H a = none ∧ H kq = none ∧ Sim W Z ρ h H ∧ Ext ρ0 H0 ρ H ∧ KM r (xs.drop j) h (kds.drop j) hF
theorem paired_snoc {α β : Type} {F : α → β → Prop} {x : α} {y : β} (hxy : F x y) : ∀ {xs : List α} {ys : List β}, Paired F xs ys → Paired F (xs ++ [x]) (ys ++ [y])
  | _, _, .nil => .cons hxy .nil
  | _, _, .cons h t => .cons h (paired_snoc hxy t)
theorem kl_call (J : Jc X W wx) (C : Callee X W k q ps [] r) (hr : RoomG (k + 1) X.A) (fa : FpOk X pins H0 a) (fk : FpOk X pins H0 kq) {s : Shared} {j : Nat} {u : Value} {w : V} {d : D} (L : KLoop X W r pins σ Z ρ0 H0 xs kds hF a kq e1 j s)
    (hd : xs[j]? = some d) (rd : RD W Z ρ0 H0 d w) (rel : RelV w u) (hk : ∀ k ∈ kds, isKeyD k = true) {E : Value → Shared → Prop} :
    wpAny (model X.prog X.w) X.A.in1.in1 (call (.ref q) [u]) (fun u2 s2 => ∃ kd, kds[j]? = some kd ∧ KeyV u2 kd ∧ ∃ (us : List Value) (e : Nat) (H : Hp) (ρ : List Addr) (h : Hh), us.length = j ∧ s2.heap.get? kq = some (seqObj "list" us.toArray e) ∧
      s2.heap.get? a = some (seqObj "list" #[] e1) ∧ Paired KeyV us (kds.take j) ∧ Inv X pins σ H s2 ∧ H a = none ∧ H kq = none ∧ Sim W Z ρ h H ∧ Ext ρ0 H0 ρ H ∧ KM r (xs.drop (j + 1)) h (kds.drop (j + 1)) hF) E s := by
  obtain ⟨us, e, H, ρ, h, hl, gk, ga, pw, I, na, nk, S, x, km⟩ := L
  obtain ⟨fd, ds, F, hkp, hb, hds⟩ := C
  cases hds
  have hj : j < xs.length := (List.getElem?_eq_some_iff.mp hd).1
  have e0 : xs.drop j = d :: xs.drop (j + 1) := by
    rw [List.drop_eq_getElem_cons hj]
    rw [List.getElem?_eq_getElem hj] at hd
    rw [Option.some.inj hd]
  rw [e0] at km
  generalize hks : kds.drop j = ksj at km
  cases km with
  | @cons _ kd _ ks _ h1 _ hc rest =>
    have hjk : kds[j]? = some kd := by
      have := congrArg List.head? hks
      rw [List.head?_drop] at this
      exact this
    have hrest : kds.drop (j + 1) = ks := by
      have := congrArg List.tail hks
      rw [List.tail_drop] at this
      exact this
    have I' := I.pinned (fp := [a, kq]) (fun b hb' => by
        rcases List.mem_cons.mp hb' with rfl | hb'
        · exact ⟨na, fa.2⟩
        · rw [List.mem_singleton.mp hb']
          exact ⟨nk, fk.2⟩) (fun b hb' => by
        rcases List.mem_cons.mp hb' with rfl | hb'
        · exact ⟨_, ga, fun v z => by cases z⟩
        · rw [List.mem_singleton.mp hb']
          exact ⟨_, gk, fun v z => by cases z⟩)
    have sp : spF W r [w] H (fun v H' => ∃ ρ', Ext ρ H ρ' H' ∧ Sim W Z ρ' h1 H' ∧ RD W Z ρ' H' kd v) (fun _ _ _ => False) :=
      ⟨Z, ρ, h, [d], S, .cons (rd.mono x) .nil, by rw [hc]; exact fun ρ' H' y S' v rv => ⟨ρ', y, S', rv⟩⟩
    have hl2 : [u].length = ps.length := F.len _ _ _ _ sp
    have hb2 := hb s [u] I.kIn (by simpa using hl2)
    refine wpAny_call (codeAny_mono (F.run X.A.in1.in1 X.stack s H ⟨[u], []⟩ [u] [w] _ _ (roomG_in2 hr) I'.env0.in1.in1 (by simpa using hb2) (.cons rel .nil) sp) fun rr s' hq => ?_)
    cases rr with
    | error er => obtain ⟨_, _, _, _, _, _, _, _, _, _, _, _, z⟩ := hq; exact z.elim
    | ok fl =>
      cases fl with
      | ret u2 =>
        obtain ⟨v, H2, I2, rv, ρ2, x2, S2, rd2⟩ := I'.after hq
        have pa := I2.pin (a, seqObj "list" #[] e1) (List.mem_append_right _ (List.mem_append_right _ (mem_pinsAt List.mem_cons_self ga)))
        have pk := I2.pin (kq, seqObj "list" us.toArray e) (List.mem_append_right _ (List.mem_append_right _ (mem_pinsAt (List.mem_cons_of_mem _ List.mem_cons_self) gk)))
        exact ⟨kd, hjk, keyV_of (isKey_at hk hjk) rd2 rv, us, e, H2, ρ2, h1, hl, pk.1, pa.1, pw, I2.unpinned, pa.2.1, pk.2.1, S2, x.trans x2, by rw [hrest]; exact rest⟩
      | next => exact False.elim hq
      | brk => exact False.elim hq
      | cont => exact False.elim hq
def KEnd (X : Cx) (W : Wd) (pins : List (Addr × Obj)) (σ : L2.St) (Z ρ0 : List Addr) (H0 : Hp) (xs kds : List D) (hF : Hh) (a : Addr) (s : Shared) : Prop :=
  ∃ (H : Hp) (ρ : List Addr) (out : List V), Inv X pins σ (upd H a (.lst out)) s ∧ H a = none ∧ Sim W Z ρ hF H ∧ Ext ρ0 H0 ρ H ∧ RDs W Z ρ H (sortK kds xs) out
theorem rds_zip {ρ : List Addr} {H : Hp} : ∀ {xs : List D} {ws : List V}, RDs W Z ρ H xs ws → ∀ p ∈ xs.zip ws, RD W Z ρ H p.1 p.2
  | _, _, .nil, p, hp => by cases hp
  | _, _, .cons r t, p, hp => by
    rcases List.mem_cons.mp hp with rfl | hp
    · exact r
    · exact rds_zip t p hp
theorem rds_map {ρ : List Addr} {H : Hp} {β : Type} {f : β → D} {g : β → V} : ∀ {l : List β}, (∀ b ∈ l, RD W Z ρ H (f b) (g b)) → RDs W Z ρ H (l.map f) (l.map g)
  | [], _ => .nil
  | b :: l, h => .cons (h b List.mem_cons_self) (rds_map fun c hc => h c (List.mem_cons_of_mem _ hc))
theorem vals_each {β : Type} {g : β → V} : ∀ {out : List Value} {l : List β}, PySem.W.EachIs (fun v b => RelV (g b) v) out l → Vals (l.map g) out
  | _, _, .nil => .nil
  | _, _, .cons h t => .cons h (vals_each t)
theorem each_vals {β : Type} {g : β → V} : ∀ {l : List β} {vs : List Value}, Vals (l.map g) vs → PySem.W.EachIs (fun v b => RelV (g b) v) vs l
  | [], _, .nil => .nil
  | b :: l, _, .cons h t => .cons h (each_vals t)
theorem each_keys {s : Shared} {H : Hp} (I : Inv X pins σ H s) : ∀ {us : List Value} {ks : List D}, Paired KeyV us ks → PySem.W.EachIs (fun v d => ∃ as, PySem.Reads s.heap v d as) us (ks.map D.py)
  | _, _, .nil => .nil
  | _, _, .cons h t => .cons (h.reads I) (each_keys I t)
theorem kl_end (J : Jc X W wx) (fa : FpOk X pins H0 a) (fk : FpOk X pins H0 kq) (hka : kq ≠ a) {s : Shared} {vs : List Value} {ws : List V} (L : KLoop X W r pins σ Z ρ0 H0 xs kds hF a kq e1 vs.length s)
    (rds : RDs W Z ρ0 H0 xs ws) (rv : Vals ws vs) (hl : xs.length = kds.length) (hk : keysOk kds = true) (hz : vs.length ≤ sizeLine) {E : Value → Shared → Prop} {items : Array Value} (hi : items = vs.toArray) :
    wpAny (model X.prog X.w) X.A.in1.in1 (do let keys ← Builtin.List.listItems (.ref kq); ksk_end a false items e1 (.ref kq) keys) (fun f s' => f = .done (.ret .none) ∧ KEnd X W pins σ Z ρ0 H0 xs kds hF a s') E s := by
  subst hi
  obtain ⟨us, e, H, ρ, h, hlu, gk, ga, pw, I, na, nk, S, x, km⟩ := L
  have l1 : xs.length = vs.length := by rw [rds.length, rv.length]
  have l2 : kds.length = vs.length := by omega
  rw [List.drop_of_length_le (by omega), List.drop_of_length_le (by omega)] at km
  cases km
  rw [List.take_of_length_le (by omega)] at pw
  obtain ⟨-, kal, kso, kde⟩ := keys_kind hk
  refine wpAny_bind (listItems_at gk rfl ?_)
  obtain ⟨G, g1, g2⟩ := L2.restrict s.heap fun b => decide (b ≠ kq)
  have gne : ∀ b, b ≠ kq → G.get? b = s.heap.get? b := fun b hb => g1 b (decide_eq_true hb)
  have gno : G.get? kq = none := g2 kq (by simp)
  have kp : PySem.W.KeepsBut a G s.heap := fun b o hb eo => by
    by_cases q : b = kq
    · rw [q, gno] at eo; cases eo
    · rw [← gne b q]; exact eo
  have rd2 : PySem.W.EachIs (fun v d => ∃ as, PySem.Reads s.heap v d as) us (kds.map D.py) := each_keys I pw
  have units : X.A.in1.in1.units = X.A.units + 1 + 1 := rfl
  have ju := J.hu2
  refine PySem.W.keyH_end (κ := PySem.W.dataKind s.heap (kds.map D.py)) (h₁ := G) kp gno gk ga hka (PySem.W.SortsAt.data (by simpa using rd2) kal kso fun d hd => by have := kde d hd; rw [units]; omega) (by simp; omega) hz fun h' tk c keep hat => ⟨rfl, ?_⟩
  have hbs : ((xs.zip ws).zip kds).map (fun b : (D × V) × D => b.2.py) = kds.map D.py := by
    have : ((xs.zip ws).zip kds).map (fun b : (D × V) × D => b.2.py) = (((xs.zip ws).zip kds).map (·.2)).map D.py := by rw [List.map_map]; rfl
    rw [this, List.map_snd_zip (by rw [List.length_zip]; have := rds.length; omega)]
  have hws : ((xs.zip ws).zip kds).map (fun b : (D × V) × D => b.1.2) = ws := by
    have : ((xs.zip ws).zip kds).map (fun b : (D × V) × D => b.1.2) = (((xs.zip ws).zip kds).map (·.1)).map (·.2) := by rw [List.map_map]; rfl
    rw [this, List.map_fst_zip (by rw [List.length_zip]; have := rds.length; omega), List.map_snd_zip (by have := rds.length; omega)]
  have ko : PySem.W.KeyedOut false (((xs.zip ws).zip kds).map (fun b : (D × V) × D => b.2.py)) vs (PySem.W.sortVals (PySem.W.dataKind s.heap (kds.map D.py)) false us vs) := by
    rw [hbs]
    exact ⟨s.heap, us, kal, rfl, rd2⟩
  have ev : PySem.W.EachIs (fun v (b : (D × V) × D) => RelV b.1.2 v) vs ((xs.zip ws).zip kds) := each_vals (g := fun b : (D × V) × D => b.1.2) (by rw [hws]; exact rv)
  have eo := PySem.W.keyedOut_each (fun b : (D × V) × D => b.2.py) ko ev
  generalize hL : ((xs.zip ws).zip kds).mergeSort (PySem.W.dataLe false fun b : (D × V) × D => b.2.py) = LL at eo
  have hmem : ∀ b ∈ LL, RD W Z ρ H b.1.1 b.1.2 := fun b hb => by
    rw [← hL] at hb
    have := (List.mergeSort_perm _ _).mem_iff.mp hb
    have := (List.of_mem_zip this).1
    exact (rds_zip rds b.1 this).mono x
  have hsk : sortK kds xs = LL.map (fun b => b.1.1) := by
    have e1 : xs.zip kds = ((xs.zip ws).zip kds).map (fun b : (D × V) × D => (b.1.1, b.2)) := by
      have : ∀ (xs : List D) (ws : List V) (ks : List D), xs.length = ws.length → xs.zip ks = ((xs.zip ws).zip ks).map (fun b : (D × V) × D => (b.1.1, b.2)) := by
        intro xs
        induction xs with
        | nil => intro ws ks _; rfl
        | cons x xs ih =>
          intro ws ks hlen
          cases ws with
          | nil => cases hlen
          | cons w ws =>
            cases ks with
            | nil => rfl
            | cons k ks =>
              simp only [List.zip_cons_cons, List.map_cons]
              rw [← ih ws ks (by simpa using hlen)]
      exact this xs ws kds rds.length
    unfold sortK
    rw [e1, ← List.map_mergeSort (f := fun b : (D × V) × D => (b.1.1, b.2)) (r := PySem.W.dataLe false fun b : (D × V) × D => b.2.py) (fun a _ b _ => rfl), List.map_map, hL]
    rfl
  have hout : Vals (LL.map fun b => b.1.2) (PySem.W.sortVals (PySem.W.dataKind s.heap (kds.map D.py)) false us vs) := vals_each eo
  have hsz : (LL.map fun b => b.1.2).length ≤ sizeLine := by
    rw [List.length_map, ← hL, (List.mergeSort_perm _ _).length_eq, List.length_zip, List.length_zip]
    omega
  have kk : ∀ b o, b ≠ a → b ≠ kq → s.heap.get? b = some o → h'.get? b = some o := fun b o n1 n2 eo => keep b o n1 (by rw [gne b n2]; exact eo)
  refine ⟨H, ρ, LL.map fun b => b.1.2, ?_, na, S, x, by rw [hsk]; exact rds_map hmem⟩
  have nch : ∀ {b : Addr}, b ∉ [a, kq] → b ≠ a ∧ b ≠ kq := fun hb => ⟨fun z => hb (by simp [z]), fun z => hb (by simp [z])⟩
  have hne : ∀ {b : Addr} {u : HO}, H b = some u → b ≠ a ∧ b ≠ kq := fun {b u} eo => by
    refine ⟨fun z => ?_, fun z => ?_⟩
    · rw [z, na] at eo
      cases eo
    · rw [z, nk] at eo
      cases eo
  have keepH : ∀ {b : Addr} {u : HO}, H b = some u → upd H a (.lst (LL.map fun b => b.1.2)) b = some u := fun {b u} eo => by rw [upd_ne (hne eo).1]; exact eo
  refine I.step (g' := s.gens) (d' := s.drawn) (t' := tk) (ch := [a, kq]) (fun b hb => ?_) (fun b o _ _ hc eo _ => kk b o (nch hc).1 (nch hc).2 eo) (fun b o _ _ hc eo _ => ⟨o.slots, kk b o (nch hc).1 (nch hc).2 eo⟩) (fun b o hc _ n => by rw [upd_ne (nch hc).1]; exact n)
    (fun b o hc eo => ⟨o, kk b o (nch hc).1 (nch hc).2 eo⟩) (fun b xs eo => keepH eo) (fun b o u eo => keepH eo) (fun b ps eo => ⟨#[], by rw [keepH eo]; simp⟩) (fun m hm => ?_) (fun b u eo => ?_) I.bare
  · rcases List.mem_cons.mp hb with rfl | hb
    · exact ⟨fa.2.2.2.1, fa.2.1, fa.2.2.2.2.1, fa.2.2.2.2.2⟩
    · rw [List.mem_singleton.mp hb]
      exact ⟨fk.2.2.2.1, fk.2.1, fk.2.2.2.2.1, fk.2.2.2.2.2⟩
  · obtain ⟨o, es, ep, ho, hr⟩ := hm
    exact ⟨o, es, ep, kk _ o (Ne.symm fa.2.1) (Ne.symm fk.2.1) ho, hr⟩
  · by_cases hb : b = a
    · subst hb
      rw [upd_same] at eo
      cases eo
      exact ⟨hsz, _, c, hout, hat⟩
    · rw [upd_ne hb] at eo
      refine (I.hok b u eo).stay (fun c v hc q => kk c v ?_ ?_ q) (fun c q => keepH q) fun c xs q => keepH q
      · rcases hc with z | z
        · rw [z]; exact hb
        · exact (hne z).1
      · rcases hc with z | z
        · rw [z]; exact (hne eo).2
        · exact (hne z).2
theorem kl_push {s : Shared} {j : Nat} {u2 : Value} {kd : D} (hn : xs.length ≤ sizeLine) (hl : xs.length = kds.length) (hj : j < xs.length) (hkd : kds[j]? = some kd) (hv : KeyV u2 kd) (fk : FpOk X pins H0 kq) (hka : kq ≠ a)
    (L : ∃ (us : List Value) (e : Nat) (H : Hp) (ρ : List Addr) (h : Hh), us.length = j ∧ s.heap.get? kq = some (seqObj "list" us.toArray e) ∧ s.heap.get? a = some (seqObj "list" #[] e1) ∧ Paired KeyV us (kds.take j) ∧ Inv X pins σ H s ∧ H a = none ∧ H kq = none ∧
      Sim W Z ρ h H ∧ Ext ρ0 H0 ρ H ∧ KM r (xs.drop (j + 1)) h (kds.drop (j + 1)) hF) {A : Around} {E : Value → Shared → Prop} :
    wpAny (model X.prog X.w) A (Builtin.List.listUpdate (.ref kq) (·.push u2)) (fun _ s' => KLoop X W r pins σ Z ρ0 H0 xs kds hF a kq e1 (j + 1) s') E s := by
  obtain ⟨us, e, H, ρ, h, hlu, gk, ga, pw, I, na, nk, S, x, km⟩ := L
  have upd1 := Heap.SameBut.update s.heap kq (Obj.mapSeq (·.push u2))
  have got := get?_update_seq gk (·.push u2)
  refine listUpdate_at gk rfl ?_ (by simp; omega) (by simp; omega)
  have ea : us.toArray.push u2 = (us ++ [u2]).toArray := by simp
  have et : kds.take (j + 1) = kds.take j ++ [kd] := by rw [List.take_add_one, hkd]; rfl
  have I2 := I.turned (h' := s.heap.update kq (Obj.mapSeq (·.push u2))) (t' := s.toks) (fun b o hb eo => (upd1.2 b hb).trans eo) nk fk.2.1 fk.2.2.2.1 fk.2.2.2.2.1 fk.2.2.2.2.2
  exact ⟨us ++ [u2], _, H, ρ, h, by simp [hlu], by rw [got, ea], (upd1.2 a hka.symm).trans ga, by rw [et]; exact paired_snoc hv pw, I2, na, nk, S, x, km⟩
theorem kl_rest (J : Jc X W wx) (C : Callee X W k q ps [] r) (hr : RoomG (k + 1) X.A) (fa : FpOk X pins H0 a) (fk : FpOk X pins H0 kq) (hka : kq ≠ a) {s : Shared} {vs : List Value} {ws : List V} (L : KLoop X W r pins σ Z ρ0 H0 xs kds hF a kq e1 0 s)
    (rds : RDs W Z ρ0 H0 xs ws) (rv : Vals ws vs) (hl : xs.length = kds.length) (hk : keysOk kds = true) (hz : vs.length ≤ sizeLine) {E : Value → Shared → Prop} :
    wpAny (model X.prog X.w) X.A.in1.in1 (ksk_rest a (.ref q) false vs.toArray e1 (.ref kq)) (fun f s' => f = .done (.ret .none) ∧ KEnd X W pins σ Z ρ0 H0 xs kds hF a s') E s := by
  have l1 : xs.length = vs.length := by rw [rds.length, rv.length]
  have kk := (keys_kind hk).1
  unfold ksk_rest
  refine wpAny_bind (wpAny_rule ?_)
  simp only [List.forIn_toArray]
  refine wpAny_bind (ksk_fold (fun i s' => KLoop X W r pins σ Z ρ0 H0 xs kds hF a kq e1 i s') vs 0 s L (fun j u s' hu L' => ?_) fun s' L' => ?_)
  · rw [Nat.zero_add] at L' ⊢
    have hj : j < vs.length := (List.getElem?_eq_some_iff.mp hu).1
    obtain ⟨w, hw, rel⟩ : ∃ w, ws[j]? = some w ∧ RelV w u := by
      have hjw : j < ws.length := by rw [rv.length]; exact hj
      refine ⟨ws[j], List.getElem?_eq_getElem hjw, ?_⟩
      have : ∀ {ws : List V} {vs : List Value} {j : Nat} {u : Value}, Vals ws vs → (h : j < ws.length) → vs[j]? = some u → RelV ws[j] u := by
        intro ws
        induction ws with
        | nil => intro vs j u _ h; cases h
        | cons w ws ih =>
          intro vs j u r h e
          cases r with
          | cons r1 r2 =>
            cases j with
            | zero => simp at e; subst e; exact r1
            | succ j => exact ih r2 (by simpa using h) (by simpa using e)
      exact this rv hjw hu
    have hjx : j < xs.length := by omega
    have rd : RD W Z ρ0 H0 xs[j] w := rds_zip rds (xs[j], w) (List.mem_of_getElem? (i := j) (by rw [List.getElem?_zip_eq_some]; exact ⟨List.getElem?_eq_getElem hjx, hw⟩))
    refine wpAny_bind (wpAny_attempt (wpAny_mono (kl_call (E := fun _ _ => False) J C hr fa fk L' (List.getElem?_eq_getElem hjx) rd rel kk) (fun u2 s2 h2 => ?_) fun _ _ z => z.elim))
    obtain ⟨kd, e1', e2', e3'⟩ := h2
    exact wpAny_bind (wpAny_mono (kl_push (by omega) hl hjx e1' e2' fk hka e3') (fun _ s3 h3 => wpAny_pure ⟨rfl, h3⟩) fun _ _ z => z)
  · rw [Nat.zero_add] at L'
    exact kl_end J fa fk hka L' rds rv hl hk hz rfl
theorem kl_tree (J : Jc X W wx) (C : Callee X W k q ps [] r) (hr : RoomG (k + 1) X.A) {s s1 : Shared} {vs : List Value} {ws : List V} (I : Inv X pins σ H0 s) {h0 : Hh} (S0 : Sim W Z ρ0 h0 H0) (I1 : Inv X pins σ H0 s1) (hsa : s.heap.objs.size ≤ a)
    (ha : s1.heap.get? a = some (seqObj "list" vs.toArray 0)) (hna : H0 a = none) (km : KM r xs h0 kds hF) (rds : RDs W Z ρ0 H0 xs ws) (rv : Vals ws vs) (hk : keysOk kds = true) (hz : vs.length ≤ sizeLine) {E : Value → Shared → Prop} :
    wpAny (model X.prog X.w) X.A.in1.in1 (ksk_tree a (.ref q) false) (fun f s' => f = .done (.ret .none) ∧ KEnd X W pins σ Z ρ0 H0 xs kds hF a s') E s1 := by
  have lt : a < s1.heap.objs.size := Heap.lt_size ha
  have fa : FpOk X pins H0 a := I.fpOk hsa hna
  obtain ⟨e1, ha1⟩ : ∃ e1, (s1.heap.update a (Obj.mapSeq fun _ => (#[] : Array Value))).get? a = some (seqObj "list" #[] e1) := ⟨_, get?_update_seq ha fun _ => #[]⟩
  generalize hh2 : s1.heap.update a (Obj.mapSeq fun _ => (#[] : Array Value)) = h2 at ha1
  have sz2 : h2.objs.size = s1.heap.objs.size := by rw [← hh2, Heap.size_update]
  have same := Heap.SameBut.update s1.heap a (Obj.mapSeq fun _ => (#[] : Array Value))
  rw [hh2] at same
  generalize hh3 : h2.push (seqObj "tuple" vs.toArray 0) = h3
  have sz3 : h3.objs.size = s1.heap.objs.size + 1 := by rw [← hh3, size_push', sz2]
  have big : s.heap.objs.size ≤ h3.objs.size := Nat.le_trans hsa (Nat.le_trans (Nat.le_of_lt lt) (by rw [sz3]; exact Nat.le_succ _))
  have hn : H0 h3.objs.size = none := I.hok.fresh big
  have fk : FpOk X pins H0 h3.objs.size := I.fpOk big hn
  have hka : h3.objs.size ≠ a := by rw [sz3]; exact Nat.ne_of_gt (Nat.lt_succ_of_lt lt)
  have I2 : Inv X pins σ H0 { s1 with heap := h2 } := I1.turned (h' := h2) (t' := s1.toks) (fun b o hb eo => (same.2 b hb).trans eo) hna fa.2.1 fa.2.2.2.1 fa.2.2.2.2.1 fa.2.2.2.2.2
  have I3 : Inv X pins σ H0 { s1 with heap := h3.push (seqObj "list" #[] 0) } := I2.kept (h' := h3.push (seqObj "list" #[] 0)) (t' := s1.toks) fun b o eo => Heap.get?_push_of_some _ (by rw [← hh3]; exact Heap.get?_push_of_some _ eo)
  unfold ksk_tree
  refine wpAny_bind (listItems_at ha rfl ?_)
  refine wpAny_bind (listUpdate_at ha rfl ?_ (by simpa using hz) (by simp))
  rw [hh2]
  refine wpAny_bind (seqEpoch_at ha1 rfl ?_)
  refine wpAny_bind (wpAny_newTuple ?_ (by simpa using hz))
  refine wpAny_bind (wpAny_newList ?_ (Nat.zero_le _))
  refine wpAny_holding ?_
  have e3 : h2.push { cls := .type "tuple", data := .seq (vs.toArray.toList).toArray } = h3 := by rw [← hh3]
  show wpAny _ _ (ksk_rest a (.ref q) false vs.toArray e1 (.ref (h2.push { cls := .type "tuple", data := .seq (vs.toArray.toList).toArray }).objs.size)) _ _ { s1 with heap := (h2.push { cls := .type "tuple", data := .seq (vs.toArray.toList).toArray }).push (seqObj "list" #[] 0) }
  rw [e3]
  refine kl_rest J C hr fa fk hka ⟨[], 0, H0, ρ0, h0, rfl, Heap.get?_push_size _ rfl, Heap.get?_push_of_some _ (by rw [← hh3]; exact Heap.get?_push_of_some _ ha1), .nil, I3, hna, hn, S0, Ext.refl, by simpa using km⟩ rds rv km.len hk hz
theorem kl_sorted (J : Jc X W wx) (C : Callee X W k q ps [] r) (hr : RoomG (k + 1) X.A) {s s1 : Shared} {vs : List Value} {ws : List V} (I : Inv X pins σ H0 s) {h0 : Hh} (S0 : Sim W Z ρ0 h0 H0) (I1 : Inv X pins σ H0 s1) (big : s.heap.objs.size ≤ s1.heap.objs.size)
    (km : KM r xs h0 kds hF) (rds : RDs W Z ρ0 H0 xs ws) (rv : Vals ws vs) (hk : keysOk kds = true) (hz : vs.length ≤ sizeLine) {Q : VK} {E : Value → Shared → Prop}
    (hq : ∀ ρ' H' u, Ext ρ0 H0 ρ' H' → Sim W Z ρ' hF H' → RD W Z ρ' H' (.lst (sortK kds xs)) u → Q u H') :
    wpAny (model X.prog X.w) X.A.in1 (do let l ← newList vs; let _ ← holding [l] (call (.builtin "list.sort") [l] [(PySem.Str.ofString "key", .ref q)]); ret l) (fun fin s' => ∃ v, fin = .done (.ret v) ∧ EP X pins σ Q v s') E s1 := by
  have hn : H0 s1.heap.objs.size = none := I.hok.fresh big
  have at1 : (s1.heap.push (seqObj "list" vs.toArray 0)).get? s1.heap.objs.size = some (seqObj "list" vs.toArray 0) := Heap.get?_push_size _ rfl
  have I2 : Inv X pins σ H0 { s1 with heap := s1.heap.push (seqObj "list" vs.toArray 0) } := I1.kept (h' := s1.heap.push (seqObj "list" vs.toArray 0)) (t' := s1.toks) fun b o eo => Heap.get?_push_of_some _ eo
  refine wpAny_bind (wpAny_newList ?_ hz)
  show wpAny _ _ _ _ _ { s1 with heap := s1.heap.push (seqObj "list" vs.toArray 0) }
  refine wpAny_bind (wpAny_holding (wpAny_call_entry_kw F.slot_list_sort ⟨_, at1, rfl⟩ F.entry_list_sort ?_ (ksk_l1 _ _)))
  rw [ksk_t1]
  refine wpAny_mono (kl_tree (E := E) J C hr I S0 I2 big at1 hn km rds rv hk hz) (fun f s' hf => ?_) fun _ _ z => z
  obtain ⟨rfl, H, ρ, out, I', na, S, x, rd⟩ := hf
  refine ⟨_, rfl, wpAny_pure ⟨_, rfl, .ref s1.heap.objs.size, _, I', rfl, ?_⟩⟩
  exact hq ρ _ _ (x.trans (Ext.laid na)) (S.laid na) (.lst (S.new na).1 (S.new na).2 upd_same (rd.mono (Ext.laid na)))
end
theorem post_sortKE {W : Wd} {Z ρ : List Addr} {H : Hp} {r : List D → Hh → R D} {xs : List D} {h : Hh} {Q : VK} {E : XK} (p : Post W Z ρ H (sortKE r xs h) (fun d ρ' _ H' => ∀ v, RD W Z ρ' H' d v → Q v H') E) :
    ∃ kds hF, KM r xs h kds hF ∧ keysOk kds = true ∧ ∀ ρ' H' u, Ext ρ H ρ' H' → Sim W Z ρ' hF H' → RD W Z ρ' H' (.lst (sortK kds xs)) u → Q u H' := by
  unfold sortKE at p
  cases hm : keysM r xs h with
  | ok kds hF =>
    rw [hm, noX_ok, R.bind_ok] at p
    by_cases hk : keysOk kds = true
    · rw [if_pos hk] at p
      exact ⟨kds, hF, keysM_km hm, hk, fun ρ' H' u x S rd => p ρ' H' x S u rd⟩
    · rw [if_neg hk] at p
      exact p.elim
  | xn x h => rw [hm] at p; exact p.elim
  | bad => rw [hm] at p; exact p.elim
section
variable {X : Cx} {W : Wd} {wx : WX} {k : Nat} {q : Addr} {ps : List Str} {r : List D → Hh → R D}
end
end Fw
end
section
set_option Elab.async false
set_option maxHeartbeats 1000000
namespace Fw
open PySem PySem.Spec PyProof.Rows L2
section
variable {X : Cx} {pins : List (Addr × Obj)} {σ : L2.St} {H : Hp} {s : Shared}
theorem tups_seen {h' : Heap} {tk : Nat} {kvs : List (Key × V)} {vs : List (Key × Value)} {as : List Addr} (I : Inv X pins σ H s) (kv : KV kvs vs) (hk : ∀ b o, s.heap.get? b = some o → h'.get? b = some o) (hl : as.length = vs.length) (hG : PySem.W.KdxG (mixKind X.prog X.w) vs s.heap.objs.size h' as) :
    ∃ H1 : Hp, (∀ b o, H b = some o → H1 b = some o) ∧ (∀ t ∈ as, H t = none) ∧ Paired (fun (t : Addr) (q : Key × V) => ∃ o : Obj, H1 t = some (.frz o (.tup [kV q.1, q.2])) ∧ o.dict = none) as kvs ∧ Inv X pins σ H1 { s with heap := h', toks := tk } := by
  have lens : as.length = kvs.length := by rw [hl]; exact (Paired.length kv).symm
  have nodup : as.Nodup := hG.rise.imp fun {a b} (h : a < b) => Nat.ne_of_lt h
  have fresh : ∀ t ∈ as, H t = none := fun t ht => I.hok.fresh (Nat.le_of_lt (hG.above t ht))
  have seen := LiI.putT_at as kvs H lens nodup
  obtain ⟨G, hG1, hG3, hG2⟩ : ∃ G : Hp, (∀ b ∉ as, G b = H b) ∧ (∀ b ∈ as, ∀ u, LiI.putT H as kvs b = some u → ∃ o : Obj, G b = some (.frz o u) ∧ o.dict = none) ∧ ∀ b ∈ as, ∃ (j : Nat) (pr : Key × V) (key : Value) (kk : Key) (val : Value), as[j]? = some b ∧ kvs[j]? = some pr ∧ vs[j]? = some (kk, val) ∧ (mixKind X.prog X.w).is kk key = true ∧ h'.get? b = some { cls := .type "tuple", data := .seq #[key, val] } ∧ G b = some (.frz { cls := .type "tuple", data := .seq #[key, val] } (.tup [kV pr.1, pr.2])) := by
    refine ⟨fun b => if b ∈ as then (LiI.putT H as kvs b).map fun u => .frz ((h'.get? b).getD { cls := .type "tuple", data := .seq #[] }) u else H b, fun b hb => if_neg hb, fun b hb u eu => ?_, fun b hb => ?_⟩
    · obtain ⟨j, pr, i1, i2, i3⟩ := LiI.paired_ix seen hb
      obtain ⟨key, kk, val, j1, j2, j3⟩ := hG.pairs j b i1
      exact ⟨{ cls := .type "tuple", data := .seq #[key, val] }, by dsimp only; rw [if_pos hb, eu, j3]; rfl, rfl⟩
    obtain ⟨j, pr, i1, i2, i3⟩ := LiI.paired_ix seen hb
    obtain ⟨key, kk, val, j1, j2, j3⟩ := hG.pairs j b i1
    exact ⟨j, pr, key, kk, val, i1, i2, j1, j2, j3, by dsimp only; rw [if_pos hb, i3, j3]; rfl⟩
  have young : ∀ {b : Addr} {o : Obj}, s.heap.get? b = some o → b ∉ as := fun eo hb => Nat.lt_irrefl _ (Nat.lt_trans (hG.above _ hb) (Heap.lt_size eo))
  have up : ∀ b u, H b = some u → G b = some u := fun b u eo => by
    rw [hG1 b fun hb => by rw [fresh b hb] at eo; cases eo]
    exact eo
  refine ⟨G, up, fresh, ?_, I.un (t' := tk) ⟨fun b o eo _ _ _ => hk b o eo, fun b o eo _ _ _ => ⟨o.slots, hk b o eo⟩, fun b o eo n _ => ?_, fun b o eo _ => ⟨o, hk b o eo⟩, fun b xs eo => up b _ eo, fun b o u eo => up b _ eo, fun b ps eo => ⟨#[], by rw [up b _ eo]; simp⟩⟩ fun b u eo => ?_⟩
  · have : ∀ (l : List Addr) (ks : List (Key × V)), Paired (fun (t : Addr) (q : Key × V) => LiI.putT H as kvs t = some (.tup [kV q.1, q.2])) l ks → (∀ t ∈ l, t ∈ as) → Paired (fun (t : Addr) (q : Key × V) => ∃ o : Obj, G t = some (.frz o (.tup [kV q.1, q.2])) ∧ o.dict = none) l ks := by
      intro l ks pp
      induction pp with
      | nil => intro _; exact .nil
      | cons e t ih =>
        intro hm
        refine .cons ?_ (ih fun t ht => hm t (List.mem_cons_of_mem _ ht))
        exact hG3 _ (hm _ List.mem_cons_self) _ e
    exact this as kvs seen fun t ht => ht
  · rw [hG1 b (young eo)]
    exact n
  · by_cases hb : b ∈ as
    · obtain ⟨j, pr, key, kk, val, i1, i2, j1, j2, j3, eG⟩ := hG2 b hb
      rw [eG] at eo
      cases eo
      obtain ⟨w, k1, k2, k3⟩ := LiI.paired_get kv i2
      rw [j1] at k1
      cases k1
      have rk : RelV (kV pr.1) key := by
        rw [k2]
        exact relV_key (show keyIs kk key = true from j2)
      exact ⟨j3, by show 2 ≤ sizeLine; decide, [key, val], .cons rk (.cons k3 .nil), ⟨_, j3, rfl, _, rfl⟩⟩
    · rw [hG1 b hb] at eo
      exact (I.hok b u eo).stay (fun d v _ y => hk d v y) (fun d y => up d _ y) fun d xs y => up d _ y
end
section
variable {X : Cx} {W : Wd} {wx : WX} {k : Nat} {q : Addr} {ps : List Str} {r : List D → Hh → R D}
def rSKI (W : Wd) (r : List D → Hh → R D) : V → Hp → VK → Prop := fun v H Q => ∃ Z ρ h d xs kds hF, Sim W Z ρ h H ∧ RD W Z ρ H d v ∧ asDct h d = some xs ∧ KM r (itemsL xs) h kds hF ∧ keysOk kds = true ∧
  ∀ ρ' H' u, Ext ρ H ρ' H' → Sim W Z ρ' hF H' → RD W Z ρ' H' (.lst (sortK kds (itemsL xs))) u → Q u H'
theorem pe_sortKI {e : Expr} {te : TE} {f : Str} {p pf kpos apos cpos pos : Pos} (J : Jc X W wx) (hc : X.calm = true) (C : Callee X W k q ps [] r) (hr : RoomG (k + 1) X.A) (hmf : X.mg f = some (.ref q)) (he : PE X e te) (hg : Gl X "sorted") (hm : X.mg "sorted" = none) (hgf : Gl X f) (hdf : (f == ("__debug__" : Str)) = false)
    (hbase : attributeBase e "items" X.env (eval e X.env) = eval e X.env) (hline : (apos.endLine == cpos.line) = true)
    (hs : backTo pos (starEach [.Call (.Attribute e "items" apos) [] [] cpos] X.env) = (false, eval (.Call (.Attribute e "items" apos) [] [] cpos) X.env) :: backTo pos (starEach [] X.env)) (hpl : (backTo pos (starEach [.Call (.Attribute e "items" apos) [] [] cpos] X.env)).any (·.1) = false)
    (hall : (backToKw pos (keywordEach [⟨some "key", .Name f pf, kpos⟩] X.env)).all (·.1.isSome) = true) (hnone : (backToKw pos (keywordEach [⟨some "key", .Name f pf, kpos⟩] X.env)).any (·.1.isNone) = false) (hks : (backToKw pos (keywordEach [⟨some "key", .Name f pf, kpos⟩] X.env)).filterMap (·.1) = [PySem.Str.ofString "key"]) :
    PE X (.Call (.Name "sorted" p) [.Call (.Attribute e "items" apos) [] [] cpos] [⟨some "key", .Name f pf, kpos⟩] pos) (fun σ H Q => te σ H fun x H1 => rSKI W r x H1 Q) := by
  refine ⟨fun pins s σ H Q I hq => ?_⟩
  refine wpAny_Call_Name_kw (ld_blt I hg hm (show bootBuiltins "sorted" = some (.builtin "sorted") from by decide +kernel) ?_ (by decide) (by decide))
  refine PyProof.Rows.callWith_kw ?_ hs hpl hall hnone
  rw [hs]
  refine Calls.spliced_cons ?_
  refine wpAny_Call_method (T := "dict") (id := "dict.items") hbase rfl hline F.plainAttrs_dict F.slot_dict_items F.type_dict_items (thn (he.run pins s σ H _ I hq) fun u s1 ⟨x, H1, I1, rx, Z, ρ, h, d, xs, kds, hF, S, rd, ed, km, hko, hq⟩ => ?_)
  obtain ⟨dd, kvs, rfl, hd, rks⟩ := asDct_ok S rd ed
  obtain rfl : u = Value.ref dd := rx
  obtain ⟨hz, hs0, vs, kv, hdo⟩ := dk_rd I1.hok hd
  obtain ⟨ep, hat⟩ := hdo.dictAt
  have I2 : Inv X pins σ H1 { s1 with heap := s1.heap.push { cls := .type "dict_items", data := .fields #[.ref dd] } } := I1.kept (t' := s1.toks) fun b ob y => Heap.get?_push_of_some _ y
  refine ⟨hdo.typeIs, hdo.mapOf.noDict, ?_⟩
  show wpAny _ _ (callWith cpos (.builtin "dict.items") [.ref dd] [] []) _ X.xe s1
  refine method_meetsIn F.slot_dict_items F.entry_dict_items rfl (PySem.evalArgs_none ⟨rfl, hdo.typeIs, F.args_dict_items_1 _, _, meets_dict_items (mixKind X.prog X.w) dd hs0, ⟨vs, hdo⟩, ?_⟩)
  refine Calls.spliced_nil ?_
  have nv : H1 s1.heap.objs.size = none := I1.hok.fresh (Nat.le_refl _)
  have vw : (s1.heap.push { cls := .type "dict_items", data := .fields #[.ref dd] }).get? s1.heap.objs.size = some { cls := .type "dict_items", data := .fields #[.ref dd] } := Heap.get?_push_size _ rfl
  have I3 := I2.pinned (fp := [s1.heap.objs.size]) (fun b hb => by rw [List.mem_singleton.mp hb]; exact I1.fpOk (Nat.le_refl _) nv) (fun b hb => by rw [List.mem_singleton.mp hb]; exact ⟨_, vw, fun v z => by cases z⟩)
  refine thn ((pk_cons (nm := some "key") (kpos := kpos) (pe_glob (v := .ref q) (pos := pf) hgf hmf rfl hdf) pk_nil).run pos _ _ σ H1 (fun zs H2 => zs = [.ref q] ∧ H2 = H1) I3 ⟨rfl, rfl⟩) fun ws s2 ⟨zs, H2, I4, rz, ez, eH⟩ => ?_
  subst ez eH
  obtain ⟨w, rfl, rw'⟩ := vals1 rz
  obtain rfl : w = Value.ref q := rw'
  have vw2 := (I4.pin (s1.heap.objs.size, _) (List.mem_append_right _ (List.mem_append_right _ (mem_pinsAt List.mem_cons_self vw)))).1
  have I5 := I4.unpinned
  obtain ⟨hz', hs0', vs2, kv2, hdo2⟩ := dk_rd I5.hok hd
  obtain ⟨ep2, hat2⟩ := hdo2.dictAt
  rw [hks]
  show wpAny _ X.A (call (.builtin "sorted") [.ref s1.heap.objs.size] [(PySem.Str.ofString "key", .ref q)]) _ _ s2
  refine call_function_entry_kw kind_sorted plain_sorted entry_sorted (ksk_s1 _ _) ?_
  unfold Builtin.«sorted»
  refine wpAny_bind (m := checkCount "sorted" 1 1 _) (wpAny_pure ?_)
  have lk2 : kvs.length = vs2.length := Paired.length kv2
  refine wpAny_bind (PySem.W.kdx_collect (A := X.A.in1) (knd := mixKind X.prog X.w) (kvs := vs2) (ep := ep2) (I5.ok.hd hc) ⟨_, vw2, rfl, rfl⟩ hat2 (by omega) fun h' tk as hk hl hG => ?_)
  obtain ⟨H3, up, fresh, pr, I6⟩ := tups_seen (tk := tk) I5 kv2 hk hl hG
  have grow : Ext ρ H2 ρ H3 := Ext.grow up
  have S3 := S.grow up
  have rds : RDs W Z ρ H3 (itemsL xs) (as.map V.ref) := rds_items (rks.mono grow) (L2.Paired.mapP pr fun a b ⟨o, e, hd⟩ => .ofP hd e) fun t ht => S.new (fresh t ht)
  exact kl_sorted J C hr I6 S3 I6 (Nat.le_refl _) km rds (LiI.vals_refs as) hko (by rw [List.length_map]; omega) fun ρ' H' u x S' rd' => hq ρ' H' u (grow.trans x) S' rd'
theorem ej_sortKI {a : Expr} {fa : TM} {f : Str} {p pf kpos apos cpos pos : Pos} (J : Jc X W wx) (hc : X.calm = true) (C : Callee X W k q ps [] r) (hr : RoomG (k + 1) X.A) (hmf : X.mg f = some (.ref q)) (ha : EJ X W wx a fa) (hg : Gl X "sorted" := by rfl) (hm : X.mg "sorted" = none := by assumption) (hgf : Gl X f := by rfl) (hdf : (f == ("__debug__" : Str)) = false := by decide)
    (hbase : attributeBase a "items" X.env (eval a X.env) = eval a X.env := by rfl) (hline : (apos.endLine == cpos.line) = true := by rfl)
    (hs : backTo pos (starEach [.Call (.Attribute a "items" apos) [] [] cpos] X.env) = (false, eval (.Call (.Attribute a "items" apos) [] [] cpos) X.env) :: backTo pos (starEach [] X.env) := by rfl) (hpl : (backTo pos (starEach [.Call (.Attribute a "items" apos) [] [] cpos] X.env)).any (·.1) = false := by rfl)
    (hall : (backToKw pos (keywordEach [⟨some "key", .Name f pf, kpos⟩] X.env)).all (·.1.isSome) = true := by rfl) (hnone : (backToKw pos (keywordEach [⟨some "key", .Name f pf, kpos⟩] X.env)).any (·.1.isNone) = false := by rfl) (hks : (backToKw pos (keywordEach [⟨some "key", .Name f pf, kpos⟩] X.env)).filterMap (·.1) = [PySem.Str.ofString "key"] := by rfl) :
    EJ X W wx (.Call (.Name "sorted" p) [.Call (.Attribute a "items" apos) [] [] cpos] [⟨some "key", .Name f pf, kpos⟩] pos) (eSortKI r fa) :=
  ⟨fun pins s σ H Q I ⟨Z, ρ, σd, h0, S, rs, pp⟩ => (pe_sortKI J hc C hr hmf ha hg hm hgf hdf hbase hline hs hpl hall hnone hks).run pins s σ H Q I
    ⟨Z, ρ, σd, h0, S, rs, (Post.bind pp).imp fun d ρ1 h1 H1 x1 S1 p1 v rv => by
      cases e1 : asDct h1 d with
      | none => rw [e1] at p1; exact p1.elim
      | some xs =>
        rw [e1] at p1
        obtain ⟨kds, hF, km, hk, hq⟩ := post_sortKE p1
        exact ⟨Z, ρ1, h1, d, xs, kds, hF, S1, rv, e1, km, hk, hq⟩⟩⟩
end
end Fw
end
section
set_option Elab.async false
set_option maxHeartbeats 3200000
namespace Fw
open PySem PySem.Spec PyProof.Rows L2
section
variable {X : Cx} {W : Wd} {wx : WX} {tg iter elt tg1 iter1 : Expr} {ifs ifs1 : List Expr} {scope : Scope} {own : List (Str × Nat)} {own1 : List Nat} {pos : Pos} {f : TM} {gb gb1 : BM} {it it1 : It} {src src1 : AM} {g g1 : G}
end
end Fw
end
section
set_option Elab.async false
set_option maxHeartbeats 3200000
namespace Fw
open PySem PySem.Spec PyProof.Rows L2
def KPl (K : PySem.W.Frag) : Prop := ∀ (a : Addr) (o : Obj), K.lookup a = some o → o.cls = .type "tuple" → o.dict = none
theorem lookup_mem : ∀ {K : PySem.W.Frag} {a : Addr} {o : Obj}, K.lookup a = some o → (a, o) ∈ K
  | [], _, _, h => by cases h
  | (b, u) :: K, a, o, h => by
    rw [List.lookup_cons] at h
    split at h
    · rename_i e
      cases h
      rw [eq_of_beq e]
      exact List.mem_cons_self
    · exact List.mem_cons_of_mem _ (lookup_mem h)
theorem kplB_ok {K : PySem.W.Frag} (h : kplB K = true) : KPl K := by
  intro a o e c
  have q := List.all_eq_true.mp h (a, o) (lookup_mem e)
  obtain ⟨cl, d, p, s⟩ := o
  dsimp only at c
  subst c
  simpa using q
def nDictTO (_ : Hh) : D → Option O
  | .tup xs => (asPairs xs).map fun kvs => .dct (mergeP [] kvs)
  | _ => none
def dictTD (_ : Hh) : D → Option D
  | .tup xs => (asPairs xs).map fun kvs => .dct (mergeP [] kvs)
  | _ => none
section
variable {X : Cx}
theorem pairs_ofT {pins : List (Addr × Obj)} {σ : L2.St} {H : Hp} {s : Shared} (I : Inv X pins σ H s) : ∀ {ps : List Addr} {kvs : List (Key × V)}, Paired (fun p kv => SqT X.K H p [kV kv.1, kv.2]) ps kvs →
    ∃ (prs : List (Key × Value)) (pvs : List (Value × Value)), KV kvs prs ∧ prs.length = ps.length ∧ pvs.length = ps.length ∧
      ∀ (j : Nat) (k v : Value), pvs[j]? = some (k, v) → ∃ (b : Addr) (kk : Key), ps[j]? = some b ∧ IsTup s.heap b #[k, v] ∧ prs[j]? = some (kk, v) ∧ (mixKind X.prog X.w).is kk k = true
  | _, _, .nil => ⟨[], [], .nil, rfl, rfl, fun j k v e => by simp at e⟩
  | _, _, .cons (a := p) (b := kv) h t => by
    obtain ⟨prs, pvs, r, hl, hl2, hp⟩ := pairs_ofT I t
    obtain ⟨its, rv, ht, _⟩ := I.tuple h
    obtain ⟨u, y, ei, ru, ry⟩ := vals2 rv
    subst ei
    refine ⟨(kv.1, y) :: prs, (u, y) :: pvs, .cons ⟨rfl, ry⟩ r, by simp [hl], by simp [hl2], fun j k v e => ?_⟩
    cases j with
    | zero =>
      simp only [List.getElem?_cons_zero, Option.some.injEq, Prod.mk.injEq] at e
      obtain ⟨rfl, rfl⟩ := e
      exact ⟨p, kv.1, rfl, ht, rfl, kV_is (P := X.prog) (w := X.w) ru⟩
    | succ j =>
      obtain ⟨b, kk, e1, e2, e3, e4⟩ := hp j k v (by simpa using e)
      exact ⟨b, kk, by simpa using e1, e2, by simpa using e3, e4⟩
theorem call_dictPT (hcalm : X.calm = true) : CallR X (.type "dict") (fun xs H Q => ∃ (a : Addr) (ps : List Addr) (kvs : List (Key × V)), xs = [.ref a] ∧
    ((∃ o : Obj, H a = some (.frz o (.tup (ps.map V.ref))) ∧ o.dict = none) ∨ ∃ (o : Obj) (its : Array Value) (n : Nat), X.K.lookup a = some o ∧ o.cls = .type "tuple" ∧ o.dict = none ∧ o.data = .seq its n ∧ its.size ≤ sizeLine ∧ Vals (ps.map V.ref) its.toList) ∧
    Paired (fun p kv => SqT X.K H p [kV kv.1, kv.2]) ps kvs ∧ ∀ p, H p = none → Q (.ref p) (upd H p (.dK (mergeK [] kvs)))) := by
  intro pins s σ H xs us Q I r q
  obtain ⟨a, ps, kvs, ex, hq, hp, q⟩ := q
  subst ex
  obtain ⟨u, eu, rx⟩ := vals1 r
  subst eu
  cases rx
  obtain ⟨its, rv, pl, hz⟩ : ∃ its : List Value, Vals (ps.map V.ref) its ∧ PlainSeq "tuple" s.heap a its.toArray ∧ (ps.map V.ref).length ≤ sizeLine := by
    rcases hq with ⟨o, e, hd⟩ | ⟨o, its, n, hk, hc, hd, hs, hz, rv⟩
    · obtain ⟨eg, hz, its, rv, o', eo, hc, n, hdat⟩ := (show ObjOk X.prog X.w H s.heap a (.frz o (.tup (ps.map V.ref))) from I.hok a _ e)
      rw [eg] at eo
      cases eo
      exact ⟨its, rv, ⟨o, n, eg, hc, hd, hdat⟩, hz⟩
    · refine ⟨its.toList, rv, ⟨o, n, I.kIn a o hk, hc, hd, by simpa using hs⟩, ?_⟩
      have e := rv.length
      simp only [Array.length_toList] at e
      omega
  have ei := refs_at rv
  subst ei
  rw [List.length_map] at hz
  obtain ⟨prs, pvs, rel, hl, hl2, hpr⟩ := pairs_ofT I hp
  have hTs : ∀ (j : Nat) (b : Addr), ps[j]? = some b → ps.getD j 0 = b := fun j b e => by rw [List.getD_eq_getElem?_getD, e]; rfl
  refine PySem.call_dict_pairs (knd := mixKind X.prog X.w) (kvs := prs) (PairArg.tuple a (ps.map Value.ref).toArray (fun j => ps.getD j 0) pvs) (I.ok.hd hcalm) ⟨pl, by simp [hl2], fun j k v e => ?_⟩ ⟨by rw [hl, hl2], fun j k v e => ?_⟩ (by rw [hl2]; exact hz) fun h' tk hd' kk => ?_
  · obtain ⟨b, kk, e1, e2, e3, e4⟩ := hpr j k v e
    dsimp only
    rw [hTs j b e1]
    exact ⟨by simp [e1], .inl e2⟩
  · obtain ⟨b, kk, e1, e2, e3, e4⟩ := hpr j k v e
    exact ⟨kk, e3, e4⟩
  · have hm : (s.heap.objs.size == sysModules) = false := beq_eq_false_iff_ne.mpr (Nat.ne_of_gt I.big)
    have hlen : (mergeK [] kvs).length ≤ sizeLine := by
      refine Nat.le_trans (length_mergeK kvs []) ?_
      rw [List.length_nil, Nat.zero_add, Paired.length rel, hl]
      exact hz
    exact ⟨.ref s.heap.objs.size, upd H s.heap.objs.size (.dK (mergeK [] kvs)), I.laid (t' := tk) (fun b o e => kk b o (by simp) e) (Nat.le_refl _) (show ObjOk X.prog X.w _ _ _ (.dK (mergeK [] kvs)) from ⟨hlen, hm, merged [] prs, KV.merge rel .nil, hd'⟩), rfl, q _ (I.hok.fresh (Nat.le_refl _))⟩
end
section
variable {X : Cx} {W : Wd}
theorem tup_plain {Z ρ : List Addr} {H : Hp} (hpl : W.pl = true) (hKP : KPl W.K) {xs : List D} {v : V} (r : RD W Z ρ H (.tup xs) v) : ∃ a vs, v = .ref a ∧ RDs W Z ρ H xs vs ∧
    ((∃ o : Obj, H a = some (.frz o (.tup vs)) ∧ o.dict = none) ∨ ∃ (o : Obj) (its : Array Value) (n : Nat), W.K.lookup a = some o ∧ o.cls = .type "tuple" ∧ o.dict = none ∧ o.data = .seq its n ∧ its.size ≤ sizeLine ∧ Vals vs its.toList) := by
  cases r with
  | tup z ra q t =>
    obtain ⟨u, e, hu⟩ := q
    rcases hu with ⟨_, hf⟩ | ⟨o, rfl, hd⟩
    · rw [hpl] at hf; cases hf
    · exact ⟨_, _, rfl, t, .inl ⟨o, e, hd⟩⟩
  | tupK k t =>
    obtain ⟨o, its, n, hk, hc, hs, hz, rv⟩ := k
    exact ⟨_, _, rfl, t, .inr ⟨o, its, n, hk, hc, hKP _ _ hk hc, hs, hz, rv⟩⟩
theorem cl_dictPT (hK : X.K = W.K) (hc : X.calm = true) (hKP : KPl W.K) (hpl : W.pl = true := by rfl) : CallR X (.type "dict") (r1 W dictTD) := by
  intro pins s σ H xs us Q I rv ⟨Z, ρ, h, d, r, v, hx, S, rd, e, hA⟩
  subst hx
  cases d <;> simp only [dictTD] at e <;> first | (cases e; done) | skip
  obtain ⟨kvs, e2, rfl⟩ := Option.map_eq_some_iff.mp e
  obtain ⟨a, vs, rfl, t, hq⟩ := tup_plain hpl hKP rd
  obtain ⟨ps, us', rfl, hp, rk⟩ := pairs_ok t e2
  exact call_dictPT hc pins s σ H _ us Q I rv ⟨a, ps, us', rfl, hK ▸ hq, hK ▸ hp, fun p n => hA.dct S (rks_merge rk .nil) p n⟩
theorem cl_nDictT (hK : X.K = W.K) (hc : X.calm = true) (hKP : KPl W.K) (hpl : W.pl = true := by rfl) : CallR X (.type "dict") (rNewO W nDictTO) := by
  intro pins s σ H xs us Q I rv ⟨Z, ρ, h, d, o, v, hx, S, rd, e, hA⟩
  subst hx
  cases d <;> simp only [nDictTO] at e <;> first | (cases e; done) | skip
  obtain ⟨kvs, e2, rfl⟩ := Option.map_eq_some_iff.mp e
  obtain ⟨a, vs, rfl, t, hq⟩ := tup_plain hpl hKP rd
  obtain ⟨ps, us', rfl, hp, rk⟩ := pairs_ok t e2
  exact call_dictPT hc pins s σ H _ us Q I rv ⟨a, ps, us', rfl, hK ▸ hq, hK ▸ hp, fun l n => hA (ρ ++ [l]) _ _ (Ext.own n) (S.own (o := .dK (mergeK [] us')) (ob := .dct (mergeP [] kvs)) n (.dct upd_same ((rks_merge rk .nil).mono (Ext.own n)))) (.ref (by rw [← S.len]; simp))⟩
end
end Fw
end
section
set_option Elab.async false
set_option maxHeartbeats 1000000
namespace Fw
open PySem PySem.Spec PyProof.Rows L2
def roddedE (fa : TM) (σ : Sg) (h : Hh) : Option (Nat × Hh) := match fa σ h with
  | .ok (.ref n) _ => (match h[n]? with
    | some (.dct kvs) => some (n, h.set n (.rod kvs))
    | _ => none)
  | _ => none
def sRodE (fa : TM) (t : SM) : SM := fun σ h => match roddedE fa σ h with
  | some q => unrodS q.1 (t σ q.2)
  | none => .bad
def aKeysE (fa : TM) : AM := fun σ h => (fa σ h).bind fun d h => match d with
  | .ref n => (match h[n]? with
    | some (.rod kvs) => .ok [.lst (kvs.map fun q => keyD q.1)] h
    | _ => .bad)
  | _ => .bad
section
variable {X : Cx} {W : Wd} {wx : WX} {tg : Expr}
theorem ij_keysE {e : Expr} {fa : TM} (he : EJ X W wx e fa) : IJ X W wx tg e .e (aKeysE fa) := by
  refine ⟨fun pins s σ H R I ⟨Z, ρ, σd, h0, S, rs, p⟩ => ?_⟩
  refine (pi_keys he).run pins s σ H R I ⟨Z, ρ, σd, h0, S, rs, ?_⟩
  unfold itM aKeysE at p
  cases hf : fa σd h0 with
  | ok d h1 =>
    rw [hf] at p
    intro ρ1 H1 x1 S1 v rv
    simp only [Fw.R.bind_ok] at p
    cases d <;> first | (exact p.elim) | skip
    rename_i n
    dsimp only at p
    split at p
    · rename_i kds eh
      obtain ⟨a, hn, q⟩ := S1.at_ eh
      cases rv with
      | ref hn2 =>
        rw [hn] at hn2
        cases hn2
        cases q with
        | rod q t =>
          rename_i od kvs
          exact ⟨a, od, rfl, .inl ⟨kvs, q, p ρ1 H1 x1 S1 (Itk a od kvs) (walks_keys q t)⟩⟩
    · exact p.elim
  | xn x h1 => rw [hf] at p; exact p
  | bad => rw [hf] at p; exact p
theorem roddedE_ok {fa : TM} {σd : Sg} {h : Hh} {Z ρ : List Addr} {H : Hp} {q : Nat × Hh} (S : Sim W Z ρ h H) (e : roddedE fa σd h = some q) : ∃ a kvs kds, ρ[q.1]? = some a ∧ H a = some (.dK kvs) ∧ RKs W Z ρ H kds kvs ∧ q.2 = h.set q.1 (.rod kds) := by
  unfold roddedE at e
  split at e
  · split at e
    · rename_i n _ hg kds eh
      cases e
      obtain ⟨a, hn, r⟩ := S.at_ eh
      cases r with
      | dct r t => exact ⟨a, _, kds, hn, r, t, rfl⟩
    · cases e
  · cases e
theorem sj_rodE {st : Stmt} {t : SM} (fa : TM) (he : SJ X W wx st t) : SJ X W wx st (sRodE fa t) := by
  refine ⟨fun pins s σ H D I ⟨Z, ρ, σd, h0, S, rs, p⟩ => ?_⟩
  unfold sRodE at p
  split at p
  · rename_i q eq
    obtain ⟨a, kvs, kds, hn, hq, tk, e2⟩ := roddedE_ok S eq
    refine (ps_lock ⟨fun pins s σ' H' D' I' (q : ∃ od, D' = endsL a od (.dK kvs) D ∧ σ' = σ ∧ H' = upd H a (.frz od (.dK kvs))) => ?_⟩).run pins s σ H D I ⟨a, .dK kvs, hq, trivial, fun od => ⟨od, rfl, rfl, rfl⟩⟩
    obtain ⟨od, rfl, rfl, rfl⟩ := q
    refine he.run pins s _ _ _ I' ⟨Z, ρ, σd, q.2, by rw [e2]; exact S.rodIn hn hq tk, rs.lk (lk_in hq), ?_⟩
    revert p
    generalize t σd q.2 = r
    intro p
    cases r with
    | nx σ1 h1 =>
      simp only [unrodS] at p
      cases eu : unrod q.1 h1 with
      | none => rw [eu] at p; exact p.elim
      | some h2 =>
        rw [eu] at p
        intro ρ' H' σ' x S' rs'
        have hf := x.fz a od _ upd_same
        exact ⟨hf, p ρ' _ σ' (ext_rod x hn hq) (S'.rodOut (pre_get x.pre hn) hf eu) (rs'.lk (lk_out hf))⟩
    | bk σ1 h1 =>
      simp only [unrodS] at p
      cases eu : unrod q.1 h1 with
      | none => rw [eu] at p; exact p.elim
      | some h2 =>
        rw [eu] at p
        intro ρ' H' σ' x S' rs'
        have hf := x.fz a od _ upd_same
        exact ⟨hf, p ρ' _ σ' (ext_rod x hn hq) (S'.rodOut (pre_get x.pre hn) hf eu) (rs'.lk (lk_out hf))⟩
    | ct σ1 h1 =>
      simp only [unrodS] at p
      cases eu : unrod q.1 h1 with
      | none => rw [eu] at p; exact p.elim
      | some h2 =>
        rw [eu] at p
        intro ρ' H' σ' x S' rs'
        have hf := x.fz a od _ upd_same
        exact ⟨hf, p ρ' _ σ' (ext_rod x hn hq) (S'.rodOut (pre_get x.pre hn) hf eu) (rs'.lk (lk_out hf))⟩
    | rt d h1 =>
      simp only [unrodS] at p
      cases eu : unrod q.1 h1 with
      | none => rw [eu] at p; exact p.elim
      | some h2 =>
        rw [eu] at p
        intro ρ' H' v x S' rv
        have hf := x.fz a od _ upd_same
        exact ⟨hf, p ρ' _ v (ext_rod x hn hq) (S'.rodOut (pre_get x.pre hn) hf eu) (rv.lk (lk_out hf))⟩
    | xn e σ1 h1 => exact p.elim
    | bad => exact p.elim
  · exact p.elim
end
end Fw
end
section
set_option Elab.async false
set_option maxHeartbeats 0
namespace Lw
open PySem PySem.Spec PyProof.Rows L2 Fw
abbrev N0 : List Str := ["thing"]
abbrev ps0 : List Str := ["thing"]
theorem sc0 : FnScope N0 ps0 (defScope st0) := ⟨rfl, rfl, rfl, by decide +kernel, rfl, by decide +kernel, by decide +kernel⟩
abbrev N1 : List Str := ["thing", "least", "most"]
abbrev ps1 : List Str := ["thing", "least", "most"]
theorem sc1 : FnScope N1 ps1 (defScope st1) := ⟨rfl, rfl, rfl, by decide +kernel, rfl, by decide +kernel, by decide +kernel⟩
abbrev N2 : List Str := ["thing"]
abbrev ps2 : List Str := ["thing"]
theorem sc2 : FnScope N2 ps2 (defScope st2) := ⟨rfl, rfl, rfl, by decide +kernel, rfl, by decide +kernel, by decide +kernel⟩
abbrev N3 : List Str := ["thing"]
abbrev ps3 : List Str := ["thing"]
theorem sc3 : FnScope N3 ps3 (defScope st3) := ⟨rfl, rfl, rfl, by decide +kernel, rfl, by decide +kernel, by decide +kernel⟩
abbrev N4 : List Str := ["thing"]
abbrev ps4 : List Str := ["thing"]
theorem sc4 : FnScope N4 ps4 (defScope st4) := ⟨rfl, rfl, rfl, by decide +kernel, rfl, by decide +kernel, by decide +kernel⟩
abbrev N5 : List Str := ["thing", "word"]
abbrev ps5 : List Str := ["thing", "word"]
theorem sc5 : FnScope N5 ps5 (defScope st5) := ⟨rfl, rfl, rfl, by decide +kernel, rfl, by decide +kernel, by decide +kernel⟩
abbrev N6 : List Str := ["value", "word", "key", "part"]
abbrev ps6 : List Str := ["value", "word"]
theorem sc6 : FnScope N6 ps6 (defScope st6) := ⟨rfl, rfl, rfl, by decide +kernel, rfl, by decide +kernel, by decide +kernel⟩
abbrev N7 : List Str := ["value"]
abbrev ps7 : List Str := ["value"]
theorem sc7 : FnScope N7 ps7 (defScope st7) := ⟨rfl, rfl, rfl, by decide +kernel, rfl, by decide +kernel, by decide +kernel⟩
abbrev N8 : List Str := ["value", "there", "reference"]
abbrev ps8 : List Str := ["value"]
theorem sc8 : FnScope N8 ps8 (defScope st8) := ⟨rfl, rfl, rfl, by decide +kernel, rfl, by decide +kernel, by decide +kernel⟩
abbrev N9 : List Str := ["number", "value", "there", "kids", "kid"]
abbrev ps9 : List Str := ["number", "value"]
theorem sc9 : FnScope N9 ps9 (defScope st9) := ⟨rfl, rfl, rfl, by decide +kernel, rfl, by decide +kernel, by decide +kernel⟩
abbrev N10 : List Str := ["entries", "value", "found", "word", "part"]
abbrev ps10 : List Str := ["entries", "value"]
theorem sc10 : FnScope N10 ps10 (defScope st10) := ⟨rfl, rfl, rfl, by decide +kernel, rfl, by decide +kernel, by decide +kernel⟩
abbrev N11 : List Str := ["entry"]
abbrev ps11 : List Str := ["entry"]
theorem sc11 : FnScope N11 ps11 (defScope st11) := ⟨rfl, rfl, rfl, by decide +kernel, rfl, by decide +kernel, by decide +kernel⟩
abbrev N12 : List Str := ["entries", "value", "found"]
abbrev ps12 : List Str := ["entries", "value"]
theorem sc12 : FnScope N12 ps12 (defScope st12) := ⟨rfl, rfl, rfl, by decide +kernel, rfl, by decide +kernel, by decide +kernel⟩
abbrev N13 : List Str := ["book", "found", "met", "first", "left", "value", "kids", "number", "entries", "kid"]
abbrev ps13 : List Str := ["book"]
theorem sc13 : FnScope N13 ps13 (defScope st13) := ⟨rfl, rfl, rfl, by decide +kernel, rfl, by decide +kernel, by decide +kernel⟩
abbrev N14 : List Str := ["book", "number", "kids", "entries"]
abbrev ps14 : List Str := ["book"]
theorem sc14 : FnScope N14 ps14 (defScope st14) := ⟨rfl, rfl, rfl, by decide +kernel, rfl, by decide +kernel, by decide +kernel⟩
abbrev N15 : List Str := ["book", "leaves", "number", "kids", "entries", "there", "count", "kid"]
abbrev ps15 : List Str := ["book"]
theorem sc15 : FnScope N15 ps15 (defScope st15) := ⟨rfl, rfl, rfl, by decide +kernel, rfl, by decide +kernel, by decide +kernel⟩
abbrev N16 : List Str := ["self", "things", "root", "free"]
abbrev ps16 : List Str := ["self", "things", "root", "free"]
theorem sc16 : FnScope N16 ps16 (defScope st16) := ⟨rfl, rfl, rfl, by decide +kernel, rfl, by decide +kernel, by decide +kernel⟩
abbrev N17 : List Str := ["self"]
abbrev ps17 : List Str := ["self"]
theorem sc17 : FnScope N17 ps17 (defScope st17) := ⟨rfl, rfl, rfl, by decide +kernel, rfl, by decide +kernel, by decide +kernel⟩
abbrev N18 : List Str := ["self", "number"]
abbrev ps18 : List Str := ["self", "number"]
theorem sc18 : FnScope N18 ps18 (defScope st18) := ⟨rfl, rfl, rfl, by decide +kernel, rfl, by decide +kernel, by decide +kernel⟩
abbrev N19 : List Str := ["self", "reference"]
abbrev ps19 : List Str := ["self", "reference"]
theorem sc19 : FnScope N19 ps19 (defScope st19) := ⟨rfl, rfl, rfl, by decide +kernel, rfl, by decide +kernel, by decide +kernel⟩
abbrev N20 : List Str := ["self", "reference"]
abbrev ps20 : List Str := ["self", "reference"]
theorem sc20 : FnScope N20 ps20 (defScope st20) := ⟨rfl, rfl, rfl, by decide +kernel, rfl, by decide +kernel, by decide +kernel⟩
abbrev N21 : List Str := ["_law_script", "_law_k", "_law_cell", "_law_left"]
abbrev ps21 : List Str := ["_law_script", "_law_k"]
theorem sc21 : FnScope N21 ps21 (defScope st21) := ⟨rfl, rfl, rfl, by decide +kernel, rfl, by decide +kernel, by decide +kernel⟩
abbrev N22 : List Str := ["_law_room_here", "_law_many", "_law_found"]
abbrev ps22 : List Str := ["_law_room_here", "_law_many"]
theorem sc22 : FnScope N22 ps22 (defScope st22) := ⟨rfl, rfl, rfl, by decide +kernel, rfl, by decide +kernel, by decide +kernel⟩
abbrev N23 : List Str := ["_law_room_here", "_law_words", "_law_found", "_law_turn", "_law_worths"]
abbrev ps23 : List Str := ["_law_room_here"]
theorem sc23 : FnScope N23 ps23 (defScope st23) := ⟨rfl, rfl, rfl, by decide +kernel, rfl, by decide +kernel, by decide +kernel⟩
abbrev N24 : List Str := ["_law_found", "_law_word"]
abbrev ps24 : List Str := ["_law_found"]
theorem sc24 : FnScope N24 ps24 (defScope st24) := ⟨rfl, rfl, rfl, by decide +kernel, rfl, by decide +kernel, by decide +kernel⟩
abbrev N25 : List Str := ["_law_room_here", "_law_stage", "_law_deep", "_law_spots", "_law_spot", "_law_found", "_law_kids", "_law_leaves_here", "_law_turn", "_law_own", "_law_kid"]
abbrev ps25 : List Str := ["_law_room_here", "_law_stage", "_law_deep"]
theorem sc25 : FnScope N25 ps25 (defScope st25) := ⟨rfl, rfl, rfl, by decide +kernel, rfl, by decide +kernel, by decide +kernel⟩
abbrev N26 : List Str := ["_law_room_here", "_law_far", "_law_stage", "_law_top"]
abbrev ps26 : List Str := ["_law_room_here", "_law_far"]
theorem sc26 : FnScope N26 ps26 (defScope st26) := ⟨rfl, rfl, rfl, by decide +kernel, rfl, by decide +kernel, by decide +kernel⟩
abbrev N27 : List Str := ["_law_top", "_law_nodes", "_law_things_here", "_law_one"]
abbrev ps27 : List Str := ["_law_top", "_law_nodes"]
theorem sc27 : FnScope N27 ps27 (defScope st27) := ⟨rfl, rfl, rfl, by decide +kernel, rfl, by decide +kernel, by decide +kernel⟩
abbrev N28 : List Str := ["_law_one", "_law_entries", "_law_own", "_law_is_node", "_law_word", "_law_found", "_law_kid"]
abbrev ps28 : List Str := ["_law_one", "_law_entries"]
theorem sc28 : FnScope N28 ps28 (defScope st28) := ⟨rfl, rfl, rfl, by decide +kernel, rfl, by decide +kernel, by decide +kernel⟩
abbrev N29 : List Str := ["_law_room_here", "_law_nodes", "_law_some", "_law_one", "_law_right", "_law_worths"]
abbrev ps29 : List Str := ["_law_room_here", "_law_nodes"]
theorem sc29 : FnScope N29 ps29 (defScope st29) := ⟨rfl, rfl, rfl, by decide +kernel, rfl, by decide +kernel, by decide +kernel⟩
abbrev N30 : List Str := ["_law_script", "_law_k", "_law_room_here", "_law_book", "_law_due", "_law_turn", "_law_is_bent", "_law_other", "_law_top", "_law_nodes", "_law_found"]
abbrev ps30 : List Str := ["_law_script"]
theorem sc30 : FnScope N30 ps30 (defScope st30) := ⟨rfl, rfl, rfl, by decide +kernel, rfl, by decide +kernel, by decide +kernel⟩
abbrev flds : List Str := ["own_things", "own_free", "own_root", "number"]
def ix_pages_full : Nat := 514
def Wk (K : PySem.W.Frag) : Wd where
  K := K
  fa := faW K
  ca := fun c => match c with
    | 0 => He.ga K "Book"
    | _ => 0
  an := anOf flds
  inj := anOf_inj (by decide +kernel) (by decide +kernel)
  pl := true
def dv16 (K : PySem.W.Frag) : List V := [.non, .ref (empA K)]
def kd_Book_init_root (ds es : List D) : List D := match ds, es with
  | [u0], [z0] => [u0, z0, (.fn empT)]
  | _, _ => []
def gg16_root {α : Type} (us ms zs : List α) : List α := match us, ms, zs with
  | [u0, u1], [m0], [z0] => [u0, u1, z0, m0]
  | u :: _, _, _ => [u]
  | _, _, _ => []
def lk16_root (K : PySem.W.Frag) : List (Str × V) := [("free", .ref (empA K))]
def kv16_root (K : PySem.W.Frag) (vs zs : List V) : List V := gg16_root vs ((lk16_root K).map (·.2)) zs
theorem kg16_root {K : PySem.W.Frag} (v : V) {Z ρ : List Addr} {H : Hp} {ds es : List D} {vs zs : List V} (r : RDs (Wk K) Z ρ H ds vs) (t : RDs (Wk K) Z ρ H es zs) : ∃ us, kv16_root K (v :: vs) zs = v :: us ∧ RDs (Wk K) Z ρ H (kd_Book_init_root ds es) us := by
  cases r with
  | nil => exact ⟨[], rfl, .nil⟩
  | cons r0 rr0 =>
    cases rr0 with
    | cons _ _ => exact ⟨[], rfl, .nil⟩
    | nil =>
      cases t with
      | nil => exact ⟨[], rfl, .nil⟩
      | cons t0 tt0 =>
        cases tt0 with
        | cons _ _ => exact ⟨[], rfl, .nil⟩
        | nil => exact ⟨_, rfl, (.cons r0 (.cons t0 (.cons (.fn empT) .nil)))⟩
def b_is_whole (c : Nat → List D → Hh → R D) (F : Nat) : SM := (sCons (sRet (eAnd (eU (isT (isOf .int)) (eV 0)) (eNot (eU (isT (isOf .bl)) (eV 0)))))
 sNil)
def b_is_from (c : Nat → List D → Hh → R D) (F : Nat) : SM := (sCons (sRet (eAnd (eCall (fun ds h => c ix_is_whole (ds ++ []) h) (aCons (eV 0) aNil)) (eCh .le .le (eV 1) (eV 0) (eV 2))))
 sNil)
def b_is_number (c : Nat → List D → Hh → R D) (F : Nat) : SM := (sCons (sRet (eCall (fun ds h => c ix_is_from (ds ++ []) h) (aCons (eV 0) (aCons (eC (.int 1)) (aCons (eC (.int 200)) aNil)))))
 sNil)
def b_is_edition (c : Nat → List D → Hh → R D) (F : Nat) : SM := (sCons (sRet (eCall (fun ds h => c ix_is_from (ds ++ []) h) (aCons (eV 0) (aCons (eC (.int 0)) (aCons (eC (.int 99)) aNil)))))
 sNil)
def b_is_reference (c : Nat → List D → Hh → R D) (F : Nat) : SM := (sCons (sIf (bOr (bNot (bT (eU (isT (isOf .tup)) (eV 0)))) (bOr (bCmp .ne (eU lenD (eV 0)) (eC (.int 3))) (bNot (bT (eCall (fun ds h => c ix_is_kind (ds ++ []) h) (aCons (eV 0) (aCons (eC (.str [116, 111])) aNil))))))) (sCons (sRet (eC (.bl false)))
 sNil) sNil)
 (sCons (sRet (eAnd (eCall (fun ds h => c ix_is_number (ds ++ []) h) (aCons (eIx (eV 0) (eC (.int 1))) aNil)) (eCall (fun ds h => c ix_is_edition (ds ++ []) h) (aCons (eIx (eV 0) (eC (.int 2))) aNil))))
 sNil))
def b_is_kind (c : Nat → List D → Hh → R D) (F : Nat) : SM := (sCons (sRet (eAnd (eU (isT (isOf .str)) (eIx (eV 0) (eC (.int 0)))) (eCmp .eq (eIx (eV 0) (eC (.int 0))) (eV 1))))
 sNil)
def b_entry_of (c : Nat → List D → Hh → R D) (F : Nat) : SM := (sCons (sFor (.tp [(.nm 2), (.nm 3)]) .e (aCons (eIx (eV 0) (eC (.int 1))) aNil) (sCons (sIf (bCmp .eq (eV 2) (eV 1)) (sCons (sRet (eTup (aCons (eC (.bl true)) (aCons (eV 3) aNil))))
 sNil) sNil)
 sNil))
 (sCons (sRet (eTup (aCons (eC (.bl false)) (aCons (eC .non) aNil))))
 sNil))
def b_is_table (c : Nat → List D → Hh → R D) (F : Nat) : SM := (sCons (sRet (eAnd (eU (isT (isOf .tup)) (eV 0)) (eCmp .eq (eIx (eV 0) (eC (.int 0))) (eC (.str [116, 97, 98, 108, 101])))))
 sNil)
def b_first_node (c : Nat → List D → Hh → R D) (F : Nat) : SM := (sCons (sIf (bNot (bT (eCall (fun ds h => c ix_is_table (ds ++ []) h) (aCons (eV 0) aNil)))) (sCons sBad
 sNil) sNil)
 (sCons (sAsg (.tp [(.nm 1), (.nm 2)]) (eCall (fun ds h => c ix_entry_of (ds ++ []) h) (aCons (eV 0) (aCons (eC (.str [112, 97, 103, 101, 115])) aNil))))
 (sCons (sIf (bOr (bNot (bT (eV 1))) (bNot (bT (eCall (fun ds h => c ix_is_reference (ds ++ []) h) (aCons (eV 2) aNil))))) (sCons sBad
 sNil) sNil)
 (sCons (sRet (eV 2))
 sNil))))
def b_kids_of (c : Nat → List D → Hh → R D) (F : Nat) : SM := (sCons (sAsg (.tp [(.nm 2), (.nm 3)]) (eCall (fun ds h => c ix_entry_of (ds ++ []) h) (aCons (eV 1) (aCons (eC (.str [107, 105, 100, 115])) aNil))))
 (sCons (sIf (bNot (bT (eV 2))) (sCons (sRet (eC .non))
 sNil) sNil)
 (sCons (sIf (bOr (bNot (bT (eU (isT (isOf .tup)) (eV 3)))) (bOr (bNot (bT (eCall (fun ds h => c ix_is_kind (ds ++ []) h) (aCons (eV 3) (aCons (eC (.str [114, 111, 119])) aNil))))) (bNot (bT (eU allD (eLc (eCall (fun ds h => c ix_is_reference (ds ++ []) h) (aCons (eV 4) aNil)) (.nm 4) .e (aCons (eIx (eV 3) (eC (.int 1))) aNil) bYes [4])))))) (sCons sBad
 sNil) sNil)
 (sCons (sRet (eU listD (eIx (eV 3) (eC (.int 1)))))
 sNil))))
def b_handed (c : Nat → List D → Hh → R D) (F : Nat) : SM := (sCons (sSet 2 (eNewO nDictTO (eV 0)))
 (sCons (sEx (eM isOwnD updX (eV 2) (eDc (eV 3) (eV 4) (.tp [(.nm 3), (.nm 4)]) .e (aCons (eIx (eV 1) (eC (.int 1))) aNil) (bCmp .notin (eV 3) (eC (.tup [.str [107, 105, 100, 115], .str [99, 111, 117, 110, 116]]))) [3, 4])))
 (sCons (sRet (eU tupleD (eSortKI (c ix_first_of) (eV 2))))
 sNil)))
def b_first_of (c : Nat → List D → Hh → R D) (F : Nat) : SM := (sCons (sRet (eIx (eV 0) (eC (.int 0))))
 sNil)
def b_with_own (c : Nat → List D → Hh → R D) (F : Nat) : SM := (sCons (sSet 2 (eNewO nDictTO (eV 0)))
 (sCons (sEx (eM isOwnD updX (eV 2) (eU dictTD (eIx (eV 1) (eC (.int 1))))))
 (sCons (sRet (eU tupleD (eSortKI (c ix_first_of) (eV 2))))
 sNil)))
def b_walked (c : Nat → List D → Hh → R D) (F : Nat) : SM := (sCons (sSet 1 (eNewL aNil))
 (sCons (sSet 2 (eNewL aNil))
 (sCons (sSet 3 (eCall (fun ds h => c ix_first_node (ds ++ []) h) (aCons (eMeth (fun ds h => c ix_Book_at (ds ++ []) h) 0 (eV 0) (aCons (eMeth (fun ds h => c ix_Book_root (ds ++ []) h) 0 (eV 0) aNil) aNil)) aNil)))
 (sCons (sIf (bNot (bT (eCall (fun ds h => c ix_is_table (ds ++ []) h) (aCons (eMeth (fun ds h => c ix_Book_at (ds ++ []) h) 0 (eV 0) (aCons (eV 3) aNil)) aNil)))) (sCons sBad
 sNil) sNil)
 (sCons (sSet 4 (eNewL (aCons (eTup (aCons (eIx (eV 3) (eC (.int 1))) (aCons (eTup aNil) aNil))) aNil)))
 (sCons (sWh F (bCmp .ne (eV 4) (eLst aNil)) (sCons (sAsg (.tp [(.nm 7), (.nm 8)]) (eM0 pop0D (eV 4)))
 (sCons (sIf (bCmp .in_ (eV 7) (eV 2)) (sCons sBad
 sNil) sNil)
 (sCons (sEx (eM isLst appD (eV 2) (eV 7)))
 (sCons (sSet 5 (eMeth (fun ds h => c ix_Book_at (ds ++ []) h) 0 (eV 0) (aCons (eTup (aCons (eC (.str [116, 111])) (aCons (eV 7) (aCons (eMeth (fun ds h => c ix_Book_edition (ds ++ []) h) 0 (eV 0) (aCons (eV 7) aNil)) aNil)))) aNil)))
 (sCons (sSet 6 (eCall (fun ds h => c ix_kids_of (ds ++ []) h) (aCons (eV 7) (aCons (eV 5) aNil))))
 (sCons (sIf (bCmp .is_ (eV 6) (eC .non)) (sCons (sEx (eM isLst appD (eV 1) (eTup (aCons (eV 7) (aCons (eC .non) (aCons (eCall (fun ds h => c ix_with_own (ds ++ []) h) (aCons (eV 8) (aCons (eV 5) aNil))) aNil))))))
 sNil) (sCons (sIf (bNot (bT (eU allD (eLc (eCall (fun ds h => c ix_is_table (ds ++ []) h) (aCons (eMeth (fun ds h => c ix_Book_at (ds ++ []) h) 0 (eV 0) (aCons (eV 9) aNil)) aNil)) (.nm 9) .e (aCons (eV 6) aNil) bYes [9])))) (sCons sBad
 sNil) (sCons (sSet 8 (eCall (fun ds h => c ix_handed (ds ++ []) h) (aCons (eV 8) (aCons (eV 5) aNil))))
 (sCons (sEx (eM isLst appD (eV 1) (eTup (aCons (eV 7) (aCons (eLc (eIx (eV 9) (eC (.int 1))) (.nm 9) .e (aCons (eV 6) aNil) bYes [9]) (aCons (eV 8) aNil))))))
 (sCons (sEx (eM isLst extD (eV 4) (eLc (eTup (aCons (eIx (eV 9) (eC (.int 1))) (aCons (eV 8) aNil))) (.nm 9) .e (aCons (eU revD (eV 6)) aNil) bYes [9])))
 sNil))))
 sNil))
 sNil)))))))
 (sCons (sRet (eV 1))
 sNil)))))))
def b_pages (c : Nat → List D → Hh → R D) (F : Nat) : SM := (sCons (sRet (eLcN (eTup (aCons (eV 1) (aCons (eV 3) aNil))) (.tp [(.nm 1), (.nm 2), (.nm 3)]) .e (aCons (eCall (fun ds h => c ix_walked (ds ++ []) h) (aCons (eV 0) aNil)) aNil) (bCmp .is_ (eV 2) (eC .non)) [1, 2, 3]))
 sNil)
def b_are_counted (c : Nat → List D → Hh → R D) (F : Nat) : SM := (sCons (sSet 1 eNewD)
 (sCons (sFor (.tp [(.nm 2), (.nm 3), (.nm 4)]) .e (aCons (eU revD (eCall (fun ds h => c ix_walked (ds ++ []) h) (aCons (eV 0) aNil))) aNil) (sCons (sIf (bCmp .is_ (eV 3) (eC .non)) (sCons (sSetI (eV 1) (eV 2) (eC (.int 1)))
 sNil) (sCons (sSetI (eV 1) (eV 2) (eU sumD (eLc (eIx (eV 1) (eV 7)) (.nm 7) .e (aCons (eV 3) aNil) bYes [7])))
 (sCons (sAsg (.tp [(.nm 5), (.nm 6)]) (eCall (fun ds h => c ix_entry_of (ds ++ []) h) (aCons (eMeth (fun ds h => c ix_Book_at (ds ++ []) h) 0 (eV 0) (aCons (eTup (aCons (eC (.str [116, 111])) (aCons (eV 2) (aCons (eMeth (fun ds h => c ix_Book_edition (ds ++ []) h) 0 (eV 0) (aCons (eV 2) aNil)) aNil)))) aNil)) (aCons (eC (.str [99, 111, 117, 110, 116])) aNil))))
 (sCons (sIf (bOr (bNot (bT (eV 5))) (bOr (bNot (bT (eU (isT (isOf .int)) (eV 6)))) (bCmp .ne (eV 6) (eIx (eV 1) (eV 2))))) (sCons (sRet (eC (.bl false)))
 sNil) sNil)
 sNil))))
 sNil))
 (sCons (sRet (eC (.bl true)))
 sNil)))
def b_Book_init (c : Nat → List D → Hh → R D) (F : Nat) : SM := (sCons (sSetF 0 (eV 0) 0 (eU dictD (eV 1)))
 (sCons (sSetF 0 (eV 0) 1 (eU dictD (eV 3)))
 (sCons (sSetF 0 (eV 0) 2 (eV 2))
 sNil)))
def b_Book_root (c : Nat → List D → Hh → R D) (F : Nat) : SM := (sCons (sRet (eFld 0 2 (eV 0)))
 sNil)
def b_Book_edition (c : Nat → List D → Hh → R D) (F : Nat) : SM := (sCons (sIf (bOr (bNot (bT (eCall (fun ds h => c ix_is_number (ds ++ []) h) (aCons (eV 1) aNil)))) (bCmp .notin (eV 1) (eFld 0 0 (eV 0)))) (sCons (sRet (eC .non))
 sNil) sNil)
 (sCons (sRet (eIx (eIx (eFld 0 0 (eV 0)) (eV 1)) (eC (.int 0))))
 sNil))
def b_Book_leads (c : Nat → List D → Hh → R D) (F : Nat) : SM := (sCons (sRet (eAnd (eCall (fun ds h => c ix_is_reference (ds ++ []) h) (aCons (eV 1) aNil)) (eCmp .eq (eMeth (fun ds h => c ix_Book_edition (ds ++ []) h) 0 (eV 0) (aCons (eIx (eV 1) (eC (.int 1))) aNil)) (eIx (eV 1) (eC (.int 2))))))
 sNil)
def b_Book_at (c : Nat → List D → Hh → R D) (F : Nat) : SM := (sCons (sIf (bNot (bT (eMeth (fun ds h => c ix_Book_leads (ds ++ []) h) 0 (eV 0) (aCons (eV 1) aNil)))) (sCons (sRet (eC .non))
 sNil) sNil)
 (sCons (sRet (eIx (eIx (eFld 0 0 (eV 0)) (eIx (eV 1) (eC (.int 1)))) (eC (.int 1))))
 sNil))
def b__law_room (c : Nat → List D → Hh → R D) (F : Nat) : SM := (sCons (sSet 2 (eC (.int 0)))
 (sCons (sIf (bCmp .lt (eV 1) (eU lenD (eV 0))) (sCons (sSet 2 (eIx (eV 0) (eV 1)))
 sNil) sNil)
 (sCons (sSet 3 (eC (.int 0)))
 (sCons (sIf (bCmp .ge (eV 2) (eBin .pow (eC (.int 10)) (eC (.int 18)))) (sCons (sSet 3 (eV 2))
 sNil) sNil)
 (sCons (sRet (eNewL (aCons (eV 3) (aCons (eBin .mod (eBin .mul (eBin .add (eBin .add (eBin .mod (eV 2) (eC (.int 2147483629))) (eBin .mul (eBin .mul (eC (.int 104729)) (eV 1)) (eV 1))) (eC (.int 7))) (eC (.int 48271))) (eC (.int 2147483647))) aNil))))
 sNil)))))
def b__law_take (c : Nat → List D → Hh → R D) (F : Nat) : SM := (sCons (sIf (bCmp .gt (eIx (eV 0) (eC (.int 0))) (eC (.int 0))) (sCons (sSet 2 (eBin .mod (eIx (eV 0) (eC (.int 0))) (eV 1)))
 (sCons (sSetI (eV 0) (eC (.int 0)) (eBin .fdiv (eIx (eV 0) (eC (.int 0))) (eV 1)))
 (sCons (sRet (eV 2))
 sNil))) sNil)
 (sCons (sSetI (eV 0) (eC (.int 1)) (eBin .mod (eBin .add (eBin .mul (eIx (eV 0) (eC (.int 1))) (eC (.int 48271))) (eC (.int 39373))) (eC (.int 2147483647))))
 (sCons (sSet 2 (eBin .fdiv (eBin .mod (eBin .mul (eIx (eV 0) (eC (.int 1))) (eIx (eV 0) (eC (.int 1)))) (eC (.int 2147483629))) (eC (.int 16))))
 (sCons (sIf (bCmp .gt (eV 1) (eBin .pow (eC (.int 10)) (eC (.int 6)))) (sCons (sSetI (eV 0) (eC (.int 1)) (eBin .mod (eBin .add (eBin .mul (eIx (eV 0) (eC (.int 1))) (eC (.int 48271))) (eC (.int 39373))) (eC (.int 2147483647))))
 (sCons (sSet 2 (eBin .add (eBin .mul (eV 2) (eC (.int 2147483629))) (eBin .mod (eBin .mul (eIx (eV 0) (eC (.int 1))) (eIx (eV 0) (eC (.int 1)))) (eC (.int 2147483587)))))
 sNil)) sNil)
 (sCons (sRet (eBin .mod (eV 2) (eV 1)))
 sNil)))))
def b__law_page_entries (c : Nat → List D → Hh → R D) (F : Nat) : SM := (sCons (sSet 1 (eLst (aCons (eC (.str [99, 111, 117, 110, 116])) (aCons (eC (.str [104, 101, 97, 100])) (aCons (eC (.str [107, 105, 100, 122])) (aCons (eC (.str [112, 97, 103, 101, 115])) (aCons (eC (.str [115, 105, 122, 101])) (aCons (eC (.str [116, 101, 120, 116])) aNil))))))))
 (sCons (sSet 2 eNewD)
 (sCons (sFor (.nm 3) .range (aCons (eCall (fun ds h => c ix__law_take (ds ++ []) h) (aCons (eV 0) (aCons (eC (.int 4)) aNil))) aNil) (sCons (sSet 4 (eLst (aCons (eCall (fun ds h => c ix__law_take (ds ++ []) h) (aCons (eV 0) (aCons (eC (.int 9)) aNil))) (aCons (eC .non) (aCons (eTup (aCons (eC (.str [110, 97, 109, 101])) (aCons (eC (.str [97])) aNil))) (aCons (eTup (aCons (eC (.str [116, 111])) (aCons (eC (.int 7)) (aCons (eC (.int 0)) aNil)))) aNil))))))
 (sCons (sSetI (eV 2) (eIx (eV 1) (eCall (fun ds h => c ix__law_take (ds ++ []) h) (aCons (eV 0) (aCons (eC (.int 6)) aNil)))) (eIx (eV 4) (eCall (fun ds h => c ix__law_take (ds ++ []) h) (aCons (eV 0) (aCons (eC (.int 4)) aNil)))))
 sNil)))
 (sCons (sRet (eV 2))
 sNil))))
def b__law_table_of (c : Nat → List D → Hh → R D) (F : Nat) : SM := (sCons (sRet (eTup (aCons (eC (.str [116, 97, 98, 108, 101])) (aCons (eU tupleD (eLc (eTup (aCons (eV 1) (aCons (eIx (eV 0) (eV 1)) aNil))) (.nm 1) .e (aCons (eU sortedK (eV 0)) aNil) bYes [1])) aNil))))
 sNil)
def b__law_node (c : Nat → List D → Hh → R D) (F : Nat) : SM := (sCons (sSet 3 (eIx (eV 1) (eC (.str [115, 112, 111, 116, 115]))))
 (sCons (sSet 4 (eM isLst popD (eV 3) (eCall (fun ds h => c ix__law_take (ds ++ []) h) (aCons (eV 0) (aCons (eU2 minD (eIx (eV 1) (eC (.str [102, 97, 114]))) (eU lenD (eV 3))) aNil)))))
 (sCons (sSet 5 (eCall (fun ds h => c ix__law_page_entries (ds ++ []) h) (aCons (eV 0) aNil)))
 (sCons (sSet 6 (eLst aNil))
 (sCons (sIf (bAnd (bCmp .gt (eV 2) (eC (.int 0))) (bAnd (bCmp .gt (eU lenD (eV 3)) (eC (.int 12))) (bCmp .gt (eCall (fun ds h => c ix__law_take (ds ++ []) h) (aCons (eV 0) (aCons (eC (.int 5)) aNil))) (eC (.int 0))))) (sCons (sSet 6 (eLc (eCall (fun ds h => c ix__law_node (ds ++ []) h) (aCons (eV 0) (aCons (eV 1) (aCons (eBin .sub (eV 2) (eC (.int 1))) aNil)))) (.nm 8) .range (aCons (eCall (fun ds h => c ix__law_take (ds ++ []) h) (aCons (eV 0) (aCons (eC (.int 4)) aNil))) aNil) bYes [8]))
 (sCons (sSetI (eV 5) (eC (.str [107, 105, 100, 115])) (eTup (aCons (eC (.str [114, 111, 119])) (aCons (eU tupleD (eLc (eTup (aCons (eC (.str [116, 111])) (aCons (eIx (eV 10) (eC (.str [115, 112, 111, 116]))) (aCons (eIx (eV 10) (eC (.str [116, 117, 114, 110]))) aNil)))) (.nm 10) .e (aCons (eV 6) aNil) bYes [10])) aNil))))
 (sCons (sSetI (eV 5) (eC (.str [99, 111, 117, 110, 116])) (eU sumD (eLc (eIx (eV 10) (eC (.str [108, 101, 97, 118, 101, 115]))) (.nm 10) .e (aCons (eV 6) aNil) bYes [10])))
 sNil))) sNil)
 (sCons (sSet 7 (eIx (eLst (aCons (eC (.int 1)) (aCons (eU sumD (eLc (eIx (eV 10) (eC (.str [108, 101, 97, 118, 101, 115]))) (.nm 10) .e (aCons (eV 6) aNil) bYes [10])) aNil))) (eU intV (eCmp .in_ (eC (.str [107, 105, 100, 115])) (eV 5)))))
 (sCons (sSet 8 (eBin .mul (eCall (fun ds h => c ix__law_take (ds ++ []) h) (aCons (eV 0) (aCons (eC (.int 2)) aNil))) (eU intV (eCmp .gt (eIx (eV 1) (eC (.str [102, 97, 114]))) (eC (.int 1))))))
 (sCons (sSet 9 (eDisp [((eC (.str [115, 112, 111, 116])), (eV 4)), ((eC (.str [116, 117, 114, 110])), (eV 8)), ((eC (.str [107, 105, 100, 115])), (eV 6)), ((eC (.str [102, 111, 117, 110, 100])), (eV 5)), ((eC (.str [108, 101, 97, 118, 101, 115])), (eV 7))]))
 (sCons (sEx (eM isLst appD (eIx (eV 1) (eC (.str [110, 111, 100, 101, 115]))) (eV 9)))
 (sCons (sRet (eV 9))
 sNil))))))))))
def b__law_grown (c : Nat → List D → Hh → R D) (F : Nat) : SM := (sCons (sSet 2 (eDisp [((eC (.str [115, 112, 111, 116, 115])), (eNewRg (eC (.int 2)) (eC (.int 40)))), ((eC (.str [110, 111, 100, 101, 115])), (eNewL aNil)), ((eC (.str [102, 97, 114])), (eV 1))]))
 (sCons (sSet 3 (eCall (fun ds h => c ix__law_node (ds ++ []) h) (aCons (eV 0) (aCons (eV 2) (aCons (eIx (eLst (aCons (eC (.int 0)) (aCons (eC (.int 1)) (aCons (eC (.int 3)) (aCons (eC (.int 4)) aNil))))) (eCall (fun ds h => c ix__law_take (ds ++ []) h) (aCons (eV 0) (aCons (eC (.int 4)) aNil)))) aNil)))))
 (sCons (sRet (eLst (aCons (eV 3) (aCons (eIx (eV 2) (eC (.str [110, 111, 100, 101, 115]))) aNil))))
 sNil)))
def b__law_things (c : Nat → List D → Hh → R D) (F : Nat) : SM := (sCons (sSet 2 (eDispN [((eC (.int 1)), (eTup (aCons (eC (.int 0)) (aCons (eTup (aCons (eC (.str [116, 97, 98, 108, 101])) (aCons (eTup (aCons (eTup (aCons (eC (.str [112, 97, 103, 101, 115])) (aCons (eTup (aCons (eC (.str [116, 111])) (aCons (eIx (eV 0) (eC (.str [115, 112, 111, 116]))) (aCons (eIx (eV 0) (eC (.str [116, 117, 114, 110]))) aNil)))) aNil))) (aCons (eTup (aCons (eC (.str [115, 105, 122, 101])) (aCons (eC (.int 5)) aNil))) aNil))) aNil))) aNil))))]))
 (sCons (sForI (.nm 3) .e (eV 1) (sCons (sSetI (eV 2) (eIx (eV 3) (eC (.str [115, 112, 111, 116]))) (eTup (aCons (eIx (eV 3) (eC (.str [116, 117, 114, 110]))) (aCons (eCall (fun ds h => c ix__law_table_of (ds ++ []) h) (aCons (eIx (eV 3) (eC (.str [102, 111, 117, 110, 100]))) aNil)) aNil))))
 sNil) F)
 (sCons (sRet (eV 2))
 sNil)))
def b__law_leaves (c : Nat → List D → Hh → R D) (F : Nat) : SM := (sCons (sSet 2 (eNewDct (eV 1)))
 (sCons (sSet 3 (eCmp .in_ (eC (.str [107, 105, 100, 115])) (eIx (eV 0) (eC (.str [102, 111, 117, 110, 100])))))
 (sCons (sRodE (eIx (eV 0) (eC (.str [102, 111, 117, 110, 100]))) (sFor (.nm 4) .e (aKeysE (eIx (eV 0) (eC (.str [102, 111, 117, 110, 100])))) (sCons (sIf (bOr (bNot (bT (eV 3))) (bCmp .notin (eV 4) (eLst (aCons (eC (.str [107, 105, 100, 115])) (aCons (eC (.str [99, 111, 117, 110, 116])) aNil))))) (sCons (sSetI (eV 2) (eV 4) (eIx (eIx (eV 0) (eC (.str [102, 111, 117, 110, 100]))) (eV 4)))
 sNil) sNil)
 sNil)))
 (sCons (sIf (bNot (bT (eV 3))) (sCons (sRet (eLst (aCons (eTup (aCons (eIx (eV 0) (eC (.str [115, 112, 111, 116]))) (aCons (eU tupleD (eLc (eTup (aCons (eV 4) (aCons (eIx (eV 2) (eV 4)) aNil))) (.nm 4) .e (aCons (eU sortedK (eV 2)) aNil) bYes [4])) aNil))) aNil)))
 sNil) sNil)
 (sCons (sSet 5 (eLst aNil))
 (sCons (sFor (.nm 6) .e (aCons (eIx (eV 0) (eC (.str [107, 105, 100, 115]))) aNil) (sCons (sSet 5 (eBin .add (eV 5) (eCall (fun ds h => c ix__law_leaves (ds ++ []) h) (aCons (eV 6) (aCons (eV 2) aNil)))))
 sNil))
 (sCons (sRet (eV 5))
 sNil)))))))
def b__law_bent_counts (c : Nat → List D → Hh → R D) (F : Nat) : SM := (sCons (sSet 2 (eLcI (eV 3) (.nm 3) .e (eV 1) (bCmp .in_ (eC (.str [107, 105, 100, 115])) (eIx (eV 3) (eC (.str [102, 111, 117, 110, 100])))) [3] F))
 (sCons (sIf (bCmp .eq (eV 2) (eLst aNil)) (sCons (sRet (eC (.bl false)))
 sNil) sNil)
 (sCons (sSet 3 (eIx (eV 2) (eCall (fun ds h => c ix__law_take (ds ++ []) h) (aCons (eV 0) (aCons (eU lenD (eV 2)) aNil)))))
 (sCons (sSet 4 (eIx (eIx (eV 3) (eC (.str [102, 111, 117, 110, 100]))) (eC (.str [99, 111, 117, 110, 116]))))
 (sCons (sSet 5 (eLst (aCons (eBin .add (eV 4) (eC (.int 1))) (aCons (eBin .sub (eV 4) (eC (.int 1))) (aCons (eC .non) (aCons (eTup (aCons (eC (.str [110, 97, 109, 101])) (aCons (eC (.str [97])) aNil))) (aCons (eU strV (eV 4)) (aCons (eV 4) aNil))))))))
 (sCons (sSetI (eIx (eV 3) (eC (.str [102, 111, 117, 110, 100]))) (eC (.str [99, 111, 117, 110, 116])) (eIx (eV 5) (eCall (fun ds h => c ix__law_take (ds ++ []) h) (aCons (eV 0) (aCons (eC (.int 6)) aNil)))))
 (sCons (sIf (bCmp .eq (eCall (fun ds h => c ix__law_take (ds ++ []) h) (aCons (eV 0) (aCons (eC (.int 7)) aNil))) (eC (.int 0))) (sCons (sEx (eM isDct dpopD (eIx (eV 3) (eC (.str [102, 111, 117, 110, 100]))) (eC (.str [99, 111, 117, 110, 116]))))
 (sCons (sRet (eC (.bl true)))
 sNil)) sNil)
 (sCons (sRet (eCmp .ne (eU reprV (eIx (eIx (eV 3) (eC (.str [102, 111, 117, 110, 100]))) (eC (.str [99, 111, 117, 110, 116])))) (eU reprV (eV 4))))
 sNil))))))))
def b_law (c : Nat → List D → Hh → R D) (F : Nat) : SM := (sCons (sFor (.nm 1) .range (aCons (eU2 maxD (eC (.int 1)) (eU2 minD (eU lenD (eV 0)) (eC (.int 20)))) aNil) (sCons (sSet 2 (eCall (fun ds h => c ix__law_room (ds ++ []) h) (aCons (eV 0) (aCons (eV 1) aNil))))
 (sCons (sAsg (.tp [(.nm 8), (.nm 9)]) (eCall (fun ds h => c ix__law_grown (ds ++ []) h) (aCons (eV 2) (aCons (eC (.int 9)) aNil))))
 (sCons (sSet 3 (eCallK (c ix_Book_init) kd_Book_init_root (aCons (eCall (fun ds h => c ix__law_things (ds ++ []) h) (aCons (eV 8) (aCons (eV 9) aNil))) aNil) (aCons (eTup (aCons (eC (.str [116, 111])) (aCons (eC (.int 1)) (aCons (eC (.int 0)) aNil)))) aNil)))
 (sCons (sSet 4 (eCall (fun ds h => c ix__law_leaves (ds ++ []) h) (aCons (eV 8) (aCons eDct0 aNil))))
 (sCons (sFor (.nm 5) .range (aCons (eC (.int 2)) aNil) (sCons (sSet 10 (eCall (fun ds h => c ix_pages_full (ds ++ []) h) (aCons (eV 3) aNil)))
 (sCons (sIf (bOr (bCmp .ne (eU reprV (eV 10)) (eU reprV (eV 4))) (bCmp .isnt (eCall (fun ds h => c ix_are_counted (ds ++ []) h) (aCons (eV 3) aNil)) (eC (.bl true)))) (sCons (sRet (eC (.bl false)))
 sNil) sNil)
 (sCons (sEx (eM isLst appD (eV 10) (eC .non)))
 sNil))))
 (sCons (sSet 6 (eCall (fun ds h => c ix__law_bent_counts (ds ++ []) h) (aCons (eV 2) (aCons (eV 9) aNil))))
 (sCons (sSet 7 (eCallK (c ix_Book_init) kd_Book_init_root (aCons (eCall (fun ds h => c ix__law_things (ds ++ []) h) (aCons (eV 8) (aCons (eV 9) aNil))) aNil) (aCons (eTup (aCons (eC (.str [116, 111])) (aCons (eC (.int 1)) (aCons (eC (.int 0)) aNil)))) aNil)))
 (sCons (sIf (bOr (bCmp .ne (eU reprV (eCall (fun ds h => c ix_are_counted (ds ++ []) h) (aCons (eV 7) aNil))) (eU reprV (eNot (eV 6)))) (bCmp .ne (eU reprV (eCall (fun ds h => c ix_pages (ds ++ []) h) (aCons (eV 7) aNil))) (eU reprV (eV 4)))) (sCons (sRet (eC (.bl false)))
 sNil) sNil)
 sNil)))))))))
 (sCons (sRet (eC (.bl true)))
 sNil))
def run (F : Nat) : Nat → Nat → List D → Hh → R D
  | 0 => fun _ _ _ => .bad
  | n + 1 => fun i => match i with
    | 0 => own 1 1 (b_is_whole (run F n) F)
    | 1 => own 3 3 (b_is_from (run F n) F)
    | 2 => own 1 1 (b_is_number (run F n) F)
    | 3 => own 1 1 (b_is_edition (run F n) F)
    | 4 => own 1 1 (b_is_reference (run F n) F)
    | 5 => own 2 2 (b_is_kind (run F n) F)
    | 6 => own 2 4 (b_entry_of (run F n) F)
    | 7 => own 1 1 (b_is_table (run F n) F)
    | 8 => own 1 3 (b_first_node (run F n) F)
    | 9 => own 2 5 (b_kids_of (run F n) F)
    | 10 => own 2 5 (b_handed (run F n) F)
    | 11 => own 1 1 (b_first_of (run F n) F)
    | 12 => own 2 3 (b_with_own (run F n) F)
    | 13 => own 1 10 (b_walked (run F n) F)
    | 14 => own 1 4 (b_pages (run F n) F)
    | 15 => own 1 8 (b_are_counted (run F n) F)
    | 16 => make 0 4 4 (b_Book_init (run F n) F)
    | 17 => own 1 1 (b_Book_root (run F n) F)
    | 18 => own 2 2 (b_Book_edition (run F n) F)
    | 19 => own 2 2 (b_Book_leads (run F n) F)
    | 20 => own 2 2 (b_Book_at (run F n) F)
    | 21 => full 2 4 (b__law_room (run F n) F)
    | 22 => own 2 3 (b__law_take (run F n) F)
    | 23 => full 1 5 (b__law_page_entries (run F n) F)
    | 24 => own 1 2 (b__law_table_of (run F n) F)
    | 25 => full 3 11 (b__law_node (run F n) F)
    | 26 => full 2 4 (b__law_grown (run F n) F)
    | 27 => full 2 4 (b__law_things (run F n) F)
    | 28 => full 2 7 (b__law_leaves (run F n) F)
    | 29 => full 2 6 (b__law_bent_counts (run F n) F)
    | 30 => full 1 11 (b_law (run F n) F)
    | 514 => full 1 4 (b_pages (run F n) F)
    | _ => fun _ _ => .bad
theorem run_is_whole (F n : Nat) : run F (n + 1) ix_is_whole = own 1 1 (b_is_whole (run F n) F) := rfl
theorem run_is_from (F n : Nat) : run F (n + 1) ix_is_from = own 3 3 (b_is_from (run F n) F) := rfl
theorem run_is_number (F n : Nat) : run F (n + 1) ix_is_number = own 1 1 (b_is_number (run F n) F) := rfl
theorem run_is_edition (F n : Nat) : run F (n + 1) ix_is_edition = own 1 1 (b_is_edition (run F n) F) := rfl
theorem run_is_reference (F n : Nat) : run F (n + 1) ix_is_reference = own 1 1 (b_is_reference (run F n) F) := rfl
theorem run_is_kind (F n : Nat) : run F (n + 1) ix_is_kind = own 2 2 (b_is_kind (run F n) F) := rfl
theorem run_entry_of (F n : Nat) : run F (n + 1) ix_entry_of = own 2 4 (b_entry_of (run F n) F) := rfl
theorem run_is_table (F n : Nat) : run F (n + 1) ix_is_table = own 1 1 (b_is_table (run F n) F) := rfl
theorem run_first_node (F n : Nat) : run F (n + 1) ix_first_node = own 1 3 (b_first_node (run F n) F) := rfl
theorem run_kids_of (F n : Nat) : run F (n + 1) ix_kids_of = own 2 5 (b_kids_of (run F n) F) := rfl
theorem run_handed (F n : Nat) : run F (n + 1) ix_handed = own 2 5 (b_handed (run F n) F) := rfl
theorem run_first_of (F n : Nat) : run F (n + 1) ix_first_of = own 1 1 (b_first_of (run F n) F) := rfl
theorem run_with_own (F n : Nat) : run F (n + 1) ix_with_own = own 2 3 (b_with_own (run F n) F) := rfl
theorem run_walked (F n : Nat) : run F (n + 1) ix_walked = own 1 10 (b_walked (run F n) F) := rfl
theorem run_pages (F n : Nat) : run F (n + 1) ix_pages = own 1 4 (b_pages (run F n) F) := rfl
theorem run_pages_full (F n : Nat) : run F (n + 1) ix_pages_full = full 1 4 (b_pages (run F n) F) := rfl
theorem run_are_counted (F n : Nat) : run F (n + 1) ix_are_counted = own 1 8 (b_are_counted (run F n) F) := rfl
theorem run_Book_init (F n : Nat) : run F (n + 1) ix_Book_init = make 0 4 4 (b_Book_init (run F n) F) := rfl
theorem run_Book_root (F n : Nat) : run F (n + 1) ix_Book_root = own 1 1 (b_Book_root (run F n) F) := rfl
theorem run_Book_edition (F n : Nat) : run F (n + 1) ix_Book_edition = own 2 2 (b_Book_edition (run F n) F) := rfl
theorem run_Book_leads (F n : Nat) : run F (n + 1) ix_Book_leads = own 2 2 (b_Book_leads (run F n) F) := rfl
theorem run_Book_at (F n : Nat) : run F (n + 1) ix_Book_at = own 2 2 (b_Book_at (run F n) F) := rfl
theorem run__law_room (F n : Nat) : run F (n + 1) ix__law_room = full 2 4 (b__law_room (run F n) F) := rfl
theorem run__law_take (F n : Nat) : run F (n + 1) ix__law_take = own 2 3 (b__law_take (run F n) F) := rfl
theorem run__law_page_entries (F n : Nat) : run F (n + 1) ix__law_page_entries = full 1 5 (b__law_page_entries (run F n) F) := rfl
theorem run__law_table_of (F n : Nat) : run F (n + 1) ix__law_table_of = own 1 2 (b__law_table_of (run F n) F) := rfl
theorem run__law_node (F n : Nat) : run F (n + 1) ix__law_node = full 3 11 (b__law_node (run F n) F) := rfl
theorem run__law_grown (F n : Nat) : run F (n + 1) ix__law_grown = full 2 4 (b__law_grown (run F n) F) := rfl
theorem run__law_things (F n : Nat) : run F (n + 1) ix__law_things = full 2 4 (b__law_things (run F n) F) := rfl
theorem run__law_leaves (F n : Nat) : run F (n + 1) ix__law_leaves = full 2 7 (b__law_leaves (run F n) F) := rfl
theorem run__law_bent_counts (F n : Nat) : run F (n + 1) ix__law_bent_counts = full 2 6 (b__law_bent_counts (run F n) F) := rfl
theorem run_law (F n : Nat) : run F (n + 1) ix_law = full 1 11 (b_law (run F n) F) := rfl
end Lw
end
section
set_option Elab.async false
namespace Fw
open PySem PySem.Spec PyProof.Rows L2
section
variable {X : Cx} {W : Wd} {wx : WX} {pos : Pos} {e : Expr} {f : TM}
theorem v0 {i : Nat} {x : Str} (hN : X.N[i]? = some x := by rfl) (hv : Vis X.env.scope x := by exact .inl rfl) (hd : (x == ("__debug__" : Str)) = false := by decide) (hcd : (x == ("__classdict__" : Str)) = false := by decide) : EJ X W wx (.Name x pos) (eV i) := ej_v hN hv hd hcd
theorem es {x : Str} (t : Tx) {j : Nat} (h : x = toS t := by rfl) : EJ X W wx (.Constant (.str x) j pos) (eC (.str t)) := ej_str h
theorem stv {i : Nat} {x : Str} {pos' : Pos} (J : Js X W wx) (he : EJ X W wx e f) (hi : X.N[i]? = some x := by rfl) (hx : Loc X.env.scope x := by exact .inl rfl) (hs : swapsWith e (some (.Name x pos')) pos.line X.env = pure false := by rfl) (hf : X.fn x = true ∨ X.env.scope.names.lookup x = some .local := by first | exact .inl rfl | exact .inr rfl | assumption) :
    SJ X W wx (.Assign [.Name x pos'] e pos) (sSet i f) := sj_set J hi hx he hs hf
end
abbrev ac := @aj_cons
abbrev an := @aj_nil
abbrev sk := @ss_cons
abbrev sn := @ss_nil
abbrev sr := @sj_ret
abbrev eix := @ej_ix
abbrev ek := @ec_call
abbrev bc := @bj_cmp
abbrev ebn := @ej_bin
abbrev sf := @sj_if
end Fw
end
section
set_option Elab.async false
set_option maxHeartbeats 0
namespace Lw
open PySem PySem.Spec PyProof.Rows L2 Fw
structure Mg (w : World) (K : PySem.W.Frag) (mg : Str → Option Value) : Prop where
  g_Book : mg "Book" = some (.ref (He.ga K "Book"))
  g_OWN : mg "OWN" = some (.ref (He.ga K "OWN"))
  g__law_bent_counts : mg "_law_bent_counts" = some (.ref (He.ga K "_law_bent_counts"))
  g__law_grown : mg "_law_grown" = some (.ref (He.ga K "_law_grown"))
  g__law_leaves : mg "_law_leaves" = some (.ref (He.ga K "_law_leaves"))
  g__law_node : mg "_law_node" = some (.ref (He.ga K "_law_node"))
  g__law_page_entries : mg "_law_page_entries" = some (.ref (He.ga K "_law_page_entries"))
  g__law_room : mg "_law_room" = some (.ref (He.ga K "_law_room"))
  g__law_table_of : mg "_law_table_of" = some (.ref (He.ga K "_law_table_of"))
  g__law_take : mg "_law_take" = some (.ref (He.ga K "_law_take"))
  g__law_things : mg "_law_things" = some (.ref (He.ga K "_law_things"))
  g_are_counted : mg "are_counted" = some (.ref (He.ga K "are_counted"))
  g_entry_of : mg "entry_of" = some (.ref (He.ga K "entry_of"))
  g_first_node : mg "first_node" = some (.ref (He.ga K "first_node"))
  g_first_of : mg "first_of" = some (.ref (He.ga K "first_of"))
  g_handed : mg "handed" = some (.ref (He.ga K "handed"))
  g_is_edition : mg "is_edition" = some (.ref (He.ga K "is_edition"))
  g_is_from : mg "is_from" = some (.ref (He.ga K "is_from"))
  g_is_kind : mg "is_kind" = some (.ref (He.ga K "is_kind"))
  g_is_number : mg "is_number" = some (.ref (He.ga K "is_number"))
  g_is_reference : mg "is_reference" = some (.ref (He.ga K "is_reference"))
  g_is_table : mg "is_table" = some (.ref (He.ga K "is_table"))
  g_is_whole : mg "is_whole" = some (.ref (He.ga K "is_whole"))
  g_kids_of : mg "kids_of" = some (.ref (He.ga K "kids_of"))
  g_pages : mg "pages" = some (.ref (He.ga K "pages"))
  g_walked : mg "walked" = some (.ref (He.ga K "walked"))
  g_with_own : mg "with_own" = some (.ref (He.ga K "with_own"))
  f_all : mg "all" = none
  f_bool : mg "bool" = none
  f_dict : mg "dict" = none
  f_int : mg "int" = none
  f_isinstance : mg "isinstance" = none
  f_len : mg "len" = none
  f_list : mg "list" = none
  f_max : mg "max" = none
  f_min : mg "min" = none
  f_range : mg "range" = none
  f_repr : mg "repr" = none
  f_sorted : mg "sorted" = none
  f_str : mg "str" = none
  f_sum : mg "sum" = none
  f_tuple : mg "tuple" = none
  MOST_EDITION : ∃ t, mg "MOST_EDITION" = some (.int 99 t)
  MOST_NUMBER : ∃ t, mg "MOST_NUMBER" = some (.int 200 t)
  COUNT : ∃ t, mg "COUNT" = some (.str (toS [99, 111, 117, 110, 116]) t)
  KIDS : ∃ t, mg "KIDS" = some (.str (toS [107, 105, 100, 115]) t)
  cls0 : Cls K (He.ga K "Book")
  mk0 : Mk K (He.ga K "Book") (He.ma K (He.ga K "Book") "__init__")
  no0_own_free : NoAttr K (He.ga K "Book") "own_free"
  no0_own_root : NoAttr K (He.ga K "Book") "own_root"
  no0_own_things : NoAttr K (He.ga K "Book") "own_things"
  m0_at : Meth K (He.ga K "Book") "at" (He.ma K (He.ga K "Book") "at")
  m0_edition : Meth K (He.ga K "Book") "edition" (He.ma K (He.ga K "Book") "edition")
  m0_leads : Meth K (He.ga K "Book") "leads" (He.ma K (He.ga K "Book") "leads")
  m0_root : Meth K (He.ga K "Book") "root" (He.ma K (He.ga K "Book") "root")
  emp : KEmp K (empA K)
  kpl : KPl K
  kt_OWN : KTup K (He.ga K "OWN") (([[107, 105, 100, 115], [99, 111, 117, 110, 116]] : List Tx).map fun t => V.str (toS t))
theorem nm_at (k : Nat) : anOf flds k ≠ "at" := anOf_ne (by decide +kernel) (by decide +kernel) k
theorem nm_edition (k : Nat) : anOf flds k ≠ "edition" := anOf_ne (by decide +kernel) (by decide +kernel) k
theorem nm_leads (k : Nat) : anOf flds k ≠ "leads" := anOf_ne (by decide +kernel) (by decide +kernel) k
theorem nm_root (k : Nat) : anOf flds k ≠ "root" := anOf_ne (by decide +kernel) (by decide +kernel) k
structure Ok (P : Program) (w : World) (K : PySem.W.Frag) (mg : Str → Option Value) (base : Heap) (F n : Nat) : Prop where
  c0 : CalleeB P w K mg base (Wk K) (2 * n) (He.fAd K d0.at_) ps0 [] (run F n ix_is_whole)
  c1 : CalleeB P w K mg base (Wk K) (2 * n) (He.fAd K d1.at_) ps1 [] (run F n ix_is_from)
  c2 : CalleeB P w K mg base (Wk K) (2 * n) (He.fAd K d2.at_) ps2 [] (run F n ix_is_number)
  c3 : CalleeB P w K mg base (Wk K) (2 * n) (He.fAd K d3.at_) ps3 [] (run F n ix_is_edition)
  c4 : CalleeB P w K mg base (Wk K) (2 * n) (He.fAd K d4.at_) ps4 [] (run F n ix_is_reference)
  c5 : CalleeB P w K mg base (Wk K) (2 * n) (He.fAd K d5.at_) ps5 [] (run F n ix_is_kind)
  c6 : CalleeB P w K mg base (Wk K) (2 * n) (He.fAd K d6.at_) ps6 [] (run F n ix_entry_of)
  c7 : CalleeB P w K mg base (Wk K) (2 * n) (He.fAd K d7.at_) ps7 [] (run F n ix_is_table)
  c8 : CalleeB P w K mg base (Wk K) (2 * n) (He.fAd K d8.at_) ps8 [] (run F n ix_first_node)
  c9 : CalleeB P w K mg base (Wk K) (2 * n) (He.fAd K d9.at_) ps9 [] (run F n ix_kids_of)
  c10 : CalleeB P w K mg base (Wk K) (2 * n) (He.fAd K d10.at_) ps10 [] (run F n ix_handed)
  c11 : CalleeB P w K mg base (Wk K) (2 * n) (He.fAd K d11.at_) ps11 [] (run F n ix_first_of)
  c12 : CalleeB P w K mg base (Wk K) (2 * n) (He.fAd K d12.at_) ps12 [] (run F n ix_with_own)
  c13 : CalleeB P w K mg base (Wk K) (2 * n) (He.fAd K d13.at_) ps13 [] (run F n ix_walked)
  c14 : CalleeB P w K mg base (Wk K) (2 * n) (He.fAd K d14.at_) ps14 [] (run F n ix_pages)
  c15 : CalleeB P w K mg base (Wk K) (2 * n) (He.fAd K d15.at_) ps15 [] (run F n ix_are_counted)
  c16 : MakerB P w K mg base (Wk K) (2 * n) 0 ps16 (dv16 K) (run F n ix_Book_init)
  c17 : CalleeB P w K mg base (Wk K) (2 * n) (He.fAd K d17.at_) ps17 [] (run F n ix_Book_root)
  c18 : CalleeB P w K mg base (Wk K) (2 * n) (He.fAd K d18.at_) ps18 [] (run F n ix_Book_edition)
  c19 : CalleeB P w K mg base (Wk K) (2 * n) (He.fAd K d19.at_) ps19 [] (run F n ix_Book_leads)
  c20 : CalleeB P w K mg base (Wk K) (2 * n) (He.fAd K d20.at_) ps20 [] (run F n ix_Book_at)
  c21 : CalleeB P w K mg base (Wk K) (2 * n) (He.fAd K d21.at_) ps21 [] (run F n ix__law_room)
  c22 : CalleeB P w K mg base (Wk K) (2 * n) (He.fAd K d22.at_) ps22 [] (run F n ix__law_take)
  c23 : CalleeB P w K mg base (Wk K) (2 * n) (He.fAd K d23.at_) ps23 [] (run F n ix__law_page_entries)
  c24 : CalleeB P w K mg base (Wk K) (2 * n) (He.fAd K d24.at_) ps24 [] (run F n ix__law_table_of)
  c25 : CalleeB P w K mg base (Wk K) (2 * n) (He.fAd K d25.at_) ps25 [] (run F n ix__law_node)
  c26 : CalleeB P w K mg base (Wk K) (2 * n) (He.fAd K d26.at_) ps26 [] (run F n ix__law_grown)
  c27 : CalleeB P w K mg base (Wk K) (2 * n) (He.fAd K d27.at_) ps27 [] (run F n ix__law_things)
  c28 : CalleeB P w K mg base (Wk K) (2 * n) (He.fAd K d28.at_) ps28 [] (run F n ix__law_leaves)
  c29 : CalleeB P w K mg base (Wk K) (2 * n) (He.fAd K d29.at_) ps29 [] (run F n ix__law_bent_counts)
  c30 : CalleeB P w K mg base (Wk K) (2 * n) (He.fAd K d30.at_) ps30 [] (run F n ix_law)
  c514 : CalleeB P w K mg base (Wk K) (2 * n) (He.fAd K d14.at_) ps14 [] (run F n ix_pages_full)
  k16_root : MakerKB P w K mg base (Wk K) (2 * n) 0 1 ps16 ["root"] (kv16_root K) (run F n ix_Book_init)
abbrev ArD (K : PySem.W.Frag) (d : He.DefD) (st : Stmt) (cdv : Value) (A : Around) (s : Shared) : Around := A.deeper (envOfC d.qual (defScope st) s.heap.objs.size (He.fAd K d.at_) cdv)
structure SjD (N : List Str) (d : He.DefD) (st : Stmt) (b : (Nat → List D → Hh → R D) → Nat → SM) : Prop where
  h : ∀ {P : Program} {w : World} {K : PySem.W.Frag} {mg : Str → Option Value} {base : Heap} {F n : Nat} {cdv : Value} {A : Around} {outer : List Env} {s : Shared} {H : Hp} {E : XK}, Ok P w K mg base F n → Mg w K mg → RoomG (2 * n + 1) (ArD K d st cdv A s) →
  SsJ (cxOf (L2.CX P w) P w K mg base N d.qual (defScope st) (He.fAd K d.at_) cdv A outer s H E) (Wk K) (fun cls d _ H => E cls d H) (defBody st) (b (run F n) F)
theorem sj_i {N ps : List Str} {d : He.DefD} {st : Stmt} {b : (Nat → List D → Hh → R D) → Nat → SM} (S : FnScope N ps (defScope st))
    (h : ∀ {P : Program} {w : World} {K : PySem.W.Frag} {mg : Str → Option Value} {base : Heap} {F n : Nat} {cdv : Value} {A : Around} {outer : List Env} {s : Shared} {H : Hp} {E : XK}, Js (cxOf (L2.CX P w) P w K mg base N d.qual (defScope st) (He.fAd K d.at_) cdv A outer s H E) (Wk K) (fun cls d _ H => E cls d H) → Jc (cxOf (L2.CX P w) P w K mg base N d.qual (defScope st) (He.fAd K d.at_) cdv A outer s H E) (Wk K) (fun cls d _ H => E cls d H) →
      Ok P w K mg base F n → Mg w K mg → RoomG (2 * n) (ArD K d st cdv A s) → RoomG (2 * n + 1) (ArD K d st cdv A s) → SsJ (cxOf (L2.CX P w) P w K mg base N d.qual (defScope st) (He.fAd K d.at_) cdv A outer s H E) (Wk K) (fun cls d _ H => E cls d H) (defBody st) (b (run F n) F)) : SjD N d st b :=
  ⟨fun {P w K mg base F n cdv A outer s H E} O M hr => have J : Js (cxOf (L2.CX P w) P w K mg base N d.qual (defScope st) (He.fAd K d.at_) cdv A outer s H E) (Wk K) (fun cls d _ H => E cls d H) := js_of rfl S.nd hr
  h J J.toJc O M (hr.mono' (Nat.le_succ (2 * n))) hr⟩
def BdD (K : PySem.W.Frag) (d : He.DefD) (ps : List Str) (dvs : List V) : Prop := ∀ {fd : FuncData}, FnD K d fd → ∃ ds, Vals dvs ds ∧ Binds K fd ps ds
section
variable {P : Program} {w : World} {K : PySem.W.Frag} {mg : Str → Option Value} {base : Heap} {F n c : Nat} {N ps : List Str} {d : He.DefD} {dvs : List V} {r : List D → Hh → R D} {st : Stmt} {b : (Nat → List D → Hh → R D) → Nat → SM} {f : Addr}
theorem rz {F i : Nat} : run F 0 i = fun _ _ => .bad := rfl
theorem co_z {k : Nat} (hD : ∃ fd, FnD K d fd) (hb : BdD K d ps dvs) (hr : r = fun _ _ => .bad) : CalleeB P w K mg base (Wk K) k (He.fAd K d.at_) ps dvs r := by
  subst hr
  obtain ⟨fd, D⟩ := hD
  obtain ⟨ds, v, b⟩ := hb D
  exact ⟨fd, ds, fn_bad, D.kp, b, v⟩
theorem mo_z {k : Nat} (hD : ∃ fd, FnD K d fd) (hb : BdD K d ps dvs) (hm : Mk K ((Wk K).ca c) (He.fAd K d.at_)) (hr : r = fun _ _ => .bad) : MakerB P w K mg base (Wk K) k c ps dvs r := by
  subst hr
  obtain ⟨fd, D⟩ := hD
  obtain ⟨ds, v, b⟩ := hb D
  exact ⟨_, fd, ds, hm, fn_badM, b, v⟩
theorem co_full {a : Str × Option Str} {x q : Str} {dv : List He.Dv} {kw : List (Str × He.Dv)} (hd : d = ⟨a, x, q, defArgs st, defBody st, defScope st, dv, kw⟩) (O : Ok P w K mg base F n) (M : Mg w K mg) (hD : ∃ fd, FnD K d fd) (hb : BdD K d ps dvs) (S : FnScope N ps (defScope st)) (s : SjD N d st b) (hr : r = full ps.length N.length (b (run F n) F)) : CalleeB P w K mg base (Wk K) (2 * (n + 1)) (He.fAd K d.at_) ps dvs r := by
  subst hr
  subst hd
  obtain ⟨fd, D⟩ := hD
  obtain ⟨ds, v, b⟩ := hb D
  exact ⟨fd, ds, fn_full D S rfl (fun cdv A outer s' H E h => s.h O M h), D.kp, b, v⟩
theorem co_make {a : Str × Option Str} {x q : Str} {dv : List He.Dv} {kw : List (Str × He.Dv)} (hd : d = ⟨a, x, q, defArgs st, defBody st, defScope st, dv, kw⟩) (O : Ok P w K mg base F n) (M : Mg w K mg) (hD : ∃ fd, FnD K d fd) (hb : BdD K d ps dvs) (S : FnScope N ps (defScope st)) (s : SjD N d st b) (hm : Mk K ((Wk K).ca c) (He.fAd K d.at_)) (hr : r = make c ps.length N.length (b (run F n) F)) : MakerB P w K mg base (Wk K) (2 * (n + 1)) c ps dvs r := by
  subst hr
  subst hd
  obtain ⟨fd, D⟩ := hD
  obtain ⟨ds, v, b⟩ := hb D
  exact ⟨_, fd, ds, hm, fn_make D S rfl (fun cdv A outer s' H E h => s.h O M h), b, v⟩
theorem co_own {a : Str × Option Str} {x q : Str} {dv : List He.Dv} {kw : List (Str × He.Dv)} (hd : d = ⟨a, x, q, defArgs st, defBody st, defScope st, dv, kw⟩) (O : Ok P w K mg base F n) (M : Mg w K mg) (hD : ∃ fd, FnD K d fd) (hb : BdD K d ps dvs) (S : FnScope N ps (defScope st)) (s : SjD N d st b) (hr : r = own ps.length N.length (b (run F n) F)) : CalleeB P w K mg base (Wk K) (2 * (n + 1)) (He.fAd K d.at_) ps dvs r := by
  subst hr
  subst hd
  obtain ⟨fd, D⟩ := hD
  obtain ⟨ds, v, b⟩ := hb D
  exact ⟨fd, ds, fn_own D S rfl (fun cdv A outer s' H E h => s.h O M h), D.kp, b, v⟩
end
end Lw
end
section
set_option Elab.async false
set_option maxHeartbeats 0
namespace Lw
open PySem PySem.Spec PyProof.Rows L2 Fw
theorem s0 : SjD N0 d0 st0 b_is_whole := sj_i sc0 fun J j O M hr0 hr => (sk (sr (ej_and j (ej_isin j v0 (pe_bltn rfl M.f_int (by rfl) (v := .ty "int") rfl) (.ty _) kit_int rfl M.f_isinstance) (ej_one (ej_not j (ej_isin j v0 (pe_bltn rfl M.f_bool (by rfl) (v := .ty "bool") rfl) (.ty _) kit_bool rfl M.f_isinstance)))))
 sn)
theorem s1 : SjD N1 d1 st1 b_is_from := sj_i sc1 fun J j O M hr0 hr => (sk (sr (ej_and j (ek j O.c0 hr0 dfl_nil M.g_is_whole (ac v0 an)) (ej_one (ej_ch j (op := .le) (op' := .le) rfl rfl v0 v0 v0))))
 sn)
theorem s2 : SjD N2 d2 st2 b_is_number := sj_i sc2 fun J j O M hr0 hr => (sk (sr (ek j O.c1 hr0 dfl_nil M.g_is_from (ac v0 (ac ej_int (ac (ej_gi M.MOST_NUMBER) an)))))
 sn)
theorem s3 : SjD N3 d3 st3 b_is_edition := sj_i sc3 fun J j O M hr0 hr => (sk (sr (ek j O.c1 hr0 dfl_nil M.g_is_from (ac v0 (ac ej_int (ac (ej_gi M.MOST_EDITION) an)))))
 sn)
theorem s4 : SjD N4 d4 st4 b_is_reference := sj_i sc4 fun J j O M hr0 hr => (sk (sf (bj_w (wj_or (bj_not (bj_t j (ej_isin j v0 (pe_bltn rfl M.f_tuple (by rfl) (v := .ty "tuple") rfl) (.ty _) kit_tuple rfl M.f_isinstance))) (wj_or (bc j (op := .ne) rfl (ej_b1 (cl_len j.hK) v0 (by decide +kernel) rfl M.f_len) ej_int) (wj_or1 (bj_not (bj_t j (ek j O.c5 hr0 dfl_nil M.g_is_kind (ac v0 (ac (es [116, 111]) an))))))))) (sk (sr ej_bl)
 sn) sn)
 (sk (sr (ej_and j (ek j O.c2 hr0 dfl_nil M.g_is_number (ac (eix j v0 ej_int) an)) (ej_one (ek j O.c3 hr0 dfl_nil M.g_is_edition (ac (eix j v0 ej_int) an)))))
 sn))
theorem s5 : SjD N5 d5 st5 b_is_kind := sj_i sc5 fun J j O M hr0 hr => (sk (sr (ej_and j (ej_isin j (eix j v0 ej_int) (pe_bltn rfl M.f_str (by rfl) (v := .ty "str") rfl) (.ty _) kit_str rfl M.f_isinstance) (ej_one (ej_cmp j (op := .eq) rfl (eix j v0 ej_int) v0))))
 sn)
theorem s6 : SjD N6 d6 st6 b_entry_of := sj_i sc6 fun J j O M hr0 hr => (sk (sj_for J (ij_e j (eix j v0 ej_int)) (gj_tp J.hc (gsj_cons (gj_nm J.hN rfl (.inl rfl) (.inl rfl)) (gsj_cons (gj_nm J.hN rfl (.inl rfl) (.inl rfl)) gsj_nil))) (sk (sf (bc j (op := .eq) rfl v0 v0) (sk (sr (ej_tup (ac ej_bl (ac v0 an))))
 sn) sn)
 sn))
 (sk (sr (ej_tup (ac ej_bl (ac ej_non an))))
 sn))
theorem s7 : SjD N7 d7 st7 b_is_table := sj_i sc7 fun J j O M hr0 hr => (sk (sr (ej_and j (ej_isin j v0 (pe_bltn rfl M.f_tuple (by rfl) (v := .ty "tuple") rfl) (.ty _) kit_tuple rfl M.f_isinstance) (ej_one (ej_cmp j (op := .eq) rfl (eix j v0 ej_int) (es [116, 97, 98, 108, 101])))))
 sn)
theorem s8 : SjD N8 d8 st8 b_first_node := sj_i sc8 fun J j O M hr0 hr => (sk (sf (bj_not (bj_t j (ek j O.c7 hr0 dfl_nil M.g_is_table (ac v0 an)))) (sk sj_bad
 sn) sn)
 (sk (sj_asg J (ek j O.c6 hr0 dfl_nil M.g_entry_of (ac v0 (ac (es [112, 97, 103, 101, 115]) an))) (gj_tp J.hc (gsj_cons (gj_nm J.hN rfl (.inl rfl) (.inl rfl)) (gsj_cons (gj_nm J.hN rfl (.inl rfl) (.inl rfl)) gsj_nil))))
 (sk (sf (bj_w (wj_or (bj_not (bj_t j v0)) (wj_or1 (bj_not (bj_t j (ek j O.c4 hr0 dfl_nil M.g_is_reference (ac v0 an))))))) (sk sj_bad
 sn) sn)
 (sk (sr v0)
 sn))))
theorem s9 : SjD N9 d9 st9 b_kids_of := sj_i sc9 fun J j O M hr0 hr => (sk (sj_asg J (ek j O.c6 hr0 dfl_nil M.g_entry_of (ac v0 (ac (ej_gs M.KIDS) an))) (gj_tp J.hc (gsj_cons (gj_nm J.hN rfl (.inl rfl) (.inl rfl)) (gsj_cons (gj_nm J.hN rfl (.inl rfl) (.inl rfl)) gsj_nil))))
 (sk (sf (bj_not (bj_t j v0)) (sk (sr ej_non)
 sn) sn)
 (sk (sf (bj_w (wj_or (bj_not (bj_t j (ej_isin j v0 (pe_bltn rfl M.f_tuple (by rfl) (v := .ty "tuple") rfl) (.ty _) kit_tuple rfl M.f_isinstance))) (wj_or (bj_not (bj_t j (ek j O.c5 hr0 dfl_nil M.g_is_kind (ac v0 (ac (es [114, 111, 119]) an))))) (wj_or1 (bj_not (bj_t j (ej_b1 (cl_all j.hK J.hc) (ej_lc J (ij_e j (eix j v0 ej_int)) (own := [("kid", 4)]) (blkOk_by (N := N9) (sc := defScope st9) (by decide +kernel)) (by decide) (fun s1 H1 C1 cl1 fp1 => (gj_nm (jc_blk J s1 H1 _ _ fp1).hN rfl (.inl rfl) (.inr rfl))) (fun s1 H1 C1 cl1 fp1 => cj_nil) (fun s1 H1 C1 cl1 fp1 => (ek (jc_blk J s1 H1 _ _ fp1).toJc O.c4 hr0 dfl_nil M.g_is_reference (ac v0 an)))) (by decide +kernel) rfl M.f_all))))))) (sk sj_bad
 sn) sn)
 (sk (sr (ej_t1 (cl_list j.hK) (eix j v0 ej_int) (by decide +kernel) rfl M.f_list))
 sn))))
end Lw
end
section
set_option Elab.async false
set_option maxHeartbeats 0
namespace Lw
open PySem PySem.Spec PyProof.Rows L2 Fw
theorem s10 : SjD N10 d10 st10 b_handed := sj_i sc10 fun J j O M hr0 hr => (sk (stv J (ej_nOT (cl_nDictT j.hK J.hc M.kpl) v0 (by decide +kernel) rfl M.f_dict))
 (sk (sj_ex (ej_updX v0 (ej_dc J (ij_e j (eix j v0 ej_int)) (own := [("word", 3), ("part", 4)]) (blkOk_by (N := N10) (sc := defScope st10) (by decide +kernel)) (by decide) (fun s1 H1 C1 cl1 fp1 => (gj_tp (jc_blk J s1 H1 _ _ fp1).hc (gsj_cons (gj_nm (jc_blk J s1 H1 _ _ fp1).hN rfl (.inl rfl) (.inr rfl)) (gsj_cons (gj_nm (jc_blk J s1 H1 _ _ fp1).hN rfl (.inl rfl) (.inr rfl)) gsj_nil)))) (fun s1 H1 C1 cl1 fp1 => (cj_one (bc (jc_blk J s1 H1 _ _ fp1).toJc (op := .notin) rfl v0 (ej_gt (ts := [[107, 105, 100, 115], [99, 111, 117, 110, 116]]) M.kt_OWN M.g_OWN)))) (fun s1 H1 C1 cl1 fp1 => v0) (fun s1 H1 C1 cl1 fp1 => v0))))
 (sk (sr (ej_t1 (cl_tuple j.hK) (ej_sortKI j J.hc O.c11 hr M.g_first_of v0 rfl M.f_sorted) (by decide +kernel) rfl M.f_tuple))
 sn)))
theorem s11 : SjD N11 d11 st11 b_first_of := sj_i sc11 fun J j O M hr0 hr => (sk (sr (eix j v0 ej_int))
 sn)
theorem s12 : SjD N12 d12 st12 b_with_own := sj_i sc12 fun J j O M hr0 hr => (sk (stv J (ej_nOT (cl_nDictT j.hK J.hc M.kpl) v0 (by decide +kernel) rfl M.f_dict))
 (sk (sj_ex (ej_updX v0 (ej_t1 (cl_dictPT j.hK J.hc M.kpl) (eix j v0 ej_int) (by decide +kernel) rfl M.f_dict)))
 (sk (sr (ej_t1 (cl_tuple j.hK) (ej_sortKI j J.hc O.c11 hr M.g_first_of v0 rfl M.f_sorted) (by decide +kernel) rfl M.f_tuple))
 sn)))
theorem s13 : SjD N13 d13 st13 b_walked := sj_i sc13 fun J j O M hr0 hr => (sk (stv J (ej_newL an))
 (sk (stv J (ej_newL an))
 (sk (stv J (ek j O.c8 hr0 dfl_nil M.g_first_node (ac (ec_meth (cls := 0) j O.c20 hr0 dfl_nil M.cls0 M.m0_at nm_at (ej_v rfl (.inr (.inl rfl))) (ac (ec_meth0 (cls := 0) j O.c17 hr0 dfl_nil M.cls0 M.m0_root nm_root (ej_v rfl (.inr (.inl rfl)))) an)) an)))
 (sk (sf (bj_not (bj_t j (ek j O.c7 hr0 dfl_nil M.g_is_table (ac (ec_meth (cls := 0) j O.c20 hr0 dfl_nil M.cls0 M.m0_at nm_at (ej_v rfl (.inr (.inl rfl))) (ac v0 an)) an)))) (sk sj_bad
 sn) sn)
 (sk (stv J (ej_newL (ac (ej_tup (ac (eix j v0 ej_int) (ac (ej_tup an) an))) an)))
 (sk (sj_wh J (bc j (op := .ne) rfl v0 (ej_lst an)) (sk (sj_asg J (ej_pop0 v0) (gj_tp J.hc (gsj_cons (gj_nm J.hN rfl (.inl rfl) (.inl rfl)) (gsj_cons (gj_nm J.hN rfl (.inr rfl) (.inl rfl)) gsj_nil))))
 (sk (sf (bc j (op := .in_) rfl v0 v0) (sk sj_bad
 sn) sn)
 (sk (sj_ex (ej_app v0 v0))
 (sk (stv J (ec_meth (cls := 0) j O.c20 hr0 dfl_nil M.cls0 M.m0_at nm_at (ej_v rfl (.inr (.inl rfl))) (ac (ej_tup (ac (es [116, 111]) (ac v0 (ac (ec_meth (cls := 0) j O.c18 hr0 dfl_nil M.cls0 M.m0_edition nm_edition (ej_v rfl (.inr (.inl rfl))) (ac v0 an)) an)))) an)))
 (sk (stv J (ek j O.c9 hr0 dfl_nil M.g_kids_of (ac v0 (ac v0 an))))
 (sk (sf (bc j (op := .is_) rfl v0 ej_non) (sk (sj_ex (ej_app v0 (ej_tup (ac v0 (ac ej_non (ac (ek j O.c12 hr0 dfl_nil M.g_with_own (ac (ej_v rfl (.inr (.inl rfl))) (ac v0 an))) an))))))
 sn) (sk (sf (bj_not (bj_t j (ej_b1 (cl_all j.hK J.hc) (ej_lc J (ij_e j v0) (own := [("kid", 9)]) (blkOk_by (N := N13) (sc := defScope st13) (by decide +kernel)) (by decide) (fun s1 H1 C1 cl1 fp1 => (gj_nm (jc_blk J s1 H1 _ _ fp1).hN rfl (.inl rfl) (.inr rfl))) (fun s1 H1 C1 cl1 fp1 => cj_nil) (fun s1 H1 C1 cl1 fp1 => (ek (jc_blk J s1 H1 _ _ fp1).toJc O.c7 hr0 dfl_nil M.g_is_table (ac (ec_meth (cls := 0) (jc_blk J s1 H1 _ _ fp1).toJc O.c20 hr0 dfl_nil M.cls0 M.m0_at nm_at (ej_v rfl (.inr (.inl rfl))) (ac v0 an)) an)))) (by decide +kernel) rfl M.f_all))) (sk sj_bad
 sn) (sk (sj_set J rfl (.inr rfl) (ek j O.c10 hr0 dfl_nil M.g_handed (ac (ej_v rfl (.inr (.inl rfl))) (ac v0 an))))
 (sk (sj_ex (ej_app v0 (ej_tup (ac v0 (ac (ej_lc J (ij_e j v0) (own := [("kid", 9)]) (blkOk_by (N := N13) (sc := defScope st13) (by decide +kernel)) (by decide) (fun s1 H1 C1 cl1 fp1 => (gj_nm (jc_blk J s1 H1 _ _ fp1).hN rfl (.inl rfl) (.inr rfl))) (fun s1 H1 C1 cl1 fp1 => cj_nil) (fun s1 H1 C1 cl1 fp1 => (eix (jc_blk J s1 H1 _ _ fp1).toJc v0 ej_int))) (ac (ej_v rfl (.inr (.inl rfl))) an))))))
 (sk (sj_ex (ej_ext v0 (ej_lc J (ij_e j (ej_rev j v0)) (own := [("kid", 9)]) (blkOk_by (N := N13) (sc := defScope st13) (by decide +kernel)) (by decide) (fun s1 H1 C1 cl1 fp1 => (gj_nm (jc_blk J s1 H1 _ _ fp1).hN rfl (.inl rfl) (.inr rfl))) (fun s1 H1 C1 cl1 fp1 => cj_nil) (fun s1 H1 C1 cl1 fp1 => (ej_tup (ac (eix (jc_blk J s1 H1 _ _ fp1).toJc v0 ej_int) (ac (ej_v rfl (.inr (.inl rfl))) an)))))))
 sn))))
 sn))
 sn)))))))
 (sk (sr v0)
 sn)))))))
end Lw
end
section
set_option Elab.async false
set_option maxHeartbeats 0
namespace Lw
open PySem PySem.Spec PyProof.Rows L2 Fw
theorem s14 : SjD N14 d14 st14 b_pages := sj_i sc14 fun J j O M hr0 hr => (sk (sr (ej_lcN J (ij_e j (ek j O.c13 hr0 dfl_nil M.g_walked (ac v0 an))) (own := [("number", 1), ("kids", 2), ("entries", 3)]) (blkOk_by (N := N14) (sc := defScope st14) (by decide +kernel)) (by decide) (fun s1 H1 C1 cl1 fp1 => (gj_tp (jc_blk J s1 H1 _ _ fp1).hc (gsj_cons (gj_nm (jc_blk J s1 H1 _ _ fp1).hN rfl (.inl rfl) (.inr rfl)) (gsj_cons (gj_nm (jc_blk J s1 H1 _ _ fp1).hN rfl (.inl rfl) (.inr rfl)) (gsj_cons (gj_nm (jc_blk J s1 H1 _ _ fp1).hN rfl (.inl rfl) (.inr rfl)) gsj_nil))))) (fun s1 H1 C1 cl1 fp1 => (cj_one (bc (jc_blk J s1 H1 _ _ fp1).toJc (op := .is_) rfl v0 ej_non))) (fun s1 H1 C1 cl1 fp1 => (ej_tup (ac v0 (ac v0 an))))))
 sn)
theorem s15 : SjD N15 d15 st15 b_are_counted := sj_i sc15 fun J j O M hr0 hr => (sk (sj_set J rfl (.inr rfl) ej_newD)
 (sk (sj_for J (ij_e j (ej_rev j (ek j O.c13 hr0 dfl_nil M.g_walked (ac v0 an)))) (gj_tp J.hc (gsj_cons (gj_nm J.hN rfl (.inl rfl) (.inl rfl)) (gsj_cons (gj_nm J.hN rfl (.inl rfl) (.inl rfl)) (gsj_cons (gj_nm J.hN rfl (.inl rfl) (.inl rfl)) gsj_nil)))) (sk (sf (bc j (op := .is_) rfl v0 ej_non) (sk (sj_setI J (ej_v rfl (.inr (.inl rfl))) v0 ej_int)
 sn) (sk (sj_setI J (ej_v rfl (.inr (.inl rfl))) v0 (ej_b1 (cl_sum J.hc) (ej_lc J (ij_e j v0) (own := [("kid", 7)]) (blkOk_by (N := N15) (sc := defScope st15) (by decide +kernel)) (by decide) (fun s1 H1 C1 cl1 fp1 => (gj_nm (jc_blk J s1 H1 _ _ fp1).hN rfl (.inl rfl) (.inr rfl))) (fun s1 H1 C1 cl1 fp1 => cj_nil) (fun s1 H1 C1 cl1 fp1 => (eix (jc_blk J s1 H1 _ _ fp1).toJc (ej_v rfl (.inr (.inl rfl))) v0))) (by decide +kernel) rfl M.f_sum))
 (sk (sj_asg J (ek j O.c6 hr0 dfl_nil M.g_entry_of (ac (ec_meth (cls := 0) j O.c20 hr0 dfl_nil M.cls0 M.m0_at nm_at v0 (ac (ej_tup (ac (es [116, 111]) (ac v0 (ac (ec_meth (cls := 0) j O.c18 hr0 dfl_nil M.cls0 M.m0_edition nm_edition v0 (ac v0 an)) an)))) an)) (ac (ej_gs M.COUNT) an))) (gj_tp J.hc (gsj_cons (gj_nm J.hN rfl (.inl rfl) (.inl rfl)) (gsj_cons (gj_nm J.hN rfl (.inl rfl) (.inl rfl)) gsj_nil))))
 (sk (sf (bj_w (wj_or (bj_not (bj_t j v0)) (wj_or (bj_not (bj_t j (ej_isin j v0 (pe_bltn rfl M.f_int (by rfl) (v := .ty "int") rfl) (.ty _) kit_int rfl M.f_isinstance))) (wj_or1 (bc j (op := .ne) rfl v0 (eix j (ej_v rfl (.inr (.inl rfl))) v0)))))) (sk (sr ej_bl)
 sn) sn)
 sn))))
 sn))
 (sk (sr ej_bl)
 sn)))
theorem s16 : SjD N16 d16 st16 b_Book_init := sj_i sc16 fun J j O M hr0 hr => (sk (sj_setF (cls := 0) (k := 0) J v0 (ej_t1 (cl_dict j.hK J.hc M.emp) v0 (by decide +kernel) rfl M.f_dict) M.cls0 M.no0_own_things)
 (sk (sj_setF (cls := 0) (k := 1) J v0 (ej_t1 (cl_dict j.hK J.hc M.emp) v0 (by decide +kernel) rfl M.f_dict) M.cls0 M.no0_own_free)
 (sk (sj_setF (cls := 0) (k := 2) J v0 v0 M.cls0 M.no0_own_root)
 sn)))
theorem s17 : SjD N17 d17 st17 b_Book_root := sj_i sc17 fun J j O M hr0 hr => (sk (sr (ej_fld (cls := 0) (k := 2) v0 M.cls0 M.no0_own_root))
 sn)
end Lw
end
section
set_option Elab.async false
set_option maxHeartbeats 0
namespace Lw
open PySem PySem.Spec PyProof.Rows L2 Fw
theorem s18 : SjD N18 d18 st18 b_Book_edition := sj_i sc18 fun J j O M hr0 hr => (sk (sf (bj_w (wj_or (bj_not (bj_t j (ek j O.c2 hr0 dfl_nil M.g_is_number (ac v0 an)))) (wj_or1 (bc j (op := .notin) rfl v0 (ej_fld (cls := 0) (k := 0) v0 M.cls0 M.no0_own_things))))) (sk (sr ej_non)
 sn) sn)
 (sk (sr (eix j (eix j (ej_fld (cls := 0) (k := 0) v0 M.cls0 M.no0_own_things) v0) ej_int))
 sn))
theorem s19 : SjD N19 d19 st19 b_Book_leads := sj_i sc19 fun J j O M hr0 hr => (sk (sr (ej_and j (ek j O.c4 hr0 dfl_nil M.g_is_reference (ac v0 an)) (ej_one (ej_cmp j (op := .eq) rfl (ec_meth (cls := 0) j O.c18 hr0 dfl_nil M.cls0 M.m0_edition nm_edition v0 (ac (eix j v0 ej_int) an)) (eix j v0 ej_int)))))
 sn)
theorem s20 : SjD N20 d20 st20 b_Book_at := sj_i sc20 fun J j O M hr0 hr => (sk (sf (bj_not (bj_t j (ec_meth (cls := 0) j O.c19 hr0 dfl_nil M.cls0 M.m0_leads nm_leads v0 (ac v0 an)))) (sk (sr ej_non)
 sn) sn)
 (sk (sr (eix j (eix j (ej_fld (cls := 0) (k := 0) v0 M.cls0 M.no0_own_things) (eix j v0 ej_int)) ej_int))
 sn))
theorem s21 : SjD N21 d21 st21 b__law_room := sj_i sc21 fun J j O M hr0 hr => (sk (stv J ej_int)
 (sk (sf (bc j (op := .lt) rfl v0 (ej_b1 (cl_len j.hK) v0 (by decide +kernel) rfl M.f_len)) (sk (stv J (eix j v0 v0))
 sn) sn)
 (sk (stv J ej_int)
 (sk (sf (bc j (op := .ge) rfl v0 (ebn j (op := .pow) rfl ej_int ej_int)) (sk (stv J v0)
 sn) sn)
 (sk (sr (ej_newL (ac v0 (ac (ebn j (op := .mod) rfl (ebn j (op := .mul) rfl (ebn j (op := .add) rfl (ebn j (op := .add) rfl (ebn j (op := .mod) rfl v0 ej_int) (ebn j (op := .mul) rfl (ebn j (op := .mul) rfl ej_int v0) v0)) ej_int) ej_int) ej_int) an))))
 sn)))))
theorem s22 : SjD N22 d22 st22 b__law_take := sj_i sc22 fun J j O M hr0 hr => (sk (sf (bc j (op := .gt) rfl (eix j v0 ej_int) ej_int) (sk (stv J (ebn j (op := .mod) rfl (eix j v0 ej_int) v0))
 (sk (sj_setI J v0 ej_int (ebn j (op := .fdiv) rfl (eix j v0 ej_int) v0))
 (sk (sr v0)
 sn))) sn)
 (sk (sj_setI J v0 ej_int (ebn j (op := .mod) rfl (ebn j (op := .add) rfl (ebn j (op := .mul) rfl (eix j v0 ej_int) ej_int) ej_int) ej_int))
 (sk (stv J (ebn j (op := .fdiv) rfl (ebn j (op := .mod) rfl (ebn j (op := .mul) rfl (eix j v0 ej_int) (eix j v0 ej_int)) ej_int) ej_int))
 (sk (sf (bc j (op := .gt) rfl v0 (ebn j (op := .pow) rfl ej_int ej_int)) (sk (sj_setI J v0 ej_int (ebn j (op := .mod) rfl (ebn j (op := .add) rfl (ebn j (op := .mul) rfl (eix j v0 ej_int) ej_int) ej_int) ej_int))
 (sk (stv J (ebn j (op := .add) rfl (ebn j (op := .mul) rfl v0 ej_int) (ebn j (op := .mod) rfl (ebn j (op := .mul) rfl (eix j v0 ej_int) (eix j v0 ej_int)) ej_int)))
 sn)) sn)
 (sk (sr (ebn j (op := .mod) rfl v0 v0))
 sn)))))
theorem s23 : SjD N23 d23 st23 b__law_page_entries := sj_i sc23 fun J j O M hr0 hr => (sk (stv J (ej_lst (ac (es [99, 111, 117, 110, 116]) (ac (es [104, 101, 97, 100]) (ac (es [107, 105, 100, 122]) (ac (es [112, 97, 103, 101, 115]) (ac (es [115, 105, 122, 101]) (ac (es [116, 101, 120, 116]) an))))))))
 (sk (stv J ej_newD)
 (sk (sj_for J (ij_range1 (ek j O.c22 hr0 dfl_nil M.g__law_take (ac v0 (ac ej_int an))) rfl M.f_range) (gj_nm J.hN rfl (.inl rfl) (.inl rfl)) (sk (stv J (ej_lst (ac (ek j O.c22 hr0 dfl_nil M.g__law_take (ac v0 (ac ej_int an))) (ac ej_non (ac (ej_tup (ac (es [110, 97, 109, 101]) (ac (es [97]) an))) (ac (ej_tup (ac (es [116, 111]) (ac ej_int (ac ej_int an)))) an))))))
 (sk (sj_setI J v0 (eix j v0 (ek j O.c22 hr0 dfl_nil M.g__law_take (ac v0 (ac ej_int an)))) (eix j v0 (ek j O.c22 hr0 dfl_nil M.g__law_take (ac v0 (ac ej_int an)))))
 sn)))
 (sk (sr v0)
 sn))))
theorem s24 : SjD N24 d24 st24 b__law_table_of := sj_i sc24 fun J j O M hr0 hr => (sk (sr (ej_tup (ac (es [116, 97, 98, 108, 101]) (ac (ej_t1 (cl_tuple j.hK) (ej_lc J (ij_e j (ej_b1 (cl_sortedK J.hc) (ej_v rfl (.inr (.inl rfl))) (by decide +kernel) rfl M.f_sorted)) (own := [("_law_word", 1)]) (blkOk_by (N := N24) (sc := defScope st24) (by decide +kernel)) (by decide) (fun s1 H1 C1 cl1 fp1 => (gj_nm (jc_blk J s1 H1 _ _ fp1).hN rfl (.inl rfl) (.inr rfl))) (fun s1 H1 C1 cl1 fp1 => cj_nil) (fun s1 H1 C1 cl1 fp1 => (ej_tup (ac v0 (ac (eix (jc_blk J s1 H1 _ _ fp1).toJc (ej_v rfl (.inr (.inl rfl))) v0) an))))) (by decide +kernel) rfl M.f_tuple) an))))
 sn)
end Lw
end
section
set_option Elab.async false
set_option maxHeartbeats 0
namespace Lw
open PySem PySem.Spec PyProof.Rows L2 Fw
theorem s25 : SjD N25 d25 st25 b__law_node := sj_i sc25 fun J j O M hr0 hr => (sk (stv J (eix j (ej_v rfl (.inr (.inl rfl))) (es [115, 112, 111, 116, 115])))
 (sk (stv J (ej_pop v0 (ek j O.c22 hr0 dfl_nil M.g__law_take (ac (ej_v rfl (.inr (.inl rfl))) (ac (ej_b2 (cl_min J.hc) (eix j (ej_v rfl (.inr (.inl rfl))) (es [102, 97, 114])) (ej_b1 (cl_len j.hK) v0 (by decide +kernel) rfl M.f_len) (by decide +kernel) rfl M.f_min) an)))))
 (sk (stv J (ek j O.c23 hr0 dfl_nil M.g__law_page_entries (ac (ej_v rfl (.inr (.inl rfl))) an)))
 (sk (stv J (ej_lst an))
 (sk (sf (bj_w (wj_and (bc j (op := .gt) rfl (ej_v rfl (.inr (.inl rfl))) ej_int) (wj_and (bc j (op := .gt) rfl (ej_b1 (cl_len j.hK) v0 (by decide +kernel) rfl M.f_len) ej_int) (wj_and1 (bc j (op := .gt) rfl (ek j O.c22 hr0 dfl_nil M.g__law_take (ac (ej_v rfl (.inr (.inl rfl))) (ac ej_int an))) ej_int))))) (sk (sj_setLc J (ij_range1 (ek j O.c22 hr0 dfl_nil M.g__law_take (ac (ej_v rfl (.inr (.inl rfl))) (ac ej_int an))) rfl M.f_range) (own := [("_law_turn", 8)]) (blkOk_by (N := N25) (sc := defScope st25) (by decide +kernel)) (by decide) rfl rfl (sw_true rfl rfl (by decide) (by decide +kernel)) (fun s1 H1 C1 cl1 fp1 => (gj_nm (jc_blk J s1 H1 _ _ fp1).hN rfl (.inl rfl) (.inr rfl))) (fun s1 H1 C1 cl1 fp1 => cj_nil) (fun s1 H1 C1 cl1 fp1 => (ek (jc_blk J s1 H1 _ _ fp1).toJc O.c25 hr0 dfl_nil M.g__law_node (ac (ej_v rfl (.inr (.inl rfl))) (ac (ej_v rfl (.inr (.inl rfl))) (ac (ebn (jc_blk J s1 H1 _ _ fp1).toJc (op := .sub) rfl (ej_v rfl (.inr (.inl rfl))) ej_int) an))))))
 (sk (sj_setI J v0 (es [107, 105, 100, 115]) (ej_tup (ac (es [114, 111, 119]) (ac (ej_t1 (cl_tuple j.hK) (ej_lc J (ij_e j v0) (own := [("_law_kid", 10)]) (blkOk_by (N := N25) (sc := defScope st25) (by decide +kernel)) (by decide) (fun s1 H1 C1 cl1 fp1 => (gj_nm (jc_blk J s1 H1 _ _ fp1).hN rfl (.inl rfl) (.inr rfl))) (fun s1 H1 C1 cl1 fp1 => cj_nil) (fun s1 H1 C1 cl1 fp1 => (ej_tup (ac (es [116, 111]) (ac (eix (jc_blk J s1 H1 _ _ fp1).toJc v0 (es [115, 112, 111, 116])) (ac (eix (jc_blk J s1 H1 _ _ fp1).toJc v0 (es [116, 117, 114, 110])) an)))))) (by decide +kernel) rfl M.f_tuple) an))))
 (sk (sj_setI J v0 (es [99, 111, 117, 110, 116]) (ej_b1 (cl_sum J.hc) (ej_lc J (ij_e j v0) (own := [("_law_kid", 10)]) (blkOk_by (N := N25) (sc := defScope st25) (by decide +kernel)) (by decide) (fun s1 H1 C1 cl1 fp1 => (gj_nm (jc_blk J s1 H1 _ _ fp1).hN rfl (.inl rfl) (.inr rfl))) (fun s1 H1 C1 cl1 fp1 => cj_nil) (fun s1 H1 C1 cl1 fp1 => (eix (jc_blk J s1 H1 _ _ fp1).toJc v0 (es [108, 101, 97, 118, 101, 115])))) (by decide +kernel) rfl M.f_sum))
 sn))) sn)
 (sk (stv J (eix j (ej_lst (ac ej_int (ac (ej_b1 (cl_sum J.hc) (ej_lc J (ij_e j v0) (own := [("_law_kid", 10)]) (blkOk_by (N := N25) (sc := defScope st25) (by decide +kernel)) (by decide) (fun s1 H1 C1 cl1 fp1 => (gj_nm (jc_blk J s1 H1 _ _ fp1).hN rfl (.inl rfl) (.inr rfl))) (fun s1 H1 C1 cl1 fp1 => cj_nil) (fun s1 H1 C1 cl1 fp1 => (eix (jc_blk J s1 H1 _ _ fp1).toJc v0 (es [108, 101, 97, 118, 101, 115])))) (by decide +kernel) rfl M.f_sum) an))) (ej_t1 (cl_intV) (ej_cmp j (op := .in_) rfl (es [107, 105, 100, 115]) v0) (by decide +kernel) rfl M.f_int)))
 (sk (stv J (ebn j (op := .mul) rfl (ek j O.c22 hr0 dfl_nil M.g__law_take (ac (ej_v rfl (.inr (.inl rfl))) (ac ej_int an))) (ej_t1 (cl_intV) (ej_cmp j (op := .gt) rfl (eix j (ej_v rfl (.inr (.inl rfl))) (es [102, 97, 114])) ej_int) (by decide +kernel) rfl M.f_int)))
 (sk (stv J (ej_disp (.cons (es [115, 112, 111, 116]) v0 (.cons (es [116, 117, 114, 110]) v0 (.cons (es [107, 105, 100, 115]) v0 (.cons (es [102, 111, 117, 110, 100]) v0 (.cons (es [108, 101, 97, 118, 101, 115]) v0 .nil)))))))
 (sk (sj_ex (ej_app (eix j (ej_v rfl (.inr (.inl rfl))) (es [110, 111, 100, 101, 115])) v0))
 (sk (sr v0)
 sn))))))))))
end Lw
end
section
set_option Elab.async false
set_option maxHeartbeats 0
namespace Lw
open PySem PySem.Spec PyProof.Rows L2 Fw
theorem s26 : SjD N26 d26 st26 b__law_grown := sj_i sc26 fun J j O M hr0 hr => (sk (stv J (ej_disp (.cons (es [115, 112, 111, 116, 115]) (ej_newRg J.hc ej_int ej_int rfl M.f_list rfl M.f_range) (.cons (es [110, 111, 100, 101, 115]) (ej_newL an) (.cons (es [102, 97, 114]) v0 .nil)))))
 (sk (stv J (ek j O.c25 hr0 dfl_nil M.g__law_node (ac v0 (ac v0 (ac (eix j (ej_lst (ac ej_int (ac ej_int (ac ej_int (ac ej_int an))))) (ek j O.c22 hr0 dfl_nil M.g__law_take (ac v0 (ac ej_int an)))) an)))))
 (sk (sr (ej_lst (ac v0 (ac (eix j v0 (es [110, 111, 100, 101, 115])) an))))
 sn)))
theorem s27 : SjD N27 d27 st27 b__law_things := sj_i sc27 fun {_ _ K _ _ F} => fun J j O M hr0 hr => (sk (stv J (ej_dispN (.cons ej_int (ej_tup (ac ej_int (ac (ej_tup (ac (es [116, 97, 98, 108, 101]) (ac (ej_tup (ac (ej_tup (ac (es [112, 97, 103, 101, 115]) (ac (ej_tup (ac (es [116, 111]) (ac (eix j v0 (es [115, 112, 111, 116])) (ac (eix j v0 (es [116, 117, 114, 110])) an)))) an))) (ac (ej_tup (ac (es [115, 105, 122, 101]) (ac ej_int an))) an))) an))) an))) .nil)))
 (sk (sj_forI (F := F) J (ir_e v0) (gj_nm J.hN rfl (.inl rfl) (.inl rfl)) (sk (sj_setI J v0 (eix j v0 (es [115, 112, 111, 116])) (ej_tup (ac (eix j v0 (es [116, 117, 114, 110])) (ac (ek j O.c24 hr0 dfl_nil M.g__law_table_of (ac (eix j v0 (es [102, 111, 117, 110, 100])) an)) an))))
 sn))
 (sk (sr v0)
 sn)))
theorem s28 : SjD N28 d28 st28 b__law_leaves := sj_i sc28 fun J j O M hr0 hr => (sk (sj_set J rfl (.inr rfl) (ej_newDct v0 rfl M.f_dict))
 (sk (stv J (ej_cmp j (op := .in_) rfl (es [107, 105, 100, 115]) (eix j v0 (es [102, 111, 117, 110, 100]))))
 (sk (sj_rodE (eIx (eV 0) (eC (.str [102, 111, 117, 110, 100]))) (sj_for J (ij_keysE (eix j v0 (es [102, 111, 117, 110, 100]))) (gj_nm J.hN rfl (.inl rfl) (.inl rfl)) (sk (sf (bj_w (wj_or (bj_not (bj_t j v0)) (wj_or1 (bc j (op := .notin) rfl v0 (ej_lst (ac (es [107, 105, 100, 115]) (ac (es [99, 111, 117, 110, 116]) an))))))) (sk (sj_setI J (ej_v rfl (.inr (.inl rfl))) v0 (eix j (eix j v0 (es [102, 111, 117, 110, 100])) v0))
 sn) sn)
 sn)))
 (sk (sf (bj_not (bj_t j v0)) (sk (sr (ej_lst (ac (ej_tup (ac (eix j v0 (es [115, 112, 111, 116])) (ac (ej_t1 (cl_tuple j.hK) (ej_lc J (ij_e j (ej_b1 (cl_sortedK J.hc) (ej_v rfl (.inr (.inl rfl))) (by decide +kernel) rfl M.f_sorted)) (own := [("_law_word", 4)]) (blkOk_by (N := N28) (sc := defScope st28) (by decide +kernel)) (by decide) (fun s1 H1 C1 cl1 fp1 => (gj_nm (jc_blk J s1 H1 _ _ fp1).hN rfl (.inl rfl) (.inr rfl))) (fun s1 H1 C1 cl1 fp1 => cj_nil) (fun s1 H1 C1 cl1 fp1 => (ej_tup (ac v0 (ac (eix (jc_blk J s1 H1 _ _ fp1).toJc (ej_v rfl (.inr (.inl rfl))) v0) an))))) (by decide +kernel) rfl M.f_tuple) an))) an)))
 sn) sn)
 (sk (stv J (ej_lst an))
 (sk (sj_for J (ij_e j (eix j v0 (es [107, 105, 100, 115]))) (gj_nm J.hN rfl (.inl rfl) (.inl rfl)) (sk (stv J (ebn j (op := .add) rfl v0 (ek j O.c28 hr0 dfl_nil M.g__law_leaves (ac v0 (ac (ej_v rfl (.inr (.inl rfl))) an)))))
 sn))
 (sk (sr v0)
 sn)))))))
theorem s29 : SjD N29 d29 st29 b__law_bent_counts := sj_i sc29 fun {_ _ K _ _ F} => fun J j O M hr0 hr => (sk (sj_setLcI (F := F) J (ir_e v0) (own := [("_law_one", 3)]) (blkOk_by (N := N29) (sc := defScope st29) (by decide +kernel)) (by decide) rfl rfl (sw_true rfl rfl (by decide) (by decide +kernel)) (fun s1 H1 C1 cl1 fp1 => (gj_nm (jc_blk J s1 H1 _ _ fp1).hN rfl (.inl rfl) (.inr rfl))) (fun s1 H1 C1 cl1 fp1 => (cj_one (bc (jc_blk J s1 H1 _ _ fp1).toJc (op := .in_) rfl (es [107, 105, 100, 115]) (eix (jc_blk J s1 H1 _ _ fp1).toJc v0 (es [102, 111, 117, 110, 100]))))) (fun s1 H1 C1 cl1 fp1 => v0))
 (sk (sf (bc j (op := .eq) rfl v0 (ej_lst an)) (sk (sr ej_bl)
 sn) sn)
 (sk (stv J (eix j v0 (ek j O.c22 hr0 dfl_nil M.g__law_take (ac v0 (ac (ej_b1 (cl_len j.hK) v0 (by decide +kernel) rfl M.f_len) an)))))
 (sk (stv J (eix j (eix j v0 (es [102, 111, 117, 110, 100])) (es [99, 111, 117, 110, 116])))
 (sk (stv J (ej_lst (ac (ebn j (op := .add) rfl v0 ej_int) (ac (ebn j (op := .sub) rfl v0 ej_int) (ac ej_non (ac (ej_tup (ac (es [110, 97, 109, 101]) (ac (es [97]) an))) (ac (ej_t1 (cl_str) v0 (by decide +kernel) rfl M.f_str) (ac v0 an))))))))
 (sk (sj_setI J (eix j v0 (es [102, 111, 117, 110, 100])) (es [99, 111, 117, 110, 116]) (eix j v0 (ek j O.c22 hr0 dfl_nil M.g__law_take (ac v0 (ac ej_int an)))))
 (sk (sf (bc j (op := .eq) rfl (ek j O.c22 hr0 dfl_nil M.g__law_take (ac v0 (ac ej_int an))) ej_int) (sk (sj_ex (ej_dpop1 (eix j v0 (es [102, 111, 117, 110, 100])) (es [99, 111, 117, 110, 116])))
 (sk (sr ej_bl)
 sn)) sn)
 (sk (sr (ej_cmp j (op := .ne) rfl (ej_b1 (cl_repr j.hK j.hu2 j.gd) (eix j (eix j v0 (es [102, 111, 117, 110, 100])) (es [99, 111, 117, 110, 116])) (by decide +kernel) rfl M.f_repr) (ej_b1 (cl_repr j.hK j.hu2 j.gd) v0 (by decide +kernel) rfl M.f_repr)))
 sn))))))))
end Lw
end
section
set_option Elab.async false
set_option maxHeartbeats 0
namespace Lw
open PySem PySem.Spec PyProof.Rows L2 Fw
theorem s30 : SjD N30 d30 st30 b_law := sj_i sc30 fun J j O M hr0 hr => (sk (sj_for J (ij_range1 (ej_b2 (cl_max J.hc) ej_int (ej_b2 (cl_min J.hc) (ej_b1 (cl_len j.hK) v0 (by decide +kernel) rfl M.f_len) ej_int (by decide +kernel) rfl M.f_min) (by decide +kernel) rfl M.f_max) rfl M.f_range) (gj_nm J.hN rfl (.inl rfl) (.inl rfl)) (sk (stv J (ek j O.c21 hr0 dfl_nil M.g__law_room (ac v0 (ac v0 an))))
 (sk (sj_asg J (ek j O.c26 hr0 dfl_nil M.g__law_grown (ac v0 (ac ej_int an))) (gj_tp J.hc (gsj_cons (gj_nm J.hN rfl (.inl rfl) (.inl rfl)) (gsj_cons (gj_nm J.hN rfl (.inl rfl) (.inl rfl)) gsj_nil))))
 (sk (stv J (ec_makeK j (O.k16_root) hr kg16_root M.g_Book (ac (ek j O.c27 hr0 dfl_nil M.g__law_things (ac v0 (ac v0 an))) an) (kj_cons (ej_tup (ac (es [116, 111]) (ac ej_int (ac ej_int an)))) kj_nil) (len_cons len_nil) (len_cons len_nil)))
 (sk (stv J (ek j O.c28 hr0 dfl_nil M.g__law_leaves (ac v0 (ac ej_dct0 an))))
 (sk (sj_for J (ij_range1 ej_int rfl M.f_range) (gj_nm J.hN rfl (.inl rfl) (.inl rfl)) (sk (stv J (ek j O.c514 hr0 dfl_nil M.g_pages (ac v0 an)))
 (sk (sf (bj_w (wj_or (bc j (op := .ne) rfl (ej_b1 (cl_repr j.hK j.hu2 j.gd) v0 (by decide +kernel) rfl M.f_repr) (ej_b1 (cl_repr j.hK j.hu2 j.gd) v0 (by decide +kernel) rfl M.f_repr)) (wj_or1 (bc j (op := .isnt) rfl (ek j O.c15 hr0 dfl_nil M.g_are_counted (ac v0 an)) ej_bl)))) (sk (sr ej_bl)
 sn) sn)
 (sk (sj_ex (ej_app v0 ej_non))
 sn))))
 (sk (stv J (ek j O.c29 hr0 dfl_nil M.g__law_bent_counts (ac v0 (ac v0 an))))
 (sk (stv J (ec_makeK j (O.k16_root) hr kg16_root M.g_Book (ac (ek j O.c27 hr0 dfl_nil M.g__law_things (ac v0 (ac v0 an))) an) (kj_cons (ej_tup (ac (es [116, 111]) (ac ej_int (ac ej_int an)))) kj_nil) (len_cons len_nil) (len_cons len_nil)))
 (sk (sf (bj_w (wj_or (bc j (op := .ne) rfl (ej_b1 (cl_repr j.hK j.hu2 j.gd) (ek j O.c15 hr0 dfl_nil M.g_are_counted (ac v0 an)) (by decide +kernel) rfl M.f_repr) (ej_b1 (cl_repr j.hK j.hu2 j.gd) (ej_not j v0) (by decide +kernel) rfl M.f_repr)) (wj_or1 (bc j (op := .ne) rfl (ej_b1 (cl_repr j.hK j.hu2 j.gd) (ek j O.c14 hr0 dfl_nil M.g_pages (ac v0 an)) (by decide +kernel) rfl M.f_repr) (ej_b1 (cl_repr j.hK j.hu2 j.gd) v0 (by decide +kernel) rfl M.f_repr))))) (sk (sr ej_bl)
 sn) sn)
 sn)))))))))
 (sk (sr ej_bl)
 sn))
end Lw
end
section
set_option Elab.async false
set_option maxHeartbeats 0
namespace Lw
open PySem PySem.Spec PyProof.Rows L2 Fw
structure Fd (K : PySem.W.Frag) : Prop where
  D0 : ∃ fd, FnD K d0 fd
  D1 : ∃ fd, FnD K d1 fd
  D2 : ∃ fd, FnD K d2 fd
  D3 : ∃ fd, FnD K d3 fd
  D4 : ∃ fd, FnD K d4 fd
  D5 : ∃ fd, FnD K d5 fd
  D6 : ∃ fd, FnD K d6 fd
  D7 : ∃ fd, FnD K d7 fd
  D8 : ∃ fd, FnD K d8 fd
  D9 : ∃ fd, FnD K d9 fd
  D10 : ∃ fd, FnD K d10 fd
  D11 : ∃ fd, FnD K d11 fd
  D12 : ∃ fd, FnD K d12 fd
  D13 : ∃ fd, FnD K d13 fd
  D14 : ∃ fd, FnD K d14 fd
  D15 : ∃ fd, FnD K d15 fd
  D16 : ∃ fd, FnD K d16 fd
  D17 : ∃ fd, FnD K d17 fd
  D18 : ∃ fd, FnD K d18 fd
  D19 : ∃ fd, FnD K d19 fd
  D20 : ∃ fd, FnD K d20 fd
  D21 : ∃ fd, FnD K d21 fd
  D22 : ∃ fd, FnD K d22 fd
  D23 : ∃ fd, FnD K d23 fd
  D24 : ∃ fd, FnD K d24 fd
  D25 : ∃ fd, FnD K d25 fd
  D26 : ∃ fd, FnD K d26 fd
  D27 : ∃ fd, FnD K d27 fd
  D28 : ∃ fd, FnD K d28 fd
  D29 : ∃ fd, FnD K d29 fd
  D30 : ∃ fd, FnD K d30 fd
section
variable {P : Program} {w : World} {K : PySem.W.Frag} {mg : Str → Option Value} {base : Heap} {F n : Nat}
theorem bd0 : BdD K d0 ps0 [] := fun D => ⟨[], .nil, FunD.bindsN D fun _ _ _ _ _ _ us hl => match us, hl with | [_], _ => rfl⟩
theorem bd1 : BdD K d1 ps1 [] := fun D => ⟨[], .nil, FunD.bindsN D fun _ _ _ _ _ _ us hl => match us, hl with | [_, _, _], _ => rfl⟩
theorem bd2 : BdD K d2 ps2 [] := fun D => ⟨[], .nil, FunD.bindsN D fun _ _ _ _ _ _ us hl => match us, hl with | [_], _ => rfl⟩
theorem bd3 : BdD K d3 ps3 [] := fun D => ⟨[], .nil, FunD.bindsN D fun _ _ _ _ _ _ us hl => match us, hl with | [_], _ => rfl⟩
theorem bd4 : BdD K d4 ps4 [] := fun D => ⟨[], .nil, FunD.bindsN D fun _ _ _ _ _ _ us hl => match us, hl with | [_], _ => rfl⟩
theorem bd5 : BdD K d5 ps5 [] := fun D => ⟨[], .nil, FunD.bindsN D fun _ _ _ _ _ _ us hl => match us, hl with | [_, _], _ => rfl⟩
theorem bd6 : BdD K d6 ps6 [] := fun D => ⟨[], .nil, FunD.bindsN D fun _ _ _ _ _ _ us hl => match us, hl with | [_, _], _ => rfl⟩
theorem bd7 : BdD K d7 ps7 [] := fun D => ⟨[], .nil, FunD.bindsN D fun _ _ _ _ _ _ us hl => match us, hl with | [_], _ => rfl⟩
theorem bd8 : BdD K d8 ps8 [] := fun D => ⟨[], .nil, FunD.bindsN D fun _ _ _ _ _ _ us hl => match us, hl with | [_], _ => rfl⟩
theorem bd9 : BdD K d9 ps9 [] := fun D => ⟨[], .nil, FunD.bindsN D fun _ _ _ _ _ _ us hl => match us, hl with | [_, _], _ => rfl⟩
theorem bd10 : BdD K d10 ps10 [] := fun D => ⟨[], .nil, FunD.bindsN D fun _ _ _ _ _ _ us hl => match us, hl with | [_, _], _ => rfl⟩
theorem bd11 : BdD K d11 ps11 [] := fun D => ⟨[], .nil, FunD.bindsN D fun _ _ _ _ _ _ us hl => match us, hl with | [_], _ => rfl⟩
theorem bd12 : BdD K d12 ps12 [] := fun D => ⟨[], .nil, FunD.bindsN D fun _ _ _ _ _ _ us hl => match us, hl with | [_, _], _ => rfl⟩
theorem bd13 : BdD K d13 ps13 [] := fun D => ⟨[], .nil, FunD.bindsN D fun _ _ _ _ _ _ us hl => match us, hl with | [_], _ => rfl⟩
theorem bd14 : BdD K d14 ps14 [] := fun D => ⟨[], .nil, FunD.bindsN D fun _ _ _ _ _ _ us hl => match us, hl with | [_], _ => rfl⟩
theorem bd15 : BdD K d15 ps15 [] := fun D => ⟨[], .nil, FunD.bindsN D fun _ _ _ _ _ _ us hl => match us, hl with | [_], _ => rfl⟩
theorem bd16 : BdD K d16 ps16 (dv16 K) := fun D => FunD.binds0 D 2 (fun h => by cases h) rfl fun _ _ _ _ _ _ us ks h1 h2 => match us, ks, h1, h2 with | [_, _], [_, _], _, _ => ⟨_, _, _, _, _, _, rfl, rfl, ⟨_, _, _, _, _, _, rfl, rfl, rfl⟩⟩
theorem bd17 : BdD K d17 ps17 [] := fun D => ⟨[], .nil, FunD.bindsN D fun _ _ _ _ _ _ us hl => match us, hl with | [_], _ => rfl⟩
theorem bd18 : BdD K d18 ps18 [] := fun D => ⟨[], .nil, FunD.bindsN D fun _ _ _ _ _ _ us hl => match us, hl with | [_, _], _ => rfl⟩
theorem bd19 : BdD K d19 ps19 [] := fun D => ⟨[], .nil, FunD.bindsN D fun _ _ _ _ _ _ us hl => match us, hl with | [_, _], _ => rfl⟩
theorem bd20 : BdD K d20 ps20 [] := fun D => ⟨[], .nil, FunD.bindsN D fun _ _ _ _ _ _ us hl => match us, hl with | [_, _], _ => rfl⟩
theorem bd21 : BdD K d21 ps21 [] := fun D => ⟨[], .nil, FunD.bindsN D fun _ _ _ _ _ _ us hl => match us, hl with | [_, _], _ => rfl⟩
theorem bd22 : BdD K d22 ps22 [] := fun D => ⟨[], .nil, FunD.bindsN D fun _ _ _ _ _ _ us hl => match us, hl with | [_, _], _ => rfl⟩
theorem bd23 : BdD K d23 ps23 [] := fun D => ⟨[], .nil, FunD.bindsN D fun _ _ _ _ _ _ us hl => match us, hl with | [_], _ => rfl⟩
theorem bd24 : BdD K d24 ps24 [] := fun D => ⟨[], .nil, FunD.bindsN D fun _ _ _ _ _ _ us hl => match us, hl with | [_], _ => rfl⟩
theorem bd25 : BdD K d25 ps25 [] := fun D => ⟨[], .nil, FunD.bindsN D fun _ _ _ _ _ _ us hl => match us, hl with | [_, _, _], _ => rfl⟩
theorem bd26 : BdD K d26 ps26 [] := fun D => ⟨[], .nil, FunD.bindsN D fun _ _ _ _ _ _ us hl => match us, hl with | [_, _], _ => rfl⟩
theorem bd27 : BdD K d27 ps27 [] := fun D => ⟨[], .nil, FunD.bindsN D fun _ _ _ _ _ _ us hl => match us, hl with | [_, _], _ => rfl⟩
theorem bd28 : BdD K d28 ps28 [] := fun D => ⟨[], .nil, FunD.bindsN D fun _ _ _ _ _ _ us hl => match us, hl with | [_, _], _ => rfl⟩
theorem bd29 : BdD K d29 ps29 [] := fun D => ⟨[], .nil, FunD.bindsN D fun _ _ _ _ _ _ us hl => match us, hl with | [_, _], _ => rfl⟩
theorem bd30 : BdD K d30 ps30 [] := fun D => ⟨[], .nil, FunD.bindsN D fun _ _ _ _ _ _ us hl => match us, hl with | [_], _ => rfl⟩
theorem gr16_root {vs mz zs : List V} {us mv ws : List Value} (r0 : Vals vs us) (r1 : Vals mz mv) (r2 : Vals zs ws) : Vals (gg16_root vs mz zs) (gg16_root us mv ws) := by
  cases r0 with
  | nil => exact .nil
  | cons a0 q0_0 =>
    cases q0_0 with
    | nil => exact .cons a0 .nil
    | cons a1 q0_1 =>
      cases q0_1 with
      | cons _ _ => exact .cons a0 .nil
      | nil =>
        cases r1 with
        | nil => exact .cons a0 .nil
        | cons m0 q1_0 =>
          cases q1_0 with
          | cons _ _ => exact .cons a0 .nil
          | nil =>
            cases r2 with
            | nil => exact .cons a0 .nil
            | cons z0 q2_0 =>
              cases q2_0 with
              | cons _ _ => exact .cons a0 .nil
              | nil =>
                exact (.cons a0 (.cons a1 (.cons z0 (.cons m0 .nil))))
theorem kb16_root {fd : FuncData} (D : FnD K d16 fd) : ∃ g, KBn K fd ps16 2 ["root"] g (kv16_root K) := by
  obtain ⟨mv, h⟩ := FunD.kbinds0 (ps := ps16) D 2 ["root"] (lk16_root K) gg16_root (fun h => by cases h) (fun q hq => by
     simp [lk16_root] at hq; subst hq; exact List.mem_of_getElem? (i := 1) rfl) gr16_root (fun _ _ _ _ _ _ us mv ws h1 h2 h3 => match us, mv, ws, h1, h2, h3 with | [_, _], [_], [_], _, _, _ => ⟨_, _, _, _, _, _, rfl, rfl, rfl⟩)
  exact ⟨_, h⟩
theorem ok_zero (D : Fd K) (M : Mg w K mg) : Ok P w K mg base F 0 where
  c0 := co_z D.D0 bd0 rz
  c1 := co_z D.D1 bd1 rz
  c2 := co_z D.D2 bd2 rz
  c3 := co_z D.D3 bd3 rz
  c4 := co_z D.D4 bd4 rz
  c5 := co_z D.D5 bd5 rz
  c6 := co_z D.D6 bd6 rz
  c7 := co_z D.D7 bd7 rz
  c8 := co_z D.D8 bd8 rz
  c9 := co_z D.D9 bd9 rz
  c10 := co_z D.D10 bd10 rz
  c11 := co_z D.D11 bd11 rz
  c12 := co_z D.D12 bd12 rz
  c13 := co_z D.D13 bd13 rz
  c14 := co_z D.D14 bd14 rz
  c15 := co_z D.D15 bd15 rz
  c16 := mo_z D.D16 bd16 M.mk0 rz
  c17 := co_z D.D17 bd17 rz
  c18 := co_z D.D18 bd18 rz
  c19 := co_z D.D19 bd19 rz
  c20 := co_z D.D20 bd20 rz
  c21 := co_z D.D21 bd21 rz
  c22 := co_z D.D22 bd22 rz
  c23 := co_z D.D23 bd23 rz
  c24 := co_z D.D24 bd24 rz
  c25 := co_z D.D25 bd25 rz
  c26 := co_z D.D26 bd26 rz
  c27 := co_z D.D27 bd27 rz
  c28 := co_z D.D28 bd28 rz
  c29 := co_z D.D29 bd29 rz
  c30 := co_z D.D30 bd30 rz
  c514 := co_z D.D14 bd14 rz
  k16_root := by
    obtain ⟨fd, D⟩ := D.D16
    obtain ⟨g, b⟩ := kb16_root D
    exact ⟨_, fd, g, M.mk0, fn_badM, b⟩
theorem ok_succ (O : Ok P w K mg base F n) (M : Mg w K mg) (D : Fd K) : Ok P w K mg base F (n + 1) where
  c0 := co_own rfl O M D.D0 bd0 sc0 s0 (run_is_whole F n)
  c1 := co_own rfl O M D.D1 bd1 sc1 s1 (run_is_from F n)
  c2 := co_own rfl O M D.D2 bd2 sc2 s2 (run_is_number F n)
  c3 := co_own rfl O M D.D3 bd3 sc3 s3 (run_is_edition F n)
  c4 := co_own rfl O M D.D4 bd4 sc4 s4 (run_is_reference F n)
  c5 := co_own rfl O M D.D5 bd5 sc5 s5 (run_is_kind F n)
  c6 := co_own rfl O M D.D6 bd6 sc6 s6 (run_entry_of F n)
  c7 := co_own rfl O M D.D7 bd7 sc7 s7 (run_is_table F n)
  c8 := co_own rfl O M D.D8 bd8 sc8 s8 (run_first_node F n)
  c9 := co_own rfl O M D.D9 bd9 sc9 s9 (run_kids_of F n)
  c10 := co_own rfl O M D.D10 bd10 sc10 s10 (run_handed F n)
  c11 := co_own rfl O M D.D11 bd11 sc11 s11 (run_first_of F n)
  c12 := co_own rfl O M D.D12 bd12 sc12 s12 (run_with_own F n)
  c13 := co_own rfl O M D.D13 bd13 sc13 s13 (run_walked F n)
  c14 := co_own rfl O M D.D14 bd14 sc14 s14 (run_pages F n)
  c15 := co_own rfl O M D.D15 bd15 sc15 s15 (run_are_counted F n)
  c16 := co_make rfl O M D.D16 bd16 sc16 s16 M.mk0 (run_Book_init F n)
  c17 := co_own rfl O M D.D17 bd17 sc17 s17 (run_Book_root F n)
  c18 := co_own rfl O M D.D18 bd18 sc18 s18 (run_Book_edition F n)
  c19 := co_own rfl O M D.D19 bd19 sc19 s19 (run_Book_leads F n)
  c20 := co_own rfl O M D.D20 bd20 sc20 s20 (run_Book_at F n)
  c21 := co_full rfl O M D.D21 bd21 sc21 s21 (run__law_room F n)
  c22 := co_own rfl O M D.D22 bd22 sc22 s22 (run__law_take F n)
  c23 := co_full rfl O M D.D23 bd23 sc23 s23 (run__law_page_entries F n)
  c24 := co_own rfl O M D.D24 bd24 sc24 s24 (run__law_table_of F n)
  c25 := co_full rfl O M D.D25 bd25 sc25 s25 (run__law_node F n)
  c26 := co_full rfl O M D.D26 bd26 sc26 s26 (run__law_grown F n)
  c27 := co_full rfl O M D.D27 bd27 sc27 s27 (run__law_things F n)
  c28 := co_full rfl O M D.D28 bd28 sc28 s28 (run__law_leaves F n)
  c29 := co_full rfl O M D.D29 bd29 sc29 s29 (run__law_bent_counts F n)
  c30 := co_full rfl O M D.D30 bd30 sc30 s30 (run_law F n)
  c514 := co_full rfl O M D.D14 bd14 sc14 s14 (run_pages_full F n)
  k16_root := by
    obtain ⟨fd, D⟩ := D.D16
    obtain ⟨g, b⟩ := kb16_root D
    exact ⟨_, fd, g, M.mk0, fn_make D sc16 rfl (fun cdv A outer s H E hr => s16.h O M hr), b⟩
theorem ok_all (M : Mg w K mg) (D : Fd K) : ∀ n, Ok P w K mg base F n
  | 0 => ok_zero D M
  | n + 1 => ok_succ (ok_all M D n) M D
end
end Lw
end
section
set_option autoImplicit true
set_option Elab.async false
set_option maxHeartbeats 0
namespace Lw
open PySem PySem.Spec PyProof.Rows L2 Fw
theorem emB_ok {K : PySem.W.Frag} (h : emB K = true) : KEmp K (empA K) := by
  unfold emB at h
  split at h
  · rename_i c its n sl e
    simp only [Bool.and_eq_true, decide_eq_true_eq] at h
    obtain ⟨rfl, h2⟩ := h
    have : its = #[] := Array.isEmpty_iff.mp h2
    subst this
    exact ⟨n, sl, e⟩
  · cases h
section
variable {K : PySem.W.Frag} {h : Heap} {mg : Str → Option Value} {w : World}
theorem mg_ok (X : K.In h) (G : h.Ns mainGlobals mg) (t : He.SaysT fas fns tbs w K) (e : exB K = true) : Mg w K mg where
  g_Book := He.glo_ok X G (t.d.fact 0 rfl)
  g_OWN := He.glo_ok X G (t.d.fact 1 rfl)
  g__law_bent_counts := He.glo_ok X G (t.d.fact 2 rfl)
  g__law_grown := He.glo_ok X G (t.d.fact 3 rfl)
  g__law_leaves := He.glo_ok X G (t.d.fact 4 rfl)
  g__law_node := He.glo_ok X G (t.d.fact 5 rfl)
  g__law_page_entries := He.glo_ok X G (t.d.fact 6 rfl)
  g__law_room := He.glo_ok X G (t.d.fact 7 rfl)
  g__law_table_of := He.glo_ok X G (t.d.fact 8 rfl)
  g__law_take := He.glo_ok X G (t.d.fact 9 rfl)
  g__law_things := He.glo_ok X G (t.d.fact 10 rfl)
  g_are_counted := He.glo_ok X G (t.d.fact 11 rfl)
  g_entry_of := He.glo_ok X G (t.d.fact 12 rfl)
  g_first_node := He.glo_ok X G (t.d.fact 13 rfl)
  g_first_of := He.glo_ok X G (t.d.fact 14 rfl)
  g_handed := He.glo_ok X G (t.d.fact 15 rfl)
  g_is_edition := He.glo_ok X G (t.d.fact 16 rfl)
  g_is_from := He.glo_ok X G (t.d.fact 17 rfl)
  g_is_kind := He.glo_ok X G (t.d.fact 18 rfl)
  g_is_number := He.glo_ok X G (t.d.fact 19 rfl)
  g_is_reference := He.glo_ok X G (t.d.fact 20 rfl)
  g_is_table := He.glo_ok X G (t.d.fact 21 rfl)
  g_is_whole := He.glo_ok X G (t.d.fact 22 rfl)
  g_kids_of := He.glo_ok X G (t.d.fact 23 rfl)
  g_pages := He.glo_ok X G (t.d.fact 25 rfl)
  g_walked := He.glo_ok X G (t.d.fact 26 rfl)
  g_with_own := He.glo_ok X G (t.d.fact 27 rfl)
  f_all := He.free_ok X G (t.d.fact 28 rfl)
  f_bool := He.free_ok X G (t.d.fact 29 rfl)
  f_dict := He.free_ok X G (t.d.fact 30 rfl)
  f_int := He.free_ok X G (t.d.fact 31 rfl)
  f_isinstance := He.free_ok X G (t.d.fact 32 rfl)
  f_len := He.free_ok X G (t.d.fact 33 rfl)
  f_list := He.free_ok X G (t.d.fact 34 rfl)
  f_max := He.free_ok X G (t.d.fact 35 rfl)
  f_min := He.free_ok X G (t.d.fact 36 rfl)
  f_range := He.free_ok X G (t.d.fact 37 rfl)
  f_repr := He.free_ok X G (t.d.fact 38 rfl)
  f_sorted := He.free_ok X G (t.d.fact 39 rfl)
  f_str := He.free_ok X G (t.d.fact 40 rfl)
  f_sum := He.free_ok X G (t.d.fact 41 rfl)
  f_tuple := He.free_ok X G (t.d.fact 42 rfl)
  MOST_EDITION := He.int_ok X G (t.d.fact 43 rfl)
  MOST_NUMBER := He.int_ok X G (t.d.fact 44 rfl)
  COUNT := He.str_ok X G (t.d.fact 45 rfl)
  KIDS := He.str_ok X G (t.d.fact 46 rfl)
  cls0 := He.cls_ok (t.d.fact 47 rfl)
  mk0 := He.mkr_ok (t.d.fact 48 rfl)
  no0_own_free := He.noat_ok (t.d.fact 49 rfl)
  no0_own_root := He.noat_ok (t.d.fact 50 rfl)
  no0_own_things := He.noat_ok (t.d.fact 51 rfl)
  m0_at := He.meth_ok (t.d.fact 52 rfl)
  m0_edition := He.meth_ok (t.d.fact 53 rfl)
  m0_leads := He.meth_ok (t.d.fact 54 rfl)
  m0_root := He.meth_ok (t.d.fact 55 rfl)
  emp := emB_ok (and1 (and1 (and1 e)))
  kpl := kplB_ok (and2 (and1 (and1 e)))
  kt_OWN := ktB_ok (and2 (and1 e))
theorem fd_ok (c : He.SaysD fas fns K) : Fd K where
  D0 := c.def_ 0 rfl
  D1 := c.def_ 1 rfl
  D2 := c.def_ 2 rfl
  D3 := c.def_ 3 rfl
  D4 := c.def_ 4 rfl
  D5 := c.def_ 5 rfl
  D6 := c.def_ 6 rfl
  D7 := c.def_ 7 rfl
  D8 := c.def_ 8 rfl
  D9 := c.def_ 9 rfl
  D10 := c.def_ 10 rfl
  D11 := c.def_ 11 rfl
  D12 := c.def_ 12 rfl
  D13 := c.def_ 13 rfl
  D14 := c.def_ 14 rfl
  D15 := c.def_ 15 rfl
  D16 := c.def_ 16 rfl
  D17 := c.def_ 17 rfl
  D18 := c.def_ 18 rfl
  D19 := c.def_ 19 rfl
  D20 := c.def_ 20 rfl
  D21 := c.def_ 21 rfl
  D22 := c.def_ 22 rfl
  D23 := c.def_ 23 rfl
  D24 := c.def_ 24 rfl
  D25 := c.def_ 25 rfl
  D26 := c.def_ 26 rfl
  D27 := c.def_ 27 rfl
  D28 := c.def_ 28 rfl
  D29 := c.def_ 29 rfl
  D30 := c.def_ 30 rfl
end
end Lw
end
section
set_option autoImplicit true
set_option Elab.async false
set_option maxHeartbeats 0
namespace Lw
open PySem PySem.Spec PyProof.Rows L2 Fw
def Plain : Prop := ∀ ns : List Int, ns.length ≤ 63 → ∃ h', run 1000000 60 ix_law [.roi ns] [] = .ok (.bl true) h'
def spLaw (K : PySem.W.Frag) : Sp := fun vs H Q _ => ∃ (a : Addr) (ns : List Int), vs = [.ref a] ∧ ns.length ≤ 63 ∧ SqL K H a (ns.map V.int) ∧ ∀ H', Q (.bl true) H'
theorem sp_law (hp : Plain) {K : PySem.W.Frag} {vs : List V} {H : Hp} {Q : VK} {E : XK} (p : spLaw K vs H Q E) : spF (Wk K) (run 1000000 60 ix_law) vs H Q E := by
  obtain ⟨a, ns, rfl, hl, hs, hq⟩ := p
  obtain ⟨h', e⟩ := hp ns hl
  refine ⟨[], [], [], [.roi ns], ⟨rfl, .nil, (fun z hz => by cases hz), (fun n o a e => by simp at e)⟩, .cons (.roi ?_) .nil, ?_⟩
  · rcases hs with hs | hs
    · exact .inl ⟨by simp, by simp, hs⟩
    · exact .inr hs
  · rw [e]
    intro ρ' H' x S v rv
    cases rv
    exact hq H'
def CXs : CXT := fun outer H s E e s' => ∃ P w, L2.CX P w outer H s E e s'
theorem cxs_no {H : Hp} {s s' : Shared} {e : Value} (h : CXs [] H s (fun _ _ _ => False) e s') : False := by
  obtain ⟨P, w, a, B, H', cls, d, _, _, _, _, _, _, _, q⟩ := h
  exact q
theorem law_fn {P : Program} {w : World} {K : PySem.W.Frag} {h : Heap} {mg : Str → Option Value} {f : Addr} (hp : Plain) (X : K.In h) (G : h.Ns mainGlobals mg) (hfa : mg ("law" : Str) = some (.ref f)) (t : He.SaysT fas fns tbs w K) (e : exB K = true) :
    ∃ fd : FuncData, (∀ (s : Shared) (v : Value), BindsTo s fd ⟨[v], []⟩ [("_law_script", v)]) ∧ ∀ base : Heap, K.In base → base.Ns mainGlobals mg → FnG P w K mg base CXs 120 f fd ["_law_script"] (spLaw K) := by
  have M := mg_ok X G t e
  have D := fd_ok t.d
  obtain ⟨fd, F⟩ := D.D30
  have e2 := hfa.symm.trans (He.glo_ok X G (t.d.fact 24 (f := .glo "law") rfl))
  cases e2
  have b := FunD.bindsA (ps := ["_law_script"]) F fun _ _ _ _ _ _ us hl => match us, hl with | [_], _ => rfl
  refine ⟨fd, fun s v => b s [v] rfl, fun base _ _ => ?_⟩
  have O : Ok P w K mg base 1000000 59 := ok_all M D 59
  have k : FnG P w K mg base (L2.CX P w) (2 * 59 + 1 + 1) (He.fAd K d30.at_) fd ps30 (spF (Wk K) (run 1000000 60 ix_law)) := fn_full F sc30 rfl (fun cdv A outer s H E hr => s30.h O M hr)
  exact (k.imp fun vs H Q E p => sp_law hp p).cx fun _ _ _ _ _ _ q => ⟨P, w, q⟩
end Lw
open PySem PySem.W PySem.Calls PyProof.Rows
theorem holds66 (hp : Lw.Plain) : PySem.Challenge.rw_appendedbook_k66_pages_told.Holds := by
  w_on; o_law
  refine HandSHeadRun.head_any (r := Lw.RwL) (q := view Lw.RwL.prog [Lw.ix]) (H := Lw.hk) (ob := Lw.ob) (M := 6000) (loose := Lw.names) (d := HandSHeadRun.topDef Lw.RwL.prog Lw.ix) (kwd := []) Lw.ob_eq
    (by kernel_rfl) (fun s => by kernel_rfl) Lw.runEq (by kernel_rfl) (by kernel_rfl) (by kernel_rfl) (by rfl) (by first | assumption | decide +kernel) (by decide +kernel) ⟨rfl, rfl, rfl, rfl, rfl, by decide +kernel⟩ ?hw ?hc
  case hw => w_witness2
  case hc =>
    refine Fw.walk_ofG (l := PySem.Challenge.rw_appendedbook_k66_pages_told) (n := 63) (k := 120) (x := "_law_script") (CX := Lw.CXs) rfl (by decide) (by kernel_rfl) ⟨rfl, by decide, by decide, rfl⟩ ?F (fun _ _ _ _ z => Lw.cxs_no z)
    intro w mg fa h Y G hmg0
    obtain ⟨K, KX, c⟩ := Y
    have hmg : mg ("law" : PySem.Str) = some (.ref fa) := by
      have e : (HandSHeadRun.topDef Lw.RwL.prog Lw.ix).name = ("law" : PySem.Str) := by kernel_rfl
      rw [← e]
      exact hmg0
    obtain ⟨fd, hb, hF⟩ := Lw.law_fn (P := (PySem.Challenge.rw_appendedbook_k66_pages_told).prog) (w := w) hp KX G hmg c.t c.more
    exact ⟨K, fd, Lw.spLaw K, KX, hb, fun H a ns hl _ hS => ⟨a, ns, rfl, hl, hS, fun _ => rfl⟩, hF⟩
end
section
set_option autoImplicit true
set_option autoImplicit true
namespace Pl
open Fw
variable {σ : Sg} {h : Hh} {a b c t : TM} {as ks : AM} {p q : BM} {x : Exn} {d e f : D} {ds es : List D} {s s' : SM}
@[simp] theorem eC_eq : eC d σ h = .ok d h := (rfl)
@[simp] theorem eV_eq {i : Nat} : eV i σ h = opt (sget σ i) h := (rfl)
@[simp] theorem aNil_eq : aNil σ h = .ok [] h := (rfl)
@[simp] theorem eDct0_eq : eDct0 σ h = .ok (.dct []) h := (rfl)
@[simp] theorem eNewD_eq : eNewD σ h = .ok (.ref h.length) (h ++ [.dct []]) := (rfl)
@[simp] theorem sNil_eq : sNil σ h = .nx σ h := (rfl)
@[simp] theorem bYes_eq : bYes σ h = .ok true h := (rfl)
@[simp] theorem sCons_eq : sCons s s' σ h = (s σ h).then_ s' := (rfl)
def kA2 (d : D) (r : R (List D)) : R (List D) := r.bind fun ds h => .ok (d :: ds) h
@[simp] theorem kA2_ok {d : D} {ds : (List D)} : kA2 d (.ok ds h) = .ok (d :: ds) h := (rfl)
@[simp] theorem kA2_xn {d : D} : kA2 d (.xn x h) = .xn x h := (rfl)
@[simp] theorem kA2_bad {d : D} : kA2 d .bad = .bad := (rfl)
def kA1 (as : AM) (σ : Sg) (r : R D) : R (List D) := r.bind fun d h => kA2 d (as σ h)
@[simp] theorem kA1_eq : aCons a as σ h = kA1 as σ (a σ h) := (rfl)
@[simp] theorem kA1_ok  {d : D} : kA1 as σ (.ok d h) = kA2 d (as σ h) := (rfl)
@[simp] theorem kA1_xn  : kA1 as σ (.xn x h) = .xn x h := (rfl)
@[simp] theorem kA1_bad  : kA1 as σ .bad = .bad := (rfl)
def kTup  (r : R (List D)) : R D := r.bind fun ds h => if ds.length ≤ line then .ok (.tup ds) h else .bad
@[simp] theorem kTup_eq : eTup as σ h = kTup  (as σ h) := (rfl)
@[simp] theorem kTup_ok  {ds : (List D)} : kTup  (.ok ds h) = if ds.length ≤ line then .ok (.tup ds) h else .bad := (rfl)
@[simp] theorem kTup_xn  : kTup  (.xn x h) = .xn x h := (rfl)
@[simp] theorem kTup_bad  : kTup  .bad = .bad := (rfl)
def kLst  (r : R (List D)) : R D := r.bind fun ds h => if ds.length ≤ line then .ok (.lst ds) h else .bad
@[simp] theorem kLst_eq : eLst as σ h = kLst  (as σ h) := (rfl)
@[simp] theorem kLst_ok  {ds : (List D)} : kLst  (.ok ds h) = if ds.length ≤ line then .ok (.lst ds) h else .bad := (rfl)
@[simp] theorem kLst_xn  : kLst  (.xn x h) = .xn x h := (rfl)
@[simp] theorem kLst_bad  : kLst  .bad = .bad := (rfl)
def kNewL  (r : R (List D)) : R D := r.bind fun ds h => if ds.length ≤ line then .ok (.ref h.length) (h ++ [.lst ds]) else .bad
@[simp] theorem kNewL_eq : eNewL as σ h = kNewL  (as σ h) := (rfl)
@[simp] theorem kNewL_ok  {ds : (List D)} : kNewL  (.ok ds h) = if ds.length ≤ line then .ok (.ref h.length) (h ++ [.lst ds]) else .bad := (rfl)
@[simp] theorem kNewL_xn  : kNewL  (.xn x h) = .xn x h := (rfl)
@[simp] theorem kNewL_bad  : kNewL  .bad = .bad := (rfl)
def kBin2 (op : Bop) (d : D) (r : R D) : R D := r.bind fun e h => opt (binop h op d e) h
@[simp] theorem kBin2_ok {op : Bop} {d : D} {e : D} : kBin2 op d (.ok e h) = opt (binop h op d e) h := (rfl)
@[simp] theorem kBin2_xn {op : Bop} {d : D} : kBin2 op d (.xn x h) = .xn x h := (rfl)
@[simp] theorem kBin2_bad {op : Bop} {d : D} : kBin2 op d .bad = .bad := (rfl)
def kBin (op : Bop) (b : TM) (σ : Sg) (r : R D) : R D := r.bind fun d h => kBin2 op d (b σ h)
@[simp] theorem kBin_eq : eBin op a b σ h = kBin op b σ (a σ h) := (rfl)
@[simp] theorem kBin_ok {op : Bop} {d : D} : kBin op b σ (.ok d h) = kBin2 op d (b σ h) := (rfl)
@[simp] theorem kBin_xn {op : Bop} : kBin op b σ (.xn x h) = .xn x h := (rfl)
@[simp] theorem kBin_bad {op : Bop} : kBin op b σ .bad = .bad := (rfl)
def kCmp2 (op : Cop) (d : D) (r : R D) : R D := r.bind fun e h => opt ((cmpop h op d e).map .bl) h
@[simp] theorem kCmp2_ok {op : Cop} {d : D} {e : D} : kCmp2 op d (.ok e h) = opt ((cmpop h op d e).map .bl) h := (rfl)
@[simp] theorem kCmp2_xn {op : Cop} {d : D} : kCmp2 op d (.xn x h) = .xn x h := (rfl)
@[simp] theorem kCmp2_bad {op : Cop} {d : D} : kCmp2 op d .bad = .bad := (rfl)
def kCmp (op : Cop) (b : TM) (σ : Sg) (r : R D) : R D := r.bind fun d h => kCmp2 op d (b σ h)
@[simp] theorem kCmp_eq : eCmp op a b σ h = kCmp op b σ (a σ h) := (rfl)
@[simp] theorem kCmp_ok {op : Cop} {d : D} : kCmp op b σ (.ok d h) = kCmp2 op d (b σ h) := (rfl)
@[simp] theorem kCmp_xn {op : Cop} : kCmp op b σ (.xn x h) = .xn x h := (rfl)
@[simp] theorem kCmp_bad {op : Cop} : kCmp op b σ .bad = .bad := (rfl)
def kAnd1 (o : Option Bool) (d : D) (b : TM) (σ : Sg) (h : Hh) : R D := match o with
  | none => .bad
  | some true => b σ h
  | some false => .ok d h
@[simp] theorem kAnd1_t : kAnd1 (some true) d b σ h = b σ h := (rfl)
@[simp] theorem kAnd1_f : kAnd1 (some false) d b σ h = .ok d h := (rfl)
def kAnd (b : TM) (σ : Sg) (r : R D) : R D := r.bind fun d h => kAnd1 (tru h d) d b σ h
@[simp] theorem kAnd_eq : eAnd a b σ h = kAnd b σ (a σ h) := (rfl)
@[simp] theorem kAnd_ok  {d : D} : kAnd b σ (.ok d h) = kAnd1 (tru h d) d b σ h := (rfl)
@[simp] theorem kAnd_xn  : kAnd b σ (.xn x h) = .xn x h := (rfl)
@[simp] theorem kAnd_bad  : kAnd b σ .bad = .bad := (rfl)
def kNot  (r : R D) : R D := r.bind fun d h => opt ((tru h d).map fun t => .bl (!t)) h
@[simp] theorem kNot_eq : eNot a σ h = kNot  (a σ h) := (rfl)
@[simp] theorem kNot_ok  {d : D} : kNot  (.ok d h) = opt ((tru h d).map fun t => .bl (!t)) h := (rfl)
@[simp] theorem kNot_xn  : kNot  (.xn x h) = .xn x h := (rfl)
@[simp] theorem kNot_bad  : kNot  .bad = .bad := (rfl)
def kCall (k : List D → Hh → R D) (r : R (List D)) : R D := r.bind fun ds h => k ds h
@[simp] theorem kCall_eq : eCall k as σ h = kCall k (as σ h) := (rfl)
@[simp] theorem kCall_ok {k : List D → Hh → R D} {ds : (List D)} : kCall k (.ok ds h) = k ds h := (rfl)
@[simp] theorem kCall_xn {k : List D → Hh → R D} : kCall k (.xn x h) = .xn x h := (rfl)
@[simp] theorem kCall_bad {k : List D → Hh → R D} : kCall k .bad = .bad := (rfl)
def kMeth2 (k : List D → Hh → R D) (d : D) (r : R (List D)) : R D := r.bind fun ds h => k (d :: ds) h
@[simp] theorem kMeth2_ok {k : List D → Hh → R D} {d : D} {ds : (List D)} : kMeth2 k d (.ok ds h) = k (d :: ds) h := (rfl)
@[simp] theorem kMeth2_xn {k : List D → Hh → R D} {d : D} : kMeth2 k d (.xn x h) = .xn x h := (rfl)
@[simp] theorem kMeth2_bad {k : List D → Hh → R D} {d : D} : kMeth2 k d .bad = .bad := (rfl)
def kMeth1 (k : List D → Hh → R D) (o : Option (Nat × List (Nat × D))) (cls : Nat) (d : D) (as : AM) (σ : Sg) (h : Hh) : R D := match o with
  | some (j, _) => if j = cls then kMeth2 k d (as σ h) else .bad
  | none => .bad
@[simp] theorem kMeth1_ok {k : List D → Hh → R D} {cls : Nat} {fs : List (Nat × D)} : kMeth1 k (some (cls, fs)) cls d as σ h = kMeth2 k d (as σ h) := by simp [kMeth1]
def kMeth (k : List D → Hh → R D) (cls : Nat) (as : AM) (σ : Sg) (r : R D) : R D := r.bind fun d h => kMeth1 k (asObj h d) cls d as σ h
@[simp] theorem kMeth_eq : eMeth k cls a as σ h = kMeth k cls as σ (a σ h) := (rfl)
@[simp] theorem kMeth_ok {k : List D → Hh → R D} {cls : Nat} {d : D} : kMeth k cls as σ (.ok d h) = kMeth1 k (asObj h d) cls d as σ h := (rfl)
@[simp] theorem kMeth_xn {k : List D → Hh → R D} {cls : Nat} : kMeth k cls as σ (.xn x h) = .xn x h := (rfl)
@[simp] theorem kMeth_bad {k : List D → Hh → R D} {cls : Nat} : kMeth k cls as σ .bad = .bad := (rfl)
def kU (g : Hh → D → Option D) (r : R D) : R D := r.bind fun d h => opt (g h d) h
@[simp] theorem kU_eq : eU g a σ h = kU g (a σ h) := (rfl)
@[simp] theorem kU_ok {g : Hh → D → Option D} {d : D} : kU g (.ok d h) = opt (g h d) h := (rfl)
@[simp] theorem kU_xn {g : Hh → D → Option D} : kU g (.xn x h) = .xn x h := (rfl)
@[simp] theorem kU_bad {g : Hh → D → Option D} : kU g .bad = .bad := (rfl)
def kU22 (g : Hh → D → D → Option D) (d : D) (r : R D) : R D := r.bind fun e h => opt (g h d e) h
@[simp] theorem kU22_ok {g : Hh → D → D → Option D} {d : D} {e : D} : kU22 g d (.ok e h) = opt (g h d e) h := (rfl)
@[simp] theorem kU22_xn {g : Hh → D → D → Option D} {d : D} : kU22 g d (.xn x h) = .xn x h := (rfl)
@[simp] theorem kU22_bad {g : Hh → D → D → Option D} {d : D} : kU22 g d .bad = .bad := (rfl)
def kU2 (g : Hh → D → D → Option D) (b : TM) (σ : Sg) (r : R D) : R D := r.bind fun d h => kU22 g d (b σ h)
@[simp] theorem kU2_eq : eU2 g a b σ h = kU2 g b σ (a σ h) := (rfl)
@[simp] theorem kU2_ok {g : Hh → D → D → Option D} {d : D} : kU2 g b σ (.ok d h) = kU22 g d (b σ h) := (rfl)
@[simp] theorem kU2_xn {g : Hh → D → D → Option D} : kU2 g b σ (.xn x h) = .xn x h := (rfl)
@[simp] theorem kU2_bad {g : Hh → D → D → Option D} : kU2 g b σ .bad = .bad := (rfl)
def kM2 (g : Hh → D → D → Option (D × Option (Nat × O))) (d : D) (r : R D) : R D := r.bind fun e h => optW h (g h d e)
@[simp] theorem kM2_ok {g : Hh → D → D → Option (D × Option (Nat × O))} {d : D} {e : D} : kM2 g d (.ok e h) = optW h (g h d e) := (rfl)
@[simp] theorem kM2_xn {g : Hh → D → D → Option (D × Option (Nat × O))} {d : D} : kM2 g d (.xn x h) = .xn x h := (rfl)
@[simp] theorem kM2_bad {g : Hh → D → D → Option (D × Option (Nat × O))} {d : D} : kM2 g d .bad = .bad := (rfl)
def kM1 (k : Bool) (g : Hh → D → D → Option (D × Option (Nat × O))) (d : D) (b : TM) (σ : Sg) (h : Hh) : R D := if k then kM2 g d (b σ h) else .bad
@[simp] theorem kM1_t {g : Hh → D → D → Option (D × Option (Nat × O))} : kM1 true g d b σ h = kM2 g d (b σ h) := (rfl)
def kM (k : Hh → D → Bool) (g : Hh → D → D → Option (D × Option (Nat × O))) (b : TM) (σ : Sg) (r : R D) : R D := r.bind fun d h => kM1 (k h d) g d b σ h
@[simp] theorem kM_eq : eM k g a b σ h = kM k g b σ (a σ h) := (rfl)
@[simp] theorem kM_ok {k : Hh → D → Bool} {g : Hh → D → D → Option (D × Option (Nat × O))} {d : D} : kM k g b σ (.ok d h) = kM1 (k h d) g d b σ h := (rfl)
@[simp] theorem kM_xn {k : Hh → D → Bool} {g : Hh → D → D → Option (D × Option (Nat × O))} : kM k g b σ (.xn x h) = .xn x h := (rfl)
@[simp] theorem kM_bad {k : Hh → D → Bool} {g : Hh → D → D → Option (D × Option (Nat × O))} : kM k g b σ .bad = .bad := (rfl)
def kM0 (g : Hh → D → Option (D × Option (Nat × O))) (r : R D) : R D := r.bind fun d h => optW h (g h d)
@[simp] theorem kM0_eq : eM0 g a σ h = kM0 g (a σ h) := (rfl)
@[simp] theorem kM0_ok {g : Hh → D → Option (D × Option (Nat × O))} {d : D} : kM0 g (.ok d h) = optW h (g h d) := (rfl)
@[simp] theorem kM0_xn {g : Hh → D → Option (D × Option (Nat × O))} : kM0 g (.xn x h) = .xn x h := (rfl)
@[simp] theorem kM0_bad {g : Hh → D → Option (D × Option (Nat × O))} : kM0 g .bad = .bad := (rfl)
def kIx2 (d : D) (r : R D) : R D := r.bind fun e h => opt (index h d e) h
@[simp] theorem kIx2_ok {d : D} {e : D} : kIx2 d (.ok e h) = opt (index h d e) h := (rfl)
@[simp] theorem kIx2_xn {d : D} : kIx2 d (.xn x h) = .xn x h := (rfl)
@[simp] theorem kIx2_bad {d : D} : kIx2 d .bad = .bad := (rfl)
def kIx (b : TM) (σ : Sg) (r : R D) : R D := r.bind fun d h => kIx2 d (b σ h)
@[simp] theorem kIx_eq : eIx a b σ h = kIx b σ (a σ h) := (rfl)
@[simp] theorem kIx_ok  {d : D} : kIx b σ (.ok d h) = kIx2 d (b σ h) := (rfl)
@[simp] theorem kIx_xn  : kIx b σ (.xn x h) = .xn x h := (rfl)
@[simp] theorem kIx_bad  : kIx b σ .bad = .bad := (rfl)
def fld1 (o : Option (Nat × List (Nat × D))) (cls k : Nat) (h : Hh) : R D := match o with
  | some (c, fs) => if c = cls then opt (fs.lookup k) h else .bad
  | none => .bad
@[simp] theorem fld1_ok {cls k : Nat} {fs : List (Nat × D)} : fld1 (some (cls, fs)) cls k h = opt (fs.lookup k) h := by simp [fld1]
def kFld (cls : Nat) (k : Nat) (r : R D) : R D := r.bind fun d h => fld1 (asObj h d) cls k h
@[simp] theorem kFld_eq : eFld cls k a σ h = kFld cls k (a σ h) := (rfl)
@[simp] theorem kFld_ok {cls : Nat} {k : Nat} {d : D} : kFld cls k (.ok d h) = fld1 (asObj h d) cls k h := (rfl)
@[simp] theorem kFld_xn {cls : Nat} {k : Nat} : kFld cls k (.xn x h) = .xn x h := (rfl)
@[simp] theorem kFld_bad {cls : Nat} {k : Nat} : kFld cls k .bad = .bad := (rfl)
def kCallK2 (k : List D → Hh → R D) (g : List D → List D → List D) (ds : List D) (r : R (List D)) : R D := r.bind fun es h => k (g ds es) h
@[simp] theorem kCallK2_ok {k : List D → Hh → R D} {g : List D → List D → List D} {ds : List D} {es : (List D)} : kCallK2 k g ds (.ok es h) = k (g ds es) h := (rfl)
@[simp] theorem kCallK2_xn {k : List D → Hh → R D} {g : List D → List D → List D} {ds : List D} : kCallK2 k g ds (.xn x h) = .xn x h := (rfl)
@[simp] theorem kCallK2_bad {k : List D → Hh → R D} {g : List D → List D → List D} {ds : List D} : kCallK2 k g ds .bad = .bad := (rfl)
def kCallK (k : List D → Hh → R D) (g : List D → List D → List D) (ks : AM) (σ : Sg) (r : R (List D)) : R D := r.bind fun ds h => kCallK2 k g ds (ks σ h)
@[simp] theorem kCallK_eq : eCallK k g as ks σ h = kCallK k g ks σ (as σ h) := (rfl)
@[simp] theorem kCallK_ok {k : List D → Hh → R D} {g : List D → List D → List D} {ds : (List D)} : kCallK k g ks σ (.ok ds h) = kCallK2 k g ds (ks σ h) := (rfl)
@[simp] theorem kCallK_xn {k : List D → Hh → R D} {g : List D → List D → List D} : kCallK k g ks σ (.xn x h) = .xn x h := (rfl)
@[simp] theorem kCallK_bad {k : List D → Hh → R D} {g : List D → List D → List D} : kCallK k g ks σ .bad = .bad := (rfl)
def kbT  (r : R D) : R Bool := r.bind fun d h => optB (tru h d) h
@[simp] theorem kbT_eq : bT a σ h = kbT  (a σ h) := (rfl)
@[simp] theorem kbT_ok  {d : D} : kbT  (.ok d h) = optB (tru h d) h := (rfl)
@[simp] theorem kbT_xn  : kbT  (.xn x h) = .xn x h := (rfl)
@[simp] theorem kbT_bad  : kbT  .bad = .bad := (rfl)
def kbCmp2 (op : Cop) (d : D) (r : R D) : R Bool := r.bind fun e h => optB (cmpop h op d e) h
@[simp] theorem kbCmp2_ok {op : Cop} {d : D} {e : D} : kbCmp2 op d (.ok e h) = optB (cmpop h op d e) h := (rfl)
@[simp] theorem kbCmp2_xn {op : Cop} {d : D} : kbCmp2 op d (.xn x h) = .xn x h := (rfl)
@[simp] theorem kbCmp2_bad {op : Cop} {d : D} : kbCmp2 op d .bad = .bad := (rfl)
def kbCmp (op : Cop) (b : TM) (σ : Sg) (r : R D) : R Bool := r.bind fun d h => kbCmp2 op d (b σ h)
@[simp] theorem kbCmp_eq : bCmp op a b σ h = kbCmp op b σ (a σ h) := (rfl)
@[simp] theorem kbCmp_ok {op : Cop} {d : D} : kbCmp op b σ (.ok d h) = kbCmp2 op d (b σ h) := (rfl)
@[simp] theorem kbCmp_xn {op : Cop} : kbCmp op b σ (.xn x h) = .xn x h := (rfl)
@[simp] theorem kbCmp_bad {op : Cop} : kbCmp op b σ .bad = .bad := (rfl)
def kbCh3 (op : Cop) (e : D) (r : R D) : R Bool := r.bind fun f h => optB (cmpop h op e f) h
@[simp] theorem kbCh3_ok {op : Cop} {e : D} {f : D} : kbCh3 op e (.ok f h) = optB (cmpop h op e f) h := (rfl)
@[simp] theorem kbCh3_xn {op : Cop} {e : D} : kbCh3 op e (.xn x h) = .xn x h := (rfl)
@[simp] theorem kbCh3_bad {op : Cop} {e : D} : kbCh3 op e .bad = .bad := (rfl)
def kbCh2a (o : Option Bool) (op : Cop) (e : D) (c : TM) (σ : Sg) (h : Hh) : R Bool := match o with
  | none => .bad
  | some false => .ok false h
  | some true => kbCh3 op e (c σ h)
@[simp] theorem kbCh2a_t {op : Cop} : kbCh2a (some true) op e c σ h = kbCh3 op e (c σ h) := (rfl)
@[simp] theorem kbCh2a_f {op : Cop} : kbCh2a (some false) op e c σ h = .ok false h := (rfl)
def kbCh2 (op : Cop) (op' : Cop) (d : D) (c : TM) (σ : Sg) (r : R D) : R Bool := r.bind fun e h => kbCh2a (cmpop h op d e) op' e c σ h
@[simp] theorem kbCh2_ok {op : Cop} {op' : Cop} {d : D} {e : D} : kbCh2 op op' d c σ (.ok e h) = kbCh2a (cmpop h op d e) op' e c σ h := (rfl)
@[simp] theorem kbCh2_xn {op : Cop} {op' : Cop} {d : D} : kbCh2 op op' d c σ (.xn x h) = .xn x h := (rfl)
@[simp] theorem kbCh2_bad {op : Cop} {op' : Cop} {d : D} : kbCh2 op op' d c σ .bad = .bad := (rfl)
def kbCh (op : Cop) (op' : Cop) (b : TM) (c : TM) (σ : Sg) (r : R D) : R Bool := r.bind fun d h => kbCh2 op op' d c σ (b σ h)
@[simp] theorem kbCh_eq : bCh op op' a b c σ h = kbCh op op' b c σ (a σ h) := (rfl)
@[simp] theorem kbCh_ok {op : Cop} {op' : Cop} {d : D} : kbCh op op' b c σ (.ok d h) = kbCh2 op op' d c σ (b σ h) := (rfl)
@[simp] theorem kbCh_xn {op : Cop} {op' : Cop} : kbCh op op' b c σ (.xn x h) = .xn x h := (rfl)
@[simp] theorem kbCh_bad {op : Cop} {op' : Cop} : kbCh op op' b c σ .bad = .bad := (rfl)
def keCh  (r : R Bool) : R D := r.bind fun k h => .ok (.bl k) h
@[simp] theorem keCh_eq : eCh op op' a b c σ h = keCh  (bCh op op' a b c σ h) := (rfl)
@[simp] theorem keCh_ok  {k : Bool} : keCh  (.ok k h) = .ok (.bl k) h := (rfl)
@[simp] theorem keCh_xn  : keCh  (.xn x h) = .xn x h := (rfl)
@[simp] theorem keCh_bad  : keCh  .bad = .bad := (rfl)
def kbAnd1 (k : Bool) (q : BM) (σ : Sg) (h : Hh) : R Bool := if k then q σ h else .ok false h
@[simp] theorem kbAnd1_t : kbAnd1 true q σ h = q σ h := (rfl)
@[simp] theorem kbAnd1_f : kbAnd1 false q σ h = .ok false h := (rfl)
def kbOr1 (k : Bool) (q : BM) (σ : Sg) (h : Hh) : R Bool := if k then .ok true h else q σ h
@[simp] theorem kbOr1_t : kbOr1 true q σ h = .ok true h := (rfl)
@[simp] theorem kbOr1_f : kbOr1 false q σ h = q σ h := (rfl)
def kbAnd (q : BM) (σ : Sg) (r : R Bool) : R Bool := r.bind fun k h => kbAnd1 k q σ h
@[simp] theorem kbAnd_eq : bAnd p q σ h = kbAnd q σ (p σ h) := (rfl)
@[simp] theorem kbAnd_ok  {k : Bool} : kbAnd q σ (.ok k h) = kbAnd1 k q σ h := (rfl)
@[simp] theorem kbAnd_xn  : kbAnd q σ (.xn x h) = .xn x h := (rfl)
@[simp] theorem kbAnd_bad  : kbAnd q σ .bad = .bad := (rfl)
def kbOr (q : BM) (σ : Sg) (r : R Bool) : R Bool := r.bind fun k h => kbOr1 k q σ h
@[simp] theorem kbOr_eq : bOr p q σ h = kbOr q σ (p σ h) := (rfl)
@[simp] theorem kbOr_ok  {k : Bool} : kbOr q σ (.ok k h) = kbOr1 k q σ h := (rfl)
@[simp] theorem kbOr_xn  : kbOr q σ (.xn x h) = .xn x h := (rfl)
@[simp] theorem kbOr_bad  : kbOr q σ .bad = .bad := (rfl)
def kbNot  (r : R Bool) : R Bool := r.bind fun k h => .ok (!k) h
@[simp] theorem kbNot_eq : bNot p σ h = kbNot  (p σ h) := (rfl)
@[simp] theorem kbNot_ok  {k : Bool} : kbNot  (.ok k h) = .ok (!k) h := (rfl)
@[simp] theorem kbNot_xn  : kbNot  (.xn x h) = .xn x h := (rfl)
@[simp] theorem kbNot_bad  : kbNot  .bad = .bad := (rfl)
def walk1 (o : Option (List D)) (h : Hh) : R (List D) := match o with
  | none => .bad
  | some xs => .ok xs h
@[simp] theorem walk1_ok {xs : List D} : walk1 (some xs) h = .ok xs h := (rfl)
def kIt (it : It) (r : R (List D)) : R (List D) := r.bind fun ds h => walk1 (walk it ds) h
theorem itM_eq {it : It} : itM it as σ h = kIt it (as σ h) := by
  unfold itM kIt walk1
  congr
@[simp] theorem itM_eq' {it : It} : itM it as σ h = kIt it (as σ h) := itM_eq
@[simp] theorem kIt_ok {it : It} : kIt it (.ok ds h) = walk1 (walk it ds) h := (rfl)
@[simp] theorem kIt_xn {it : It} : kIt it (.xn x h) = .xn x h := (rfl)
@[simp] theorem kIt_bad {it : It} : kIt it .bad = .bad := (rfl)
def kLcE (r : R (List D)) : R D := r.bind fun ys h => .ok (.lst ys) h
@[simp] theorem kLcE_ok : kLcE (.ok ds h) = .ok (.lst ds) h := (rfl)
def kLc (a : TM) (g : G) (p : BM) (ow : List Nat) (σ : Sg) (r : R (List D)) : R D := r.bind fun xs h => kLcE (noX (lcL (lcStep a g p ow σ) xs [] h))
@[simp] theorem kLc_eq : eLc a g it as p ow σ h = kLc a g p ow σ (itM it as σ h) := (rfl)
@[simp] theorem kLc_ok {g : G} {ow : List Nat} {xs : (List D)} : kLc a g p ow σ (.ok xs h) = kLcE (noX (lcL (lcStep a g p ow σ) xs [] h)) := (rfl)
@[simp] theorem kLc_xn {g : G} {ow : List Nat} : kLc a g p ow σ (.xn x h) = .xn x h := (rfl)
@[simp] theorem kLc_bad {g : G} {ow : List Nat} : kLc a g p ow σ .bad = .bad := (rfl)
def kSet (i : Nat) (σ : Sg) (r : R D) : SR := SR.of σ r fun d h => .nx (σ.set i (some d)) h
@[simp] theorem kSet_eq : sSet i a σ h = kSet i σ (a σ h) := (rfl)
@[simp] theorem kSet_ok {i : Nat} {d : D} : kSet i σ (.ok d h) = .nx (σ.set i (some d)) h := (rfl)
@[simp] theorem kSet_xn {i : Nat} : kSet i σ (.xn x h) = .xn x σ h := (rfl)
@[simp] theorem kSet_bad {i : Nat} : kSet i σ .bad = .bad := (rfl)
def asg1 (o : Option Sg) (h : Hh) : SR := match o with
  | some σ => .nx σ h
  | none => .bad
@[simp] theorem asg1_ok : asg1 (some σ) h = .nx σ h := (rfl)
def kAsg (g : G) (σ : Sg) (r : R D) : SR := SR.of σ r fun d h => asg1 (bindG σ g d) h
@[simp] theorem kAsg_eq : sAsg g a σ h = kAsg g σ (a σ h) := (rfl)
@[simp] theorem kAsg_ok {g : G} {d : D} : kAsg g σ (.ok d h) = asg1 (bindG σ g d) h := (rfl)
@[simp] theorem kAsg_xn {g : G} : kAsg g σ (.xn x h) = .xn x σ h := (rfl)
@[simp] theorem kAsg_bad {g : G} : kAsg g σ .bad = .bad := (rfl)
def seti1 (o : Option Hh) (σ : Sg) : SR := match o with
  | some h => .nx σ h
  | none => .bad
@[simp] theorem seti1_ok : seti1 (some h) σ = .nx σ h := (rfl)
def kSetI3 (v : D) (d : D) (σ : Sg) (r : R D) : SR := SR.of σ r fun e h => seti1 (setIx h d e v) σ
@[simp] theorem kSetI3_ok {v : D} {d : D} {e : D} : kSetI3 v d σ (.ok e h) = seti1 (setIx h d e v) σ := (rfl)
@[simp] theorem kSetI3_xn {v : D} {d : D} : kSetI3 v d σ (.xn x h) = .xn x σ h := (rfl)
@[simp] theorem kSetI3_bad {v : D} {d : D} : kSetI3 v d σ .bad = .bad := (rfl)
def kSetI2 (v : D) (b : TM) (σ : Sg) (r : R D) : SR := SR.of σ r fun d h => kSetI3 v d σ (b σ h)
@[simp] theorem kSetI2_ok {v : D} {d : D} : kSetI2 v b σ (.ok d h) = kSetI3 v d σ (b σ h) := (rfl)
@[simp] theorem kSetI2_xn {v : D} : kSetI2 v b σ (.xn x h) = .xn x σ h := (rfl)
@[simp] theorem kSetI2_bad {v : D} : kSetI2 v b σ .bad = .bad := (rfl)
def kSetI (a : TM) (b : TM) (σ : Sg) (r : R D) : SR := SR.of σ r fun v h => kSetI2 v b σ (a σ h)
@[simp] theorem kSetI_eq : sSetI a b c σ h = kSetI a b σ (c σ h) := (rfl)
@[simp] theorem kSetI_ok  {v : D} : kSetI a b σ (.ok v h) = kSetI2 v b σ (a σ h) := (rfl)
@[simp] theorem kSetI_xn  : kSetI a b σ (.xn x h) = .xn x σ h := (rfl)
@[simp] theorem kSetI_bad  : kSetI a b σ .bad = .bad := (rfl)
def kSetF2 (cls : Nat) (k : Nat) (v : D) (σ : Sg) (r : R D) : SR := SR.of σ r fun d h => seti1 (setFld h cls k d v) σ
@[simp] theorem kSetF2_ok {cls : Nat} {k : Nat} {v : D} {d : D} : kSetF2 cls k v σ (.ok d h) = seti1 (setFld h cls k d v) σ := (rfl)
@[simp] theorem kSetF2_xn {cls : Nat} {k : Nat} {v : D} : kSetF2 cls k v σ (.xn x h) = .xn x σ h := (rfl)
@[simp] theorem kSetF2_bad {cls : Nat} {k : Nat} {v : D} : kSetF2 cls k v σ .bad = .bad := (rfl)
def kSetF (cls : Nat) (a : TM) (k : Nat) (σ : Sg) (r : R D) : SR := SR.of σ r fun v h => kSetF2 cls k v σ (a σ h)
@[simp] theorem kSetF_eq : sSetF cls a k c σ h = kSetF cls a k σ (c σ h) := (rfl)
@[simp] theorem kSetF_ok {cls : Nat} {k : Nat} {v : D} : kSetF cls a k σ (.ok v h) = kSetF2 cls k v σ (a σ h) := (rfl)
@[simp] theorem kSetF_xn {cls : Nat} {k : Nat} : kSetF cls a k σ (.xn x h) = .xn x σ h := (rfl)
@[simp] theorem kSetF_bad {cls : Nat} {k : Nat} : kSetF cls a k σ .bad = .bad := (rfl)
def kEx (σ : Sg) (r : R D) : SR := SR.of σ r fun d h => .nx σ h
@[simp] theorem kEx_eq : sEx a σ h = kEx σ (a σ h) := (rfl)
@[simp] theorem kEx_ok  {d : D} : kEx σ (.ok d h) = .nx σ h := (rfl)
@[simp] theorem kEx_xn  : kEx σ (.xn x h) = .xn x σ h := (rfl)
@[simp] theorem kEx_bad  : kEx σ .bad = .bad := (rfl)
def kRet (σ : Sg) (r : R D) : SR := SR.of σ r fun d h => .rt d h
@[simp] theorem kRet_eq : sRet a σ h = kRet σ (a σ h) := (rfl)
@[simp] theorem kRet_ok  {d : D} : kRet σ (.ok d h) = .rt d h := (rfl)
@[simp] theorem kRet_xn  : kRet σ (.xn x h) = .xn x σ h := (rfl)
@[simp] theorem kRet_bad  : kRet σ .bad = .bad := (rfl)
def kIf1 (k : Bool) (s s' : SM) (σ : Sg) (h : Hh) : SR := if k then s σ h else s' σ h
@[simp] theorem kIf1_t : kIf1 true s s' σ h = s σ h := (rfl)
@[simp] theorem kIf1_f : kIf1 false s s' σ h = s' σ h := (rfl)
def kIf (s : SM) (s' : SM) (σ : Sg) (r : R Bool) : SR := SR.of σ r fun k h => kIf1 k s s' σ h
@[simp] theorem kIf_eq : sIf p s s' σ h = kIf s s' σ (p σ h) := (rfl)
@[simp] theorem kIf_ok  {k : Bool} : kIf s s' σ (.ok k h) = kIf1 k s s' σ h := (rfl)
@[simp] theorem kIf_xn  : kIf s s' σ (.xn x h) = .xn x σ h := (rfl)
@[simp] theorem kIf_bad  : kIf s s' σ .bad = .bad := (rfl)
def kFor (g : G) (s : SM) (σ : Sg) (r : R (List D)) : SR := SR.of σ r fun xs h => forL (forB g s) xs σ h
@[simp] theorem kFor_eq : sFor g it as s σ h = kFor g s σ (itM it as σ h) := (rfl)
@[simp] theorem kFor_ok {g : G} {xs : (List D)} : kFor g s σ (.ok xs h) = forL (forB g s) xs σ h := (rfl)
@[simp] theorem kFor_xn {g : G} : kFor g s σ (.xn x h) = .xn x σ h := (rfl)
@[simp] theorem kFor_bad {g : G} : kFor g s σ .bad = .bad := (rfl)
@[simp] theorem forL_nil {body : D → Sg → Hh → SR} : forL body [] σ h = .nx σ h := (rfl)
def forK (body : D → Sg → Hh → SR) (xs : List D) (r : SR) : SR := match r with
  | .nx σ h => forL body xs σ h
  | .ct σ h => forL body xs σ h
  | .bk σ h => .nx σ h
  | r => r
@[simp] theorem forK_nx {body : D → Sg → Hh → SR} {xs : List D} : forK body xs (.nx σ h) = forL body xs σ h := (rfl)
@[simp] theorem forK_ct {body : D → Sg → Hh → SR} {xs : List D} : forK body xs (.ct σ h) = forL body xs σ h := (rfl)
@[simp] theorem forK_bk {body : D → Sg → Hh → SR} {xs : List D} : forK body xs (.bk σ h) = .nx σ h := (rfl)
@[simp] theorem forK_rt {body : D → Sg → Hh → SR} {xs : List D} : forK body xs (.rt d h) = .rt d h := (rfl)
@[simp] theorem forK_xn {body : D → Sg → Hh → SR} {xs : List D} : forK body xs (.xn x σ h) = .xn x σ h := (rfl)
theorem forL_cons {body : D → Sg → Hh → SR} {y : D} {xs : List D} : forL body (y :: xs) σ h = forK body xs (body y σ h) := by
  simp only [forL, forK] <;> (split <;> simp_all)
def forB1 (o : Option Sg) (s : SM) (h : Hh) : SR := match o with
  | none => .bad
  | some σ => s σ h
@[simp] theorem forB1_ok : forB1 (some σ) s h = s σ h := (rfl)
@[simp] theorem forB_eq {g : G} : forB g s d σ h = forB1 (bindG σ g d) s h := by
  unfold forB forB1
  cases bindG σ g d <;> rfl
@[simp] theorem bindG_nm {i : Nat} : bindG σ (.nm i) d = some (σ.set i (some d)) := (rfl)
@[simp] theorem bindG_tp {gs : List G} : bindG σ (.tp gs) (.tup ds) = bindGs σ gs ds := (rfl)
@[simp] theorem bindG_tl {gs : List G} : bindG σ (.tp gs) (.lst ds) = bindGs σ gs ds := (rfl)
@[simp] theorem bindGs_nil : bindGs σ [] [] = some σ := (rfl)
@[simp] theorem bindGs_cons {i : Nat} {gs : List G} : bindGs σ (.nm i :: gs) (d :: ds) = bindGs (σ.set i (some d)) gs ds := by simp [bindGs]
def lcStep1 (o : Option Sg) (a : TM) (p : BM) (h : Hh) : R (Option D) := match o with
  | none => .bad
  | some σ => (p σ h).bind fun t h => if t then (a σ h).bind fun d h => .ok (some d) h else .ok none h
def lcS2 (r : R D) : R (Option D) := r.bind fun d h => .ok (some d) h
@[simp] theorem lcS2_ok : lcS2 (.ok d h) = .ok (some d) h := (rfl)
@[simp] theorem lcS2_xn : lcS2 (.xn x h) = .xn x h := (rfl)
def lcS1 (k : Bool) (a : TM) (σ : Sg) (h : Hh) : R (Option D) := if k then lcS2 (a σ h) else .ok none h
@[simp] theorem lcS1_t : lcS1 true a σ h = lcS2 (a σ h) := (rfl)
@[simp] theorem lcS1_f : lcS1 false a σ h = .ok none h := (rfl)
def lcS0 (r : R Bool) (a : TM) (σ : Sg) : R (Option D) := r.bind fun k h => lcS1 k a σ h
@[simp] theorem lcS0_ok {k : Bool} : lcS0 (.ok k h) a σ = lcS1 k a σ h := (rfl)
@[simp] theorem lcStep1_ok : lcStep1 (some σ) a p h = lcS0 (p σ h) a σ := (rfl)
@[simp] theorem lcStep_eq {g : G} {own : List Nat} : lcStep a g p own σ d h = lcStep1 (bindG (wipe σ own) g d) a p h := by
  unfold lcStep lcStep1
  cases bindG (wipe σ own) g d <;> rfl
@[simp] theorem wipe_nil : wipe σ [] = σ := (rfl)
@[simp] theorem wipe_cons {v : Nat} {vs : List Nat} : wipe σ (v :: vs) = (wipe σ vs).set v none := (rfl)
def lcK (step : D → Hh → R (Option D)) (xs acc : List D) (r : R (Option D)) : R (List D) := r.bind fun o h => match o with
  | none => lcL step xs acc h
  | some d => if acc.length < line then lcL step xs (acc ++ [d]) h else .bad
@[simp] theorem lcK_none {step : D → Hh → R (Option D)} {xs acc : List D} : lcK step xs acc (.ok none h) = lcL step xs acc h := (rfl)
@[simp] theorem lcK_some {step : D → Hh → R (Option D)} {xs acc : List D} : lcK step xs acc (.ok (some d) h) = if acc.length < line then lcL step xs (acc ++ [d]) h else .bad := (rfl)
@[simp] theorem lcL_nil {step : D → Hh → R (Option D)} {acc : List D} : lcL step [] acc h = .ok acc h := (rfl)
theorem lcL_cons {step : D → Hh → R (Option D)} {y : D} {xs acc : List D} : lcL step (y :: xs) acc h = lcK step xs acc (step y h) := (rfl)
def whK (t : BM) (s : SM) (n : Nat) (r : SR) : SR := match r with
  | .nx σ h => whL t s n σ h
  | .ct σ h => whL t s n σ h
  | .bk σ h => .nx σ h
  | r => r
@[simp] theorem whK_nx {n : Nat} : whK p s n (.nx σ h) = whL p s n σ h := (rfl)
@[simp] theorem whK_ct {n : Nat} : whK p s n (.ct σ h) = whL p s n σ h := (rfl)
@[simp] theorem whK_bk {n : Nat} : whK p s n (.bk σ h) = .nx σ h := (rfl)
@[simp] theorem whK_rt {n : Nat} : whK p s n (.rt d h) = .rt d h := (rfl)
@[simp] theorem whK_xn {n : Nat} : whK p s n (.xn x σ h) = .xn x σ h := (rfl)
def whI1 (k : Bool) (p : BM) (s : SM) (n : Nat) (σ : Sg) (h : Hh) : SR := if k then whK p s n (s σ h) else .nx σ h
@[simp] theorem whI1_t {n : Nat} : whI1 true p s n σ h = whK p s n (s σ h) := (rfl)
@[simp] theorem whI1_f {n : Nat} : whI1 false p s n σ h = .nx σ h := (rfl)
def whI (r : R Bool) (p : BM) (s : SM) (n : Nat) (σ : Sg) : SR := SR.of σ r fun k h => whI1 k p s n σ h
@[simp] theorem whI_ok {n : Nat} {k : Bool} : whI (.ok k h) p s n σ = whI1 k p s n σ h := (rfl)
@[simp] theorem whI_xn {n : Nat} : whI (.xn x h) p s n σ = .xn x σ h := (rfl)
theorem whL_succ {n : Nat} : whL p s (n + 1) σ h = whI (p σ h) p s n σ := by
  simp only [whL, whI]
  congr
theorem sWh_eq {n : Nat} : sWh n p s σ h = whL p s n σ h := (rfl)
@[simp] theorem line_eq : line = 16777216 := by decide
@[simp] theorem lim_eq : lim = 4611686018427387904 := by decide
@[simp] theorem big_eq : big = 18446744073709551616 := by decide
@[simp] theorem sget_z {o : Option D} : sget (o :: σ) 0 = o := by cases o <;> rfl
@[simp] theorem sget_s {o : Option D} {i : Nat} : sget (o :: σ) (i + 1) = sget σ i := (rfl)
@[simp] theorem tru_non : tru h .non = some false := (rfl)
@[simp] theorem tru_bl {k : Bool} : tru h (.bl k) = some k := (rfl)
@[simp] theorem tru_int {i : Int} : tru h (.int i) = some (i != 0) := (rfl)
@[simp] theorem tru_tup : tru h (.tup ds) = some (!ds.isEmpty) := (rfl)
@[simp] theorem tru_lst : tru h (.lst ds) = some (!ds.isEmpty) := (rfl)
@[simp] theorem asObj_obj {c : Nat} {fs : List (Nat × D)} : asObj h (.obj c fs) = some (c, fs) := (rfl)
@[simp] theorem asObj_ref {n c : Nat} {fs : List (Nat × D)} (e : h[n]? = some (.ins c fs)) : asObj h (.ref n) = some (c, fs) := by simp [asObj, e]
@[simp] theorem asSeq_tup : asSeq h (.tup ds) = some ds := (rfl)
@[simp] theorem asSeq_lst : asSeq h (.lst ds) = some ds := (rfl)
@[simp] theorem asSeq_roi {is : List Int} : asSeq h (.roi is) = some (is.map .int) := (rfl)
@[simp] theorem asSeq_ref {n : Nat} (e : h[n]? = some (.lst ds)) : asSeq h (.ref n) = some ds := by simp [asSeq, e]
@[simp] theorem asLst_lst : asLst h (.lst ds) = some ds := (rfl)
@[simp] theorem asLst_ref {n : Nat} (e : h[n]? = some (.lst ds)) : asLst h (.ref n) = some ds := by simp [asLst, e]
@[simp] theorem asDct_dct {kvs : List (K1 × D)} : asDct h (.dct kvs) = some kvs := (rfl)
@[simp] theorem asDct_ref {n : Nat} {kvs : List (K1 × D)} (e : h[n]? = some (.dct kvs)) : asDct h (.ref n) = some kvs := by simp [asDct, e]
@[simp] theorem asDct_tup : asDct h (.tup ds) = none := (rfl)
@[simp] theorem asDct_lst : asDct h (.lst ds) = none := (rfl)
@[simp] theorem asDct_str {s : Tx} : asDct h (.str s) = none := (rfl)
@[simp] theorem asDct_refl {n : Nat} (e : h[n]? = some (.lst ds)) : asDct h (.ref n) = none := by simp [asDct, e]
@[simp] theorem bin_add {i j : Int} : binop h .add (.int i) (.int j) = some (.int (i + j)) := (rfl)
@[simp] theorem bin_sub {i j : Int} : binop h .sub (.int i) (.int j) = some (.int (i - j)) := (rfl)
@[simp] theorem bin_mul {i j : Int} : binop h .mul (.int i) (.int j) = if (-big < i ∧ i < big) ∨ (-big < j ∧ j < big) then some (.int (i * j)) else none := (rfl)
@[simp] theorem bin_fdiv {i j : Int} : binop h .fdiv (.int i) (.int j) = if 0 < j ∧ j < 1073741824 then some (.int (i / j)) else none := (rfl)
@[simp] theorem bin_mod {i j : Int} : binop h .mod (.int i) (.int j) = if 0 < j then some (.int (i % j)) else none := (rfl)
@[simp] theorem bin_pow {i j : Int} : binop h .pow (.int i) (.int j) = if 0 ≤ j ∧ j ≤ 1000000 ∧ i.natAbs < 18446744073709551616 then some (.int (i ^ j.toNat)) else none := (rfl)
theorem p6 : (10 : Int) ^ (6 : Int).toNat = 1000000 := by decide
theorem p18 : (10 : Int) ^ (18 : Int).toNat = 1000000000000000000 := by decide
theorem p30 : (10 : Int) ^ (30 : Int).toNat = 1000000000000000000000000000000 := by decide
@[simp high] theorem bin_pow6 : binop h .pow (.int 10) (.int 6) = some (.int 1000000) := by rw [bin_pow, if_pos (by decide), p6]
@[simp high] theorem bin_pow18 : binop h .pow (.int 10) (.int 18) = some (.int 1000000000000000000) := by rw [bin_pow, if_pos (by decide), p18]
@[simp high] theorem bin_pow30 : binop h .pow (.int 10) (.int 30) = some (.int 1000000000000000000000000000000) := by rw [bin_pow, if_pos (by decide), p30]
@[simp] theorem bin_adds {u v : Tx} : binop h .add (.str u) (.str v) = if u.length + v.length ≤ line then some (.str (u ++ v)) else none := (rfl)
@[simp] theorem bin_addt : binop h .add (.tup ds) (.tup es) = if ds.length + es.length ≤ line then some (.tup (ds ++ es)) else none := (rfl)
@[simp] theorem bin_addl : binop h .add (.lst ds) (.lst es) = if ds.length + es.length ≤ line then some (.lst (ds ++ es)) else none := by simp [binop]
@[simp] theorem cmp_eq : cmpop h .eq d e = eqD h d e := by cases d <;> cases e <;> rfl
@[simp] theorem cmp_ne : cmpop h .ne d e = (eqD h d e).map (!·) := by cases d <;> cases e <;> rfl
@[simp] theorem cmp_lt {i j : Int} : cmpop h .lt (.int i) (.int j) = some (decide (i < j)) := (rfl)
@[simp] theorem cmp_le {i j : Int} : cmpop h .le (.int i) (.int j) = some (decide (i ≤ j)) := (rfl)
@[simp] theorem cmp_gt {i j : Int} : cmpop h .gt (.int i) (.int j) = some (decide (j < i)) := (rfl)
@[simp] theorem cmp_ge {i j : Int} : cmpop h .ge (.int i) (.int j) = some (decide (j ≤ i)) := (rfl)
@[simp] theorem cmp_lts {u v : Tx} : cmpop h .lt (.str u) (.str v) = some (decide (u < v)) := (rfl)
@[simp] theorem cmp_les {u v : Tx} : cmpop h .le (.str u) (.str v) = some (!decide (v < u)) := (rfl)
@[simp] theorem cmp_isN : cmpop h .is_ d .non = some d.isNon := by cases d <;> rfl
@[simp] theorem cmp_isntN : cmpop h .isnt d .non = some (!d.isNon) := by cases d <;> rfl
@[simp] theorem isNon_non : D.non.isNon = true := (rfl)
@[simp] theorem isNon_tup : (D.tup ds).isNon = false := (rfl)
@[simp] theorem isNon_int {i : Int} : (D.int i).isNon = false := (rfl)
@[simp] theorem isNon_str {s : Tx} : (D.str s).isNon = false := (rfl)
@[simp] theorem isNon_bl {k : Bool} : (D.bl k).isNon = false := (rfl)
@[simp] theorem isNon_lst : (D.lst ds).isNon = false := (rfl)
@[simp] theorem cmp_inl : cmpop h .in_ d (.lst ds) = isMem h d (.lst ds) := by
  cases d with
  | str s => rcases s with _ | ⟨a, _ | ⟨b, s⟩⟩ <;> rfl
  | _ => rfl
@[simp] theorem cmp_int : cmpop h .in_ d (.tup ds) = isMem h d (.tup ds) := by
  cases d with
  | str s => rcases s with _ | ⟨a, _ | ⟨b, s⟩⟩ <;> rfl
  | _ => rfl
@[simp] theorem cmp_inr {n : Nat} : cmpop h .in_ d (.ref n) = isMem h d (.ref n) := by
  cases d with
  | str s => rcases s with _ | ⟨a, _ | ⟨b, s⟩⟩ <;> rfl
  | _ => rfl
@[simp] theorem cmp_inc {c : Nat} {v : Tx} : cmpop h .in_ (.str [c]) (.str v) = some (decide (c ∈ v)) := (rfl)
@[simp] theorem cmp_ninc {c : Nat} {v : Tx} : cmpop h .notin (.str [c]) (.str v) = some (!decide (c ∈ v)) := (rfl)
@[simp] theorem eqv_str' {u v : Tx} : (D.str u).eqv (.str v) = (u == v) := by rw [D.eqv]
@[simp] theorem eqv_int' {i j : Int} : (D.int i).eqv (.int j) = (i == j) := by rw [D.eqv]
@[simp] theorem eqv_bl' {i j : Bool} : (D.bl i).eqv (.bl j) = (i == j) := by rw [D.eqv]
@[simp] theorem eqv_non' : D.non.eqv .non = true := by rw [D.eqv]
@[simp] theorem eqv_tup' : (D.tup ds).eqv (.tup es) = eqvAll ds es := by rw [D.eqv]
@[simp] theorem eqv_lst' : (D.lst ds).eqv (.lst es) = eqvAll ds es := by rw [D.eqv]
@[simp] theorem cmp_ninl : cmpop h .notin d (.lst ds) = (isMem h d (.lst ds)).map (!·) := by
  cases d with
  | str s => rcases s with _ | ⟨a, _ | ⟨b, s⟩⟩ <;> rfl
  | _ => rfl
@[simp] theorem cmp_nint : cmpop h .notin d (.tup ds) = (isMem h d (.tup ds)).map (!·) := by
  cases d with
  | str s => rcases s with _ | ⟨a, _ | ⟨b, s⟩⟩ <;> rfl
  | _ => rfl
@[simp] theorem intV_bl {k : Bool} : intV h (.bl k) = some (.int (if k then 1 else 0)) := (rfl)
@[simp] theorem intV_int {i : Int} : intV h (.int i) = some (.int i) := (rfl)
@[simp] theorem strV_str {u : Tx} : strV h (.str u) = some (.str u) := (rfl)
@[simp] theorem eqD_tnil : eqD h (.tup ds) (.tup []) = some ds.isEmpty := by cases ds <;> simp [eqD, scalPair, scalar, seen, emptyPair, D.eqv, eqvAll]
@[simp] theorem eqD_lnil : eqD h (.lst ds) (.lst []) = some ds.isEmpty := by cases ds <;> simp [eqD, scalPair, scalar, seen, emptyPair, D.eqv, eqvAll]
@[simp] theorem eqD_rnil {n : Nat} (e : h[n]? = some (.lst ds)) : eqD h (.ref n) (.lst []) = some ds.isEmpty := by cases ds <;> simp [eqD, scalPair, scalar, seen, emptyPair, D.eqv, eqvAll, e]
@[simp] theorem tupleD_ref {n : Nat} (e : h[n]? = some (.lst ds)) : tupleD h (.ref n) = some (.tup ds) := by simp [tupleD, asLst, e]
@[simp] theorem eqD_int {i j : Int} : eqD h (.int i) (.int j) = some (decide (i = j)) := by simp [eqD, scalPair, scalar]; rfl
@[simp] theorem eqD_str {u v : Tx} : eqD h (.str u) (.str v) = some (decide (u = v)) := by simp [eqD, scalPair, scalar]; rw [Bool.eq_iff_iff]; simp
@[simp] theorem eqD_bl {i j : Bool} : eqD h (.bl i) (.bl j) = some (decide (i = j)) := by cases i <;> cases j <;> rfl
@[simp] theorem eqD_ni {i : Int} : eqD h .non (.int i) = some false := by simp [eqD, scalPair, scalar, D.eqv]
@[simp] theorem eqD_in {i : Int} : eqD h (.int i) .non = some false := by simp [eqD, scalPair, scalar, D.eqv]
@[simp] theorem index_tup {i : Int} : index h (.tup ds) (.int i) = (ixn ds.length i).bind fun j => ds[j]? := (rfl)
@[simp] theorem index_lst {i : Int} : index h (.lst ds) (.int i) = (ixn ds.length i).bind fun j => ds[j]? := (rfl)
theorem index_str {s : Tx} {i : Int} : index h (.str s) (.int i) = if s.length ≤ line then ((ixn s.length i).bind fun j => s[j]?).map fun c => .str [c] else none := (rfl)
@[simp] theorem index_roi {is : List Int} {i : Int} : index h (.roi is) (.int i) = (ixn is.length i).bind fun j => (is.map D.int)[j]? := by simp [index]
@[simp] theorem index_ref {n : Nat} {i : Int} (e : h[n]? = some (.lst ds)) : index h (.ref n) (.int i) = (ixn ds.length i).bind fun j => ds[j]? := by simp [index, asSeq, e]
@[simp] theorem walk_s {s : Tx} : walk .e [.str s] = some (s.map fun c => .str [c]) := (rfl)
@[simp] theorem walk_l : walk .e [.lst ds] = some ds := (rfl)
@[simp] theorem walk_t : walk .e [.tup ds] = some ds := (rfl)
@[simp] theorem walk_r {i : Int} : walk .range [.int i] = if -lim ≤ i ∧ i < lim then some (rangeD 0 i.toNat) else none := (rfl)
@[simp] theorem walk_r2 {i j : Int} : walk .range [.int i, .int j] = if -lim ≤ i ∧ i < lim ∧ -lim ≤ j ∧ j < lim then some (rangeD i (j - i).toNat) else none := (rfl)
@[simp] theorem walk_en : walk .enum [.lst ds] = some (enumD ds) := (rfl)
@[simp] theorem walk_zl : walk .zip [.lst ds, .lst es] = some (zipD ds es) := (rfl)
@[simp] theorem walk_zt : walk .zip [.tup ds, .tup es] = some (zipD ds es) := (rfl)
@[simp] theorem len_tup : lenD h (.tup ds) = some (.int ds.length) := (rfl)
@[simp] theorem len_lst : lenD h (.lst ds) = some (.int ds.length) := (rfl)
@[simp] theorem len_roi {is : List Int} : lenD h (.roi is) = some (.int is.length) := by simp [lenD]
@[simp] theorem len_ref {n : Nat} (e : h[n]? = some (.lst ds)) : lenD h (.ref n) = some (.int ds.length) := by simp [lenD, asSeq, e]
@[simp] theorem len_refd {n : Nat} {kvs : List (K1 × D)} (e : h[n]? = some (.dct kvs)) : lenD h (.ref n) = some (.int kvs.length) := by simp [lenD, asSeq, asDct, e]
@[simp] theorem setIx_lst {xs : List D} {n : Nat} {i : Int} (e : h[n]? = some (.lst xs)) : setIx h (.ref n) (.int i) d = (ixn xs.length i).map fun j => h.set n (.lst (xs.set j d)) := by simp [setIx, e]
@[simp] theorem setIx_dcts {kvs : List (K1 × D)} {n : Nat} {u : Tx} (e : h[n]? = some (.dct kvs)) : setIx h (.ref n) (.str u) d = if kvs.length < line then some (h.set n (.dct (put (.inr u) d kvs))) else none := by simp [setIx, e, key1]
@[simp] theorem setIx_dcti {kvs : List (K1 × D)} {n : Nat} {i : Int} (e : h[n]? = some (.dct kvs)) : setIx h (.ref n) (.int i) d = if kvs.length < line then some (h.set n (.dct (put (.inl i) d kvs))) else none := by simp [setIx, e, key1]
@[simp] theorem index_refds {kvs : List (K1 × D)} {n : Nat} {u : Tx} (e : h[n]? = some (.dct kvs)) : index h (.ref n) (.str u) = look (.inr u) kvs := by simp [index, asDct, e]
@[simp] theorem index_refdi {kvs : List (K1 × D)} {n : Nat} {i : Int} (e : h[n]? = some (.dct kvs)) : index h (.ref n) (.int i) = look (.inl i) kvs := by simp [index, asSeq, asDct, e]
@[simp] theorem tupleD_lst : tupleD h (.lst ds) = some (.tup ds) := (rfl)
@[simp] theorem tupleD_tup : tupleD h (.tup ds) = some (.tup ds) := (rfl)
@[simp] theorem listD_tup : listD h (.tup ds) = some (.lst ds) := (rfl)
@[simp] theorem listD_lst : listD h (.lst ds) = some (.lst ds) := (rfl)
@[simp] theorem intD_bl {k : Bool} : intD h (.bl k) = some (.int (if k then 1 else 0)) := (rfl)
@[simp] theorem intD_int {i : Int} : intD h (.int i) = some (.int i) := (rfl)
@[simp] theorem min_int {i j : Int} : minD h (.int i) (.int j) = some (.int (if j < i then j else i)) := (rfl)
@[simp] theorem max_int {i j : Int} : maxD h (.int i) (.int j) = some (.int (if j > i then j else i)) := (rfl)
@[simp] theorem app_ref {xs : List D} {n : Nat} (e : h[n]? = some (.lst xs)) : appD h (.ref n) d = if xs.length < line then some (.non, some (n, .lst (xs ++ [d]))) else none := by simp [appD, e]
@[simp] theorem isLst_ref {xs : List D} {n : Nat} (e : h[n]? = some (.lst xs)) : isLst h (.ref n) = true := by simp [isLst, asLst, e]
end Pl
end
section
namespace Pl
open Fw
mutual
theorem map_closed (g : Nat → Option D) : ∀ {d : D}, d.closed = true → d.map_ g = some d
  | .non, _ => rfl
  | .bl _, _ => rfl
  | .int _, _ => rfl
  | .str _, _ => rfl
  | .fn _, _ => rfl
  | .roi _, _ => rfl
  | .ref _, h => by simp [D.closed] at h
  | .tup xs, h => by
    simp only [D.closed] at h
    simp [D.map_, mapAll_closed g h]
  | .lst xs, h => by
    simp only [D.closed] at h
    simp [D.map_, mapAll_closed g h]
  | .dct xs, h => by
    simp only [D.closed] at h
    simp [D.map_, mapK_closed g h]
  | .obj c xs, h => by
    simp only [D.closed] at h
    simp [D.map_, mapF_closed g h]
theorem mapAll_closed (g : Nat → Option D) : ∀ {ds : List D}, closedAll ds = true → mapAll g ds = some ds
  | [], _ => rfl
  | x :: xs, h => by
    simp only [closedAll, Bool.and_eq_true] at h
    simp [mapAll, map_closed g h.1, mapAll_closed g h.2]
theorem mapK_closed (g : Nat → Option D) : ∀ {ds : List (K1 × D)}, closedK ds = true → mapK g ds = some ds
  | [], _ => rfl
  | x :: xs, h => by
    simp only [closedK, Bool.and_eq_true] at h
    simp [mapK, map_closed g h.1, mapK_closed g h.2]
theorem mapF_closed (g : Nat → Option D) : ∀ {ds : List (Nat × D)}, closedF ds = true → mapF g ds = some ds
  | [], _ => rfl
  | x :: xs, h => by
    simp only [closedF, Bool.and_eq_true] at h
    simp [mapF, map_closed g h.1, mapF_closed g h.2]
end
theorem lend_closed : ∀ {ds : List D} {k : Nat}, closedAll ds = true → lend k ds = some (ds, [])
  | [], _, _ => rfl
  | d :: ds, k, h => by
    simp only [closedAll, Bool.and_eq_true] at h
    have ih := lend_closed (k := k) h.2
    cases d <;> simp_all [lend, D.closed]
theorem lent_closed {ds : List D} {h : Hh} (c : closedAll ds = true) : lent ds h = some (ds, [], []) := by
  simp [lent, lend_closed c, lentO]
theorem tell_closed {h : Hh} {ns : List Nat} {d : D} (c : d.closed = true) : tell h ns d = some d := by
  cases d <;> first | (simp [D.closed] at c; done) | exact map_closed _ c
theorem own_closed {np N : Nat} {b : SM} {ds : List D} {h : Hh} (c : closedAll ds = true) (hl : ds.length = np) : own np N b ds h = back [] h (b (startD N ds) []) := by
  simp [own, hl, lent_closed c]
theorem back_rt {h hc : Hh} {d : D} (c : d.closed = true) : back [] h (.rt d hc) = .ok d h := by
  simp [back, tell_closed c, giveBack]
theorem back_nx {h hc : Hh} {σ : Sg} : back [] h (.nx σ hc) = .ok .non h := by
  simp [back, giveBack]
theorem lent_one {ds : List D} {h : Hh} {r : Nat} {o : O} (c : closedAll ds = true) (ho : h[r]? = some o) (co : o.closed = true) : lent (.ref r :: ds) h = some (.ref 0 :: ds, [r], [o]) := by
  simp [lent, lend, lend_closed c, lentO, ho, co]
theorem own_one {np N : Nat} {b : SM} {ds : List D} {h : Hh} {r : Nat} {o : O} (c : closedAll ds = true) (ho : h[r]? = some o) (co : o.closed = true) (hl : ds.length + 1 = np) :
    own np N b (.ref r :: ds) h = back [r] h (b (startD N (.ref 0 :: ds)) [o]) := by
  simp [own, hl, lent_one c ho co]
theorem frzO_closed {hc : Hh} {k : Nat} {o : O} (c : o.closed = true) : frzO hc k o = some o := by
  cases o <;> simp only [O.closed] at c
  · simp [frzO, mapAll_closed _ c]
  · simp [frzO, mapAll_closed _ c]
  · simp [frzO, mapK_closed _ c]
  · simp [frzO, mapF_closed _ c]
  all_goals (first | contradiction | cases c)
theorem back_rt1 {h hc : Hh} {d : D} {r : Nat} {o : O} (c : d.closed = true) (ho : hc[0]? = some o) (co : o.closed = true) : back [r] h (.rt d hc) = .ok d (h.set r o) := by
  simp [back, tell_closed c, giveBack, ho, frzO_closed co]
@[simp] theorem back_cl {h hc : Hh} {d : D} (c : d.closed = true) : back [] h (.rt d hc) = .ok d h := back_rt c
@[simp] theorem back_cl0 {h hc : Hh} {σ : Sg} : back [] h (.nx σ hc) = .ok .non h := back_nx
@[simp] theorem back_cl1 {h hc : Hh} {d : D} {r : Nat} {o : O} (c : d.closed = true) (co : o.closed = true) : back [r] h (.rt d (o :: hc)) = .ok d (h.set r o) := back_rt1 c rfl co
@[simp] theorem back_cl1n {h hc : Hh} {r : Nat} {o : O} {σ : Sg} (co : o.closed = true) : back [r] h (.nx σ (o :: hc)) = .ok .non (h.set r o) := by
  simp [back, giveBack, frzO_closed co]
@[simp] theorem cl_int {i : Int} : (D.int i).closed = true := by simp [D.closed]
@[simp] theorem cl_bl {i : Bool} : (D.bl i).closed = true := by simp [D.closed]
@[simp] theorem cl_str {i : Tx} : (D.str i).closed = true := by simp [D.closed]
@[simp] theorem cl_non : D.non.closed = true := by simp [D.closed]
@[simp] theorem cl_roi {i : List Int} : (D.roi i).closed = true := by simp [D.closed]
@[simp] theorem cl_tup {ds : List D} : (D.tup ds).closed = closedAll ds := by rw [D.closed]
@[simp] theorem cl_lst {ds : List D} : (D.lst ds).closed = closedAll ds := by rw [D.closed]
@[simp] theorem cl_dct {ds : List (K1 × D)} : (D.dct ds).closed = closedK ds := by rw [D.closed]
@[simp] theorem cl_nil : closedAll [] = true := by simp [closedAll]
@[simp] theorem cl_cons {d : D} {ds : List D} : closedAll (d :: ds) = (d.closed && closedAll ds) := by rw [closedAll]
@[simp] theorem cl_knil : closedK [] = true := by simp [closedK]
@[simp] theorem cl_kcons {d : K1 × D} {ds : List (K1 × D)} : closedK (d :: ds) = (d.2.closed && closedK ds) := by rw [closedK]
@[simp] theorem clo_lst {ds : List D} : (O.lst ds).closed = closedAll ds := by simp [O.closed]
@[simp] theorem clo_ro {ds : List D} : (O.ro ds).closed = closedAll ds := by simp [O.closed]
@[simp] theorem clo_dct {ds : List (K1 × D)} : (O.dct ds).closed = closedK ds := by simp [O.closed]
@[simp] theorem clo_ins {c : Nat} {ds : List (Nat × D)} : (O.ins c ds).closed = closedF ds := by simp [O.closed]
@[simp] theorem cl_app {ds es : List D} : closedAll (ds ++ es) = (closedAll ds && closedAll es) := by
  induction ds with
  | nil => simp
  | cons d ds ih => simp [ih, Bool.and_assoc]
theorem cl_all {ds : List D} : closedAll ds = true ↔ ∀ d ∈ ds, d.closed = true := by
  induction ds with
  | nil => simp
  | cons d ds ih => simp [ih]
end Pl
end
section
namespace Lw
open Fw Pl
def RoomOk (o : O) : Prop := ∃ a b : Int, o = .lst [.int a, .int b] ∧ 0 ≤ b ∧ b < 2147483647
theorem RoomOk.closed {o : O} (h : RoomOk o) : o.closed = true := by
  obtain ⟨a, b, rfl, _⟩ := h
  rfl
theorem emod_lt (a : Int) {m : Int} (h : 0 < m) : a % m < m := Int.emod_lt_of_pos a h
theorem emod_ge (a : Int) {m : Int} (h : 0 < m) : 0 ≤ a % m := Int.emod_nonneg a (by omega)
theorem r_take (F n : Nat) {h : Hh} {r : Nat} {o : O} {m : Int} (hr : h[r]? = some o) (ho : RoomOk o) (h0 : 0 < m) (h1 : m < 1073741824) :
    ∃ x o', RoomOk o' ∧ 0 ≤ x ∧ x < m ∧ run F (n + 1) ix__law_take [.ref r, .int m] h = .ok (.int x) (h.set r o') := by
  rw [run__law_take, own_one (np := 2) (by simp [closedAll, D.closed]) hr ho.closed rfl]
  obtain ⟨a, b, rfl, hb, hb'⟩ := ho
  simp [b__law_take, startD, ixn]
  by_cases ha : 0 < a
  · simp [ha, h0, h1, ixn]
    exact ⟨_, _, ⟨_, _, rfl, hb, hb'⟩, emod_ge _ h0, emod_lt _ h0, rfl, rfl⟩
  · simp [ha]
    have q : ∀ b : Int, -18446744073709551616 < (b * 48271 + 39373) % 2147483647 ∧ (b * 48271 + 39373) % 2147483647 < 18446744073709551616 := by intro b; omega
    have q1 : ∀ b : Int, 0 ≤ (b * 48271 + 39373) % 2147483647 ∧ (b * 48271 + 39373) % 2147483647 < 2147483647 := by intro b; omega
    by_cases hm : 1000000 < m
    · simp [hm, h0, h1, q, ixn]
      exact ⟨_, _, ⟨_, _, rfl, (q1 _).1, (q1 _).2⟩, emod_ge _ h0, emod_lt _ h0, rfl, rfl⟩
    · simp [hm, h0, h1, q, ixn]
      exact ⟨_, _, ⟨_, _, rfl, (q1 _).1, (q1 _).2⟩, emod_ge _ h0, emod_lt _ h0, rfl, rfl⟩
end Lw
end
section
namespace Lw
open Fw Pl
theorem x_room (F n : Nat) (ns : List Int) (k : Nat) (h : Hh) (hk : k ≤ 63) : ∃ o, RoomOk o ∧ run F (n + 1) ix__law_room [.roi ns, .int k] h = .ok (.ref h.length) (h ++ [o]) := by
  rw [run__law_room]
  have q1 : ∀ b : Int, 0 ≤ b % 2147483647 ∧ b % 2147483647 < 2147483647 := by intro b; omega
  have hk1 : (-18446744073709551616 : Int) < 104729 * k ∧ (104729 * k : Int) < 18446744073709551616 := by omega
  have hk2 : (-18446744073709551616 : Int) < k ∧ (k : Int) < 18446744073709551616 := by omega
  simp [full, b__law_room, startD]
  by_cases c : k < ns.length
  · have hi : (ns.map D.int)[k]? = some (.int ns[k]) := by simp [List.getElem?_eq_getElem c]
    by_cases c2 : 1000000000000000000 ≤ ns[k]
    · simp [c, ixn, c2, SR.out, hk1, hk2]
      exact ⟨_, _, rfl, (q1 _).1, (q1 _).2⟩
    · simp [c, ixn, c2, SR.out, hk1, hk2]
      exact ⟨_, _, rfl, (q1 _).1, (q1 _).2⟩
  · simp [c, SR.out, hk1, hk2]
    exact ⟨_, _, rfl, (q1 _).1, (q1 _).2⟩
end Lw
end
section
namespace Pl
open Fw
theorem lc_map {f : D → D} {step : D → Hh → R (Option D)} {h : Hh} : ∀ {xs acc : List D}, (∀ x ∈ xs, step x h = .ok (some (f x)) h) → acc.length + xs.length ≤ line → lcL step xs acc h = .ok (acc ++ xs.map f) h := by
  intro xs
  induction xs with
  | nil => intro acc _ _; simp
  | cons x xs ih =>
    intro acc hs hl
    simp only [List.length_cons] at hl
    rw [lcL_cons, hs x List.mem_cons_self, lcK_some, if_pos (by omega), ih (fun y hy => hs y (List.mem_cons_of_mem _ hy)) (by simp only [List.length_append, List.length_cons, List.length_nil]; omega)]
    simp
theorem lc_filter {f : D → Option D} {step : D → Hh → R (Option D)} {h : Hh} : ∀ {xs acc : List D}, (∀ x ∈ xs, step x h = .ok (f x) h) → acc.length + xs.length ≤ line → lcL step xs acc h = .ok (acc ++ xs.filterMap f) h := by
  intro xs
  induction xs with
  | nil => intro acc _ _; simp
  | cons x xs ih =>
    intro acc hs hl
    simp only [List.length_cons] at hl
    rw [lcL_cons, hs x List.mem_cons_self]
    cases e : f x with
    | none =>
      rw [lcK_none, ih (fun y hy => hs y (List.mem_cons_of_mem _ hy)) (by omega)]
      simp [List.filterMap_cons, e]
    | some d =>
      rw [lcK_some, if_pos (by omega), ih (fun y hy => hs y (List.mem_cons_of_mem _ hy)) (by simp only [List.length_append, List.length_cons, List.length_nil]; omega)]
      simp [List.filterMap_cons, e]
theorem for_inv {body : D → Sg → Hh → SR} {I : Sg → Hh → Prop} (hs : ∀ x σ h, I σ h → ∃ σ' h', body x σ h = .nx σ' h' ∧ I σ' h') :
    ∀ (xs : List D) (σ : Sg) (h : Hh), I σ h → ∃ σ' h', forL body xs σ h = .nx σ' h' ∧ I σ' h' := by
  intro xs
  induction xs with
  | nil => intro σ h i; exact ⟨σ, h, rfl, i⟩
  | cons x xs ih =>
    intro σ h i
    obtain ⟨σ1, h1, e, i1⟩ := hs x σ h i
    obtain ⟨σ2, h2, e2, i2⟩ := ih σ1 h1 i1
    exact ⟨σ2, h2, by rw [forL_cons, e, forK_nx, e2], i2⟩
theorem for_invL {body : D → Sg → Hh → SR} {I : List D → Sg → Hh → Prop} (hs : ∀ x xs σ h, I (x :: xs) σ h → ∃ σ' h', body x σ h = .nx σ' h' ∧ I xs σ' h') :
    ∀ (xs : List D) (σ : Sg) (h : Hh), I xs σ h → ∃ σ' h', forL body xs σ h = .nx σ' h' ∧ I [] σ' h' := by
  intro xs
  induction xs with
  | nil => intro σ h i; exact ⟨σ, h, rfl, i⟩
  | cons x xs ih =>
    intro σ h i
    obtain ⟨σ1, h1, e, i1⟩ := hs x xs σ h i
    obtain ⟨σ2, h2, e2, i2⟩ := ih σ1 h1 i1
    exact ⟨σ2, h2, by rw [forL_cons, e, forK_nx, e2], i2⟩
theorem lc_mapR {step : D → Hh → R (Option D)} {xs acc : List D} {h : Hh} {r : R (List D)} (hR : lcL step xs acc h = r) (f : D → D) (hs : ∀ x ∈ xs, step x h = .ok (some (f x)) h) (hl : acc.length + xs.length ≤ line) : r = .ok (acc ++ xs.map f) h := hR.symm.trans (lc_map hs hl)
theorem lc_filterR {step : D → Hh → R (Option D)} {xs acc : List D} {h : Hh} {r : R (List D)} (hR : lcL step xs acc h = r) (f : D → Option D) (hs : ∀ x ∈ xs, step x h = .ok (f x) h) (hl : acc.length + xs.length ≤ line) : r = .ok (acc ++ xs.filterMap f) h := hR.symm.trans (lc_filter hs hl)
theorem for_invR {body : D → Sg → Hh → SR} {xs : List D} {σ : Sg} {h : Hh} {r : SR} (hR : forL body xs σ h = r) (I : Sg → Hh → Prop) (hs : ∀ x σ h, I σ h → ∃ σ' h', body x σ h = .nx σ' h' ∧ I σ' h') (i : I σ h) :
    ∃ σ' h', r = .nx σ' h' ∧ I σ' h' := by
  subst hR
  exact for_inv hs xs σ h i
theorem for_invLR {body : D → Sg → Hh → SR} {xs : List D} {σ : Sg} {h : Hh} {r : SR} (hR : forL body xs σ h = r) (I : List D → Sg → Hh → Prop) (hs : ∀ x xs σ h, I (x :: xs) σ h → ∃ σ' h', body x σ h = .nx σ' h' ∧ I xs σ' h') (i : I xs σ h) :
    ∃ σ' h', r = .nx σ' h' ∧ I [] σ' h' := by
  subst hR
  exact for_invL hs xs σ h i
@[simp] theorem len_rangeD (a : Int) (n : Nat) : (rangeD a n).length = n := by simp [rangeD]
theorem emod_lt (a : Int) {m : Int} (h : 0 < m) : a % m < m := Int.emod_lt_of_pos a h
theorem emod_ge (a : Int) {m : Int} (h : 0 < m) : 0 ≤ a % m := Int.emod_nonneg a (by omega)
theorem ix_in {ds : List D} {n : Nat} {x : Int} (hn : ds.length = n) (h0 : 0 ≤ x) (h1 : x < n) : ∃ d, d ∈ ds ∧ ((ixn n x).bind fun j => ds[j]?) = some d := by
  subst hn
  refine ⟨ds[x.toNat]'(by omega), List.getElem_mem _, ?_⟩
  simp only [ixn, h0, h1, if_true, Option.bind_some]
  exact List.getElem?_eq_getElem (by omega)
theorem ix_str {s : Tx} {x : Int} (h : Hh) (hl : s.length ≤ line) (h0 : 0 ≤ x) (h1 : x < s.length) : ∃ c, c ∈ s ∧ index h (.str s) (.int x) = some (.str [c]) := by
  refine ⟨s[x.toNat]'(by omega), List.getElem_mem _, ?_⟩
  rw [index_str, if_pos hl]
  simp only [ixn, h0, h1, if_true, Option.bind_some]
  rw [List.getElem?_eq_getElem (by omega)]
  rfl
@[simp] theorem app_get0 {α : Type} (h t : List α) (o : α) : (h ++ o :: t)[h.length]? = some o := by simp
@[simp] theorem app_get1 {α : Type} (h t : List α) (a o : α) : (h ++ a :: o :: t)[h.length + 1]? = some o := by
  rw [List.getElem?_append_right (by omega)]
  simp
@[simp] theorem app_get2 {α : Type} (h t : List α) (a b o : α) : (h ++ a :: b :: o :: t)[h.length + 2]? = some o := by
  rw [List.getElem?_append_right (by omega)]
  simp
@[simp] theorem app_set0 {α : Type} (h t : List α) (o x : α) : (h ++ o :: t).set h.length x = h ++ x :: t := by simp
@[simp] theorem app_set1 {α : Type} (h t : List α) (a o x : α) : (h ++ a :: o :: t).set (h.length + 1) x = h ++ a :: x :: t := by
  rw [List.set_append_right _ _ (by omega)]
  simp
@[simp] theorem app_set2 {α : Type} (h t : List α) (a b o x : α) : (h ++ a :: b :: o :: t).set (h.length + 2) x = h ++ a :: b :: x :: t := by
  rw [List.set_append_right _ _ (by omega)]
  simp
theorem lend_cl {k : Nat} {d : D} {ds : List D} (c : d.closed = true) : lend k (d :: ds) = (lend k ds).map fun q => (d :: q.1, q.2) := by
  cases d <;> first | (simp [D.closed] at c; done) | simp_all [lend]
theorem set_same {α : Type} {h : List α} {r : Nat} {o : α} (e : h[r]? = some o) : h.set r o = h := by
  obtain ⟨hr, rfl⟩ := List.getElem?_eq_some_iff.mp e
  exact List.set_getElem_self hr
end Pl
end
section
namespace Pl
open Fw
abbrev wTo : Tx := [116, 111]
abbrev wRow : Tx := [114, 111, 119]
abbrev wTable : Tx := [116, 97, 98, 108, 101]
abbrev wStream : Tx := [115, 116, 114, 101, 97, 109]
abbrev wName : Tx := [110, 97, 109, 101]
inductive Vl where
  | non
  | int (i : Int)
  | str (s : Tx)
  | name (s : Tx)
  | to (k e : Int)
  | row (vs : List Vl)
  | table (es : List (Tx × Vl))
  | stream (es : List (Tx × Vl)) (s : Tx)
mutual
def Vl.d : Vl → D
  | .non => .non
  | .int i => .int i
  | .str s => .str s
  | .name s => .tup [.str wName, .str s]
  | .to k e => .tup [.str wTo, .int k, .int e]
  | .row vs => .tup [.str wRow, .tup (dAll vs)]
  | .table es => .tup [.str wTable, .tup (dEnt es)]
  | .stream es s => .tup [.str wStream, .tup (dEnt es), .str s]
def dAll : List Vl → List D
  | [] => []
  | v :: vs => v.d :: dAll vs
def dEnt : List (Tx × Vl) → List D
  | [] => []
  | e :: es => .tup [.str e.1, e.2.d] :: dEnt es
end
mutual
def Vl.refs : Vl → List (Int × Int)
  | .to k e => [(k, e)]
  | .row vs => refsAll vs
  | .table es => refsEnt es
  | .stream es _ => refsEnt es
  | _ => []
def refsAll : List Vl → List (Int × Int)
  | [] => []
  | v :: vs => v.refs ++ refsAll vs
def refsEnt : List (Tx × Vl) → List (Int × Int)
  | [] => []
  | e :: es => e.2.refs ++ refsEnt es
end
mutual
def Vl.deep : Vl → Nat
  | .row vs => deepAll vs + 1
  | .table es => deepEnt es + 1
  | .stream es _ => deepEnt es + 1
  | _ => 1
def deepAll : List Vl → Nat
  | [] => 0
  | v :: vs => max v.deep (deepAll vs)
def deepEnt : List (Tx × Vl) → Nat
  | [] => 0
  | e :: es => max e.2.deep (deepEnt es)
end
mutual
theorem Vl.closed : ∀ v : Vl, v.d.closed = true
  | .non => rfl
  | .int _ => rfl
  | .str _ => rfl
  | .name _ => rfl
  | .to _ _ => rfl
  | .row vs => by simp [Vl.d, D.closed, closedAll, dAll_closed vs]
  | .table es => by simp [Vl.d, D.closed, closedAll, dEnt_closed es]
  | .stream es _ => by simp [Vl.d, D.closed, closedAll, dEnt_closed es]
theorem dAll_closed : ∀ vs : List Vl, closedAll (dAll vs) = true
  | [] => rfl
  | v :: vs => by simp [dAll, closedAll, Vl.closed v, dAll_closed vs]
theorem dEnt_closed : ∀ es : List (Tx × Vl), closedAll (dEnt es) = true
  | [] => rfl
  | e :: es => by simp [dEnt, closedAll, D.closed, Vl.closed e.2, dEnt_closed es]
end
def Vl.parts : Vl → List Vl
  | .row vs => vs
  | .table es => es.map (·.2)
  | .stream es _ => es.map (·.2)
  | _ => []
theorem dAll_map (vs : List Vl) : dAll vs = vs.map Vl.d := by
  induction vs with
  | nil => rfl
  | cons v vs ih => simp [dAll, ih]
mutual
def Vl.sz : Vl → Nat
  | .row vs => szAll vs + 1
  | .table es => szEnt es + 1
  | .stream es _ => szEnt es + 1
  | _ => 1
def szAll : List Vl → Nat
  | [] => 0
  | v :: vs => v.sz + szAll vs
def szEnt : List (Tx × Vl) → Nat
  | [] => 0
  | e :: es => e.2.sz + szEnt es
end
@[simp] theorem vcl (v : Vl) : v.d.closed = true := v.closed
@[simp] theorem vcla (vs : List Vl) : closedAll (dAll vs) = true := dAll_closed vs
@[simp] theorem vcle (es : List (Tx × Vl)) : closedAll (dEnt es) = true := dEnt_closed es
def letter (c : Nat) : Prop := 97 ≤ c ∧ c ≤ 122
def WordOk (s : Tx) : Prop := 1 ≤ s.length ∧ s.length ≤ 8 ∧ ∀ c ∈ s, letter c
def signOk (c : Nat) : Prop := 32 ≤ c ∧ c ≤ 126
def rises (ws : List Tx) : Prop := ws.Pairwise (· < ·)
mutual
def Vl.pl : Vl → Prop
  | .non => True
  | .int i => -1000000000000000000000000000000 < i ∧ i < 1000000000000000000000000000000
  | .str s => s.length ≤ 200 ∧ ∀ c ∈ s, signOk c
  | .name s => WordOk s
  | .to k e => 1 ≤ k ∧ k ≤ 200 ∧ 0 ≤ e ∧ e ≤ 99
  | .row vs => vs.length ≤ 60 ∧ plAll vs
  | .table es => es.length ≤ 30 ∧ rises (es.map (·.1)) ∧ plEnt es
  | .stream _ _ => False
def plAll : List Vl → Prop
  | [] => True
  | v :: vs => v.pl ∧ plAll vs
def plEnt : List (Tx × Vl) → Prop
  | [] => True
  | e :: es => WordOk e.1 ∧ e.2.pl ∧ plEnt es
end
def Vl.ok : Vl → Prop
  | .stream es s => es.length ≤ 30 ∧ rises (es.map (·.1)) ∧ plEnt es ∧ s.length ≤ 2000 ∧ ∀ c ∈ s, signOk c ∨ c = 10
  | v => v.pl
theorem pl_ok {v : Vl} (h : v.pl) : v.ok := by cases v <;> first | exact h | exact h.elim
theorem plAll_iff {vs : List Vl} : plAll vs ↔ ∀ v ∈ vs, v.pl := by
  induction vs with
  | nil => simp [plAll]
  | cons v vs ih => simp [plAll, ih]
theorem plEnt_iff {es : List (Tx × Vl)} : plEnt es ↔ ∀ e ∈ es, WordOk e.1 ∧ e.2.pl := by
  induction es with
  | nil => simp [plEnt]
  | cons e es ih => simp [plEnt, ih, and_assoc]
theorem deepAll_le {vs : List Vl} {n : Nat} (h : ∀ v ∈ vs, v.deep ≤ n) : deepAll vs ≤ n := by
  induction vs with
  | nil => simp [deepAll]
  | cons v vs ih =>
    have := h v List.mem_cons_self
    have := ih fun x hx => h x (List.mem_cons_of_mem _ hx)
    simp [deepAll]
    omega
theorem dEnt_map (es : List (Tx × Vl)) : dEnt es = es.map fun e => .tup [.str e.1, e.2.d] := by
  induction es with
  | nil => rfl
  | cons e es ih => simp [dEnt, ih]
end Pl
end
section
namespace Pl
open Fw
theorem lt_of_not {a b : Tx} (h1 : ¬ b < a) (h2 : a ≠ b) : a < b := by
  rcases Decidable.em (a < b) with h | h
  · exact h
  · exact absurd (List.le_antisymm (List.not_lt.mp h1) (List.not_lt.mp h)) h2
theorem sortT_perm (ts : List Tx) : (sortT ts).Perm ts := List.mergeSort_perm _ _
@[simp] theorem sortT_len (ts : List Tx) : (sortT ts).length = ts.length := (sortT_perm ts).length_eq
theorem sortT_mem {ts : List Tx} {t : Tx} : t ∈ sortT ts ↔ t ∈ ts := (sortT_perm ts).mem_iff
theorem sortT_rises {ts : List Tx} (h : ts.Nodup) : rises (sortT ts) := by
  have p : (sortT ts).Pairwise fun a b => (!decide (b < a)) = true := List.pairwise_mergeSort (by
    intro a b c h1 h2
    simp only [Bool.not_eq_true', decide_eq_false_iff_not] at *
    exact fun h => absurd h (List.not_lt.mpr (List.le_trans (List.not_lt.mp h1) (List.not_lt.mp h2)))) (by
    intro a b
    simp only [Bool.or_eq_true, Bool.not_eq_true', decide_eq_false_iff_not]
    rcases Decidable.em (b < a) with h | h
    · exact .inr fun h' => List.lt_asymm h h'
    · exact .inl h) ts
  have n : (sortT ts).Nodup := (sortT_perm ts).nodup_iff.mpr h
  exact (p.and n).imp fun {a b} q => lt_of_not (by simpa using q.1) q.2
abbrev Es := List (Tx × Vl)
def kvE (es : Es) : List (K1 × D) := es.map fun e => (.inr e.1, e.2.d)
def putE (w : Tx) (v : Vl) (es : Es) : Es := if w ∈ es.map (·.1) then es.map fun e => if e.1 = w then (e.1, v) else e else es ++ [(w, v)]
theorem put_kvE (w : Tx) (v : Vl) (es : Es) : put (.inr w) v.d (kvE es) = kvE (putE w v es) := by
  unfold put putE
  by_cases h : w ∈ es.map (·.1)
  · rw [if_pos h, if_pos]
    · simp only [kvE, List.map_map]
      apply List.map_congr_left
      intro e _
      simp only [Function.comp]
      by_cases q : e.1 = w
      · simp [q]
      · simp [q]
    · simp only [kvE, List.any_map, List.any_eq_true]
      obtain ⟨e, he, rfl⟩ := List.mem_map.mp h
      exact ⟨e, he, by simp⟩
  · rw [if_neg h, if_neg]
    · simp [kvE]
    · simp only [kvE, List.any_map, List.any_eq_true, not_exists, not_and]
      intro e he q
      simp at q
      exact h (List.mem_map.mpr ⟨e, he, q⟩)
theorem putE_keys (w : Tx) (v : Vl) (es : Es) : (putE w v es).map (·.1) = if w ∈ es.map (·.1) then es.map (·.1) else es.map (·.1) ++ [w] := by
  unfold putE
  by_cases h : w ∈ es.map (·.1)
  · rw [if_pos h, if_pos h, List.map_map]
    apply List.map_congr_left
    intro e _
    simp only [Function.comp]
    by_cases q : e.1 = w <;> simp [q]
  · rw [if_neg h, if_neg h]
    simp
theorem putE_nodup {w : Tx} {v : Vl} {es : Es} (h : (es.map (·.1)).Nodup) : ((putE w v es).map (·.1)).Nodup := by
  rw [putE_keys]
  split
  · exact h
  · rename_i q
    refine List.nodup_append.mpr ⟨h, by simp, ?_⟩
    intro a ha b hb e
    rw [List.mem_singleton] at hb
    subst e; subst hb
    exact q ha
theorem putE_len {w : Tx} {v : Vl} {es : Es} : (putE w v es).length ≤ es.length + 1 := by
  unfold putE
  split <;> simp
theorem putE_mem {w : Tx} {v : Vl} {es : Es} {e : Tx × Vl} (h : e ∈ putE w v es) : e = (w, v) ∨ e ∈ es := by
  unfold putE at h
  split at h
  · obtain ⟨z, hz, rfl⟩ := List.mem_map.mp h
    by_cases q : z.1 = w
    · left; simp [q]
    · simp only [q, if_false]; exact .inr hz
  · rcases List.mem_append.mp h with h | h
    · exact .inr h
    · exact .inl (List.mem_singleton.mp h)
def getE (w : Tx) (es : Es) : Option Vl := (es.find? fun e => decide (e.1 = w)).map (·.2)
theorem look_kvE (w : Tx) (es : Es) : look (.inr w) (kvE es) = (getE w es).map Vl.d := by
  induction es with
  | nil => rfl
  | cons e es ih =>
    have ih' : look (.inr w) (es.map fun e => ((.inr e.1 : K1), e.2.d)) = (getE w es).map Vl.d := ih
    simp only [kvE, List.map_cons, look, getE, List.find?_cons]
    by_cases q : e.1 = w
    · simp [q]
    · simp only [q, decide_false, Sum.inr.injEq, if_false, ih']
      rfl
theorem getE_mem {w : Tx} {es : Es} (h : w ∈ es.map (·.1)) : ∃ v, getE w es = some v ∧ (w, v) ∈ es := by
  induction es with
  | nil => cases h
  | cons e es ih =>
    by_cases q : e.1 = w
    · exact ⟨e.2, by simp [getE, q], by subst q; exact List.mem_cons_self⟩
    · have h' : w ∈ es.map (·.1) := by
        rcases List.mem_cons.mp h with r | r
        · exact absurd r.symm q
        · exact r
      obtain ⟨v, e1, m⟩ := ih h'
      refine ⟨v, ?_, List.mem_cons_of_mem _ m⟩
      simp only [getE] at e1 ⊢
      rw [List.find?_cons]
      simp [q, e1]
theorem textKeys_kvE (es : Es) : textKeys (kvE es) = some (es.map (·.1)) := by
  induction es with
  | nil => rfl
  | cons e es ih =>
    have ih' : textKeys (es.map fun e => ((.inr e.1 : K1), e.2.d)) = some (es.map (·.1)) := ih
    simp [kvE, textKeys, ih']
theorem sorted_kvE {h : Hh} {n : Nat} {es : Es} (e : h[n]? = some (.dct (kvE es))) (hl : es.length < 64) : sortedK h (.ref n) = some (.lst ((sortT (es.map (·.1))).map .str)) := by
  unfold sortedK
  rw [asDct_ref e]
  simp only [Option.bind_some]
  rw [if_pos (by simpa [kvE] using hl)]
  cases es with
  | nil => simp [kvE, intKeys, sortI, sortT]
  | cons z es =>
    have : intKeys (kvE (z :: es)) = none := rfl
    rw [this, textKeys_kvE]
    rfl
def sortE (es : Es) : Es := (sortT (es.map (·.1))).map fun w => (w, (getE w es).getD .non)
theorem sortE_mem {es : Es} {e : Tx × Vl} (h : e ∈ sortE es) : e ∈ es := by
  obtain ⟨w, hw, rfl⟩ := List.mem_map.mp h
  obtain ⟨v, e1, m⟩ := getE_mem (sortT_mem.mp hw)
  rw [e1]
  exact m
theorem sortE_rises {es : Es} (h : (es.map (·.1)).Nodup) : rises ((sortE es).map (·.1)) := by
  have : (sortE es).map (·.1) = sortT (es.map (·.1)) := by
    unfold sortE
    rw [List.map_map]
    exact List.map_id' _
  rw [this]
  exact sortT_rises h
@[simp] theorem sortE_len {es : Es} : (sortE es).length = es.length := by simp [sortE]
end Pl
end
section
set_option Elab.async false
set_option maxHeartbeats 3200000
namespace Fw
open PySem PySem.Spec PyProof.Rows L2
def tkey (e : Int × Value) : Str := match e.2 with | .str x _ => x | _ => Str.empty
def GoodT (w : World) (e : Int × Value) : Prop := ∃ x tk, e.2 = Value.str x tk ∧ e.1 = hashStr w x
def SetT (w : World) (h : Heap) (a : Addr) (S : Str → Bool) (n : Nat) : Prop :=
  ∃ o es ep t, h.get? a = some o ∧ o.ExactSet ∧ o.data = .set es ep t ∧ (∀ e ∈ es.toList, GoodT w e) ∧ (es.toList.map tkey).Nodup ∧ (∀ k, S k = true ↔ k ∈ es.toList.map tkey) ∧
    es.size < scanBound ∧ t.fits es.size = true ∧ es.size = n ∧ Ris t.place.toList ∧ (w.params.followText "set-order" = true ∨ t.led = true)
section
variable {P : Program} {w : World} {h h' : Heap} {a : Addr} {S : Str → Bool} {n : Nat}
theorem SetT.at (R : SetT w h a S n) (k : ∀ o, h.get? a = some o → h'.get? a = some o) : SetT w h' a S n := by
  obtain ⟨o, es, ep, t, ho, r⟩ := R; exact ⟨o, es, ep, t, k o ho, r⟩
theorem SetT.congr {S' : Str → Bool} (R : SetT w h a S n) (e : ∀ k, S' k = S k) : SetT w h a S' n := by
  rw [show S' = S from funext e]; exact R
end
section
variable {P : Program} {w : World} {A : Around} {E : Value → Shared → Prop} {s : Shared} {a : Addr} {S : Str → Bool} {n : Nat}
end
end Fw
end
section
set_option Elab.async false
set_option maxHeartbeats 3200000
namespace Fw
open PySem PySem.Spec PyProof.Rows L2
section
variable {X : Cx}
end
section
variable {X : Cx} {W : Wd} {wx : WX} {a : Expr} {fa : TM} {p p2 pos pos2 : Pos}
end
end Fw
end
section
set_option Elab.async false
set_option maxHeartbeats 1000000
namespace Fw
open PySem PySem.Spec PyProof.Rows L2
def headT (h : Heap) : Value → Tx
  | .ref a => match h.get? a with
    | some o => (match o.data with
      | .seq xs _ => (match (xs[0]? : Option Value) with
        | some (Value.str i _) => i.cps.toList
        | _ => [])
      | _ => [])
    | none => []
  | _ => []
def IsHdT (h : Heap) (v : Value) (i : Tx) : Prop := ∃ a o t n xs, v = .ref a ∧ h.get? a = some o ∧ o.cls = .type "tuple" ∧ o.data = .seq xs n ∧ xs[0]? = some (Value.str (toS i) t)
theorem IsHdT.keeps {h h' : Heap} {v : Value} {i : Tx} (p : IsHdT h v i) (k : ∀ b o, h.get? b = some o → o.cls = .type "tuple" → h'.get? b = some o) : IsHdT h' v i := by
  obtain ⟨a, o, t, n, xs, e, ho, hc, hd, hx⟩ := p
  exact ⟨a, o, t, n, xs, e, k _ _ ho hc, hc, hd, hx⟩
theorem IsHdT.u {h : Heap} {v : Value} {i : Tx} (p : IsHdT h v i) : headT h v = i := by
  obtain ⟨a, o, t, n, xs, rfl, ho, hc, hd, hx⟩ := p
  simp [headT, ho, hd, hx, toS_list]
section
variable {prog : Program} {w : World} {A : Around} {s : Shared}
end
section
variable {X : Cx} {W : Wd}
theorem sortT_pw {ys ks : List Tx} (p : ys.Perm ks) (s : ys.Pairwise (· ≤ ·)) : ys = sortT ks := by
  have q : (sortT ks).Pairwise (· ≤ ·) := by
    refine (List.pairwise_mergeSort (le := fun a b : Tx => !decide (b < a)) (fun a b c h1 h2 => ?_) (fun a b => ?_) ks).imp fun h => by simpa using h
    · simp only [Bool.not_eq_true', decide_eq_false_iff_not] at *
      exact List.le_trans (l₁ := a) (l₂ := b) (l₃ := c) h1 h2
    · simp only [Bool.or_eq_true, Bool.not_eq_true', decide_eq_false_iff_not]
      exact List.le_total a b
  exact List.Perm.eq_of_pairwise (fun a b _ _ h1 h2 => List.le_antisymm h1 h2) s q (p.trans (List.mergeSort_perm ks _).symm)
end
end Fw
end
section
namespace Lw
open Fw Pl PySem
theorem key_le (x y : D) (a b : Tx) : keyLe (x, .str a) (y, .str b) = !decide (b < a) := by
  show (!(decide (b < a) || (!decide (a < b) && false))) = _
  simp
theorem getE_self {es : Es} (hn : (es.map (·.1)).Nodup) : ∀ {e : Tx × Vl}, e ∈ es → getE e.1 es = some e.2 := by
  induction es with
  | nil => intro e h; cases h
  | cons q es ih =>
    intro e h
    rw [List.map_cons, List.nodup_cons] at hn
    rcases List.mem_cons.mp h with rfl | h
    · simp [getE]
    · have hne : q.1 ≠ e.1 := fun z => hn.1 (z ▸ List.mem_map.mpr ⟨e, h, rfl⟩)
      have := ih hn.2 h
      simp only [getE, List.find?_cons, hne, decide_false] at this ⊢
      exact this
theorem sortK_words {es : Es} (hn : (es.map (·.1)).Nodup) : sortK (es.map fun e => .str e.1) (itemsL (kvE es)) = dEnt (sortE es) := by
  have hz : (itemsL (kvE es)).zip (es.map fun e => D.str e.1) = es.map fun e => (D.tup [.str e.1, e.2.d], D.str e.1) := by
    rw [itemsL, kvE, List.map_map, List.zip_map']
    rfl
  have hm := List.map_mergeSort (r := fun a b : Tx × Vl => !decide (b.1 < a.1)) (s := keyLe) (f := fun e : Tx × Vl => (D.tup [.str e.1, e.2.d], D.str e.1)) (l := es) (fun a _ b _ => (key_le _ _ _ _).symm)
  rw [sortK, hz, ← hm, List.map_map]
  have hp : (es.mergeSort fun a b => !decide (b.1 < a.1)).Perm es := List.mergeSort_perm _ _
  have hs : (es.mergeSort fun a b => !decide (b.1 < a.1)).Pairwise fun a b => (!decide (b.1 < a.1)) = true := List.pairwise_mergeSort (by
    intro a b c h1 h2
    simp only [Bool.not_eq_true', decide_eq_false_iff_not] at *
    exact List.le_trans (l₁ := a.1) (l₂ := b.1) (l₃ := c.1) h1 h2) (by
    intro a b
    simp only [Bool.or_eq_true, Bool.not_eq_true', decide_eq_false_iff_not]
    exact List.le_total a.1 b.1) es
  generalize es.mergeSort (fun a b => !decide (b.1 < a.1)) = ES at hp hs
  have hw : ES.map (·.1) = sortT (es.map (·.1)) := sortT_pw (hp.map _) (by
    rw [List.pairwise_map]
    exact hs.imp fun h => by simpa using h)
  have hE : ES = sortE es := by
    rw [sortE, ← hw, List.map_map]
    conv => lhs; rw [← List.map_id ES]
    refine List.map_congr_left fun e he => ?_
    simp [getE_self hn (hp.mem_iff.mp he)]
  rw [← hE, dEnt_map]
  rfl
end Lw
end
section
namespace Pl
open Fw
mutual
def D.pure : D → Bool
  | .obj _ _ => false
  | .fn _ => false
  | .ref _ => false
  | .roi _ => false
  | .tup xs => pureAll xs
  | .lst xs => pureAll xs
  | .dct kvs => pureK kvs
  | _ => true
def pureAll : List D → Bool
  | [] => true
  | x :: xs => D.pure x && pureAll xs
def pureK : List (K1 × D) → Bool
  | [] => true
  | x :: xs => D.pure x.2 && pureK xs
end
mutual
theorem pure_closed : ∀ {d : D}, D.pure d = true → d.closed = true
  | .non, _ => rfl
  | .bl _, _ => rfl
  | .int _, _ => rfl
  | .str _, _ => rfl
  | .fn _, h => by simp [D.pure] at h
  | .roi _, _ => rfl
  | .obj _ _, h => by simp [D.pure] at h
  | .ref _, h => by simp [D.pure] at h
  | .tup xs, h => by
    simp only [D.pure] at h
    simp [pureAll_closed h]
  | .lst xs, h => by
    simp only [D.pure] at h
    simp [pureAll_closed h]
  | .dct xs, h => by
    simp only [D.pure] at h
    simp [pureK_closed h]
theorem pureAll_closed : ∀ {ds : List D}, pureAll ds = true → closedAll ds = true
  | [], _ => rfl
  | x :: xs, h => by
    simp only [pureAll, Bool.and_eq_true] at h
    simp [pure_closed h.1, pureAll_closed h.2]
theorem pureK_closed : ∀ {ds : List (K1 × D)}, pureK ds = true → closedK ds = true
  | [], _ => rfl
  | x :: xs, h => by
    simp only [pureK, Bool.and_eq_true] at h
    simp [pure_closed h.1, pureK_closed h.2]
end
@[simp] theorem pure_tup {ds : List D} : D.pure (.tup ds) = pureAll ds := by rw [D.pure]
@[simp] theorem pure_lst {ds : List D} : D.pure (.lst ds) = pureAll ds := by rw [D.pure]
@[simp] theorem pure_dct {ds : List (K1 × D)} : D.pure (.dct ds) = pureK ds := by rw [D.pure]
@[simp] theorem pure_non : D.pure .non = true := by simp [D.pure]
@[simp] theorem pure_int {i : Int} : D.pure (.int i) = true := by simp [D.pure]
@[simp] theorem pure_bl {i : Bool} : D.pure (.bl i) = true := by simp [D.pure]
@[simp] theorem pure_str {i : Tx} : D.pure (.str i) = true := by simp [D.pure]
@[simp] theorem pureA_nil : pureAll [] = true := by simp [pureAll]
@[simp] theorem pureA_cons {d : D} {ds : List D} : pureAll (d :: ds) = (D.pure d && pureAll ds) := by rw [pureAll]
@[simp] theorem pureA_app {ds es : List D} : pureAll (ds ++ es) = (pureAll ds && pureAll es) := by
  induction ds with
  | nil => simp
  | cons d ds ih => simp [ih, Bool.and_assoc]
theorem pureA_iff {ds : List D} : pureAll ds = true ↔ ∀ d ∈ ds, D.pure d = true := by
  induction ds with
  | nil => simp
  | cons d ds ih => simp [ih]
mutual
@[simp] theorem Vl.dpure : ∀ v : Vl, D.pure v.d = true
  | .non => rfl
  | .int _ => rfl
  | .str _ => rfl
  | .name _ => rfl
  | .to _ _ => rfl
  | .row vs => by simp [Vl.d, dAll_pure vs]
  | .table es => by simp [Vl.d, dEnt_pure es]
  | .stream es _ => by simp [Vl.d, dEnt_pure es]
@[simp] theorem dAll_pure : ∀ vs : List Vl, pureAll (dAll vs) = true
  | [] => rfl
  | v :: vs => by simp [dAll, Vl.dpure v, dAll_pure vs]
@[simp] theorem dEnt_pure : ∀ es : List (Tx × Vl), pureAll (dEnt es) = true
  | [] => rfl
  | e :: es => by simp [dEnt, Vl.dpure e.2, dEnt_pure es]
end
def isTupD : D → Bool
  | .tup _ => true
  | _ => false
def wholeD : D → Bool
  | .int _ => true
  | _ => false
def fromD (a b : Int) : D → Bool
  | .int i => decide (a ≤ i) && decide (i ≤ b)
  | _ => false
theorem isT_tup {d : D} {h : Hh} (p : D.pure d = true) : isT (isOf .tup) h d = some (.bl (isTupD d)) := by
  cases d <;> first | rfl | simp [D.pure] at p
@[simp] theorem isTupD_tup {ds : List D} : isTupD (.tup ds) = true := rfl
@[simp] theorem isTupD_v (v : Vl) : isTupD v.d = (match v with | .non => false | .int _ => false | .str _ => false | _ => true) := by cases v <;> rfl
@[simp] theorem popD_ref {h : Hh} {xs : List D} {n : Nat} {i : Int} (e : h[n]? = some (.lst xs)) : popD h (.ref n) (.int i) = (ixn xs.length i).bind fun j => (xs[j]?).map fun d => (d, some (n, .lst (xs.eraseIdx j))) := by
  simp [popD, e]
end Pl
end
section
namespace Lw
open Fw Pl
theorem r_whole (F n : Nat) (d : D) (h : Hh) (p : D.pure d = true) : run F (n + 1) ix_is_whole [d] h = .ok (.bl (wholeD d)) h := by
  rw [run_is_whole, own_closed (np := 1) (by simp [pure_closed p]) rfl]
  cases d <;> first | (simp [D.pure] at p; done) | simp [b_is_whole, startD, isT, ty1, isOf, wholeD]
theorem r_from (F n : Nat) (d : D) (a b : Int) (h : Hh) (p : D.pure d = true) : run F (n + 2) ix_is_from [d, .int a, .int b] h = .ok (.bl (fromD a b d)) h := by
  rw [run_is_from, own_closed (np := 3) (by simp [pure_closed p]) rfl]
  cases d with
  | int i =>
    by_cases h1 : a ≤ i <;> simp [b_is_from, startD, r_whole, wholeD, fromD, h1]
  | _ => first | (simp [D.pure] at p; done) | simp [b_is_from, startD, r_whole _ _ _ _ p, wholeD, fromD]
theorem r_number (F n : Nat) (d : D) (h : Hh) (p : D.pure d = true) : run F (n + 3) ix_is_number [d] h = .ok (.bl (fromD 1 200 d)) h := by
  rw [run_is_number, own_closed (np := 1) (by simp [pure_closed p]) rfl]
  simp [b_is_number, startD, r_from _ _ _ _ _ _ p]
theorem r_edition (F n : Nat) (d : D) (h : Hh) (p : D.pure d = true) : run F (n + 3) ix_is_edition [d] h = .ok (.bl (fromD 0 99 d)) h := by
  rw [run_is_edition, own_closed (np := 1) (by simp [pure_closed p]) rfl]
  simp [b_is_edition, startD, r_from _ _ _ _ _ _ p]
def kindD (t : Tx) : D → Bool
  | .str w => decide (w = t)
  | _ => false
theorem r_kind (F n : Nat) (d : D) (t : Tx) (ds : List D) (h : Hh) (p : D.pure d = true) (q : pureAll ds = true) : run F (n + 1) ix_is_kind [.tup (d :: ds), .str t] h = .ok (.bl (kindD t d)) h := by
  rw [run_is_kind, own_closed (np := 2) (by simp [pure_closed p, pureAll_closed q]) rfl]
  cases d <;> first | (simp [D.pure] at p; done) | simp [b_is_kind, startD, isT, ty1, isOf, kindD, ixn]
def isTo : D → Bool
  | .tup [w, k, e] => kindD wTo w && (fromD 1 200 k && fromD 0 99 e)
  | _ => false
theorem r_isref (F n : Nat) (d : D) (h : Hh) (p : D.pure d = true) : run F (n + 4) ix_is_reference [d] h = .ok (.bl (isTo d)) h := by
  rw [run_is_reference, own_closed (np := 1) (by simp [pure_closed p]) rfl]
  have nt : isTupD d = false → isTo d = false := by
    intro q
    cases d <;> first | rfl | simp [isTupD] at q
  by_cases ht : isTupD d = true
  · obtain ⟨ds, rfl⟩ : ∃ ds, d = .tup ds := by cases d <;> first | exact ⟨_, rfl⟩ | simp [isTupD] at ht
    match ds, p with
    | [w, k, e], p =>
      simp at p
      have h1 := r_kind F (n + 2) w wTo [k, e] [] p.1 (by simp [p.2.1, p.2.2])
      have h2 := r_number F n k [] p.2.1
      have h3 := r_edition F n e [] p.2.2
      by_cases c1 : kindD wTo w = true
      · by_cases c2 : fromD 1 200 k = true
        · simp [b_is_reference, startD, isT_tup, p, h1, h2, h3, isTo, c1, c2, ixn]
        · simp [b_is_reference, startD, isT_tup, p, h1, h2, h3, isTo, c1, c2, ixn]
      · simp [b_is_reference, startD, isT_tup, p, h1, h2, h3, isTo, c1, ixn]
    | [], p => simp [b_is_reference, startD, isT_tup, isTo]
    | [_], p => simp [b_is_reference, startD, isT_tup p, isTo]
    | [_, _], p => simp [b_is_reference, startD, isT_tup p, isTo]
    | _ :: _ :: _ :: _ :: l, p =>
      have : ¬ (l.length + 1 + 1 + 1 + 1 : Int) = 3 := by omega
      simp [b_is_reference, startD, isT_tup p, isTo, this]
  · simp [b_is_reference, startD, isT_tup p, nt, ht]
end Lw
end
section
namespace Pl
open Fw
inductive Turn {α : Type} (p : BM) (s : SM) (enc : α → Sg) (hh : α → Hh) (out : α → SR) (I : α → Prop) (μ : α → Nat) (a : α) : Prop
  | stop : p (enc a) (hh a) = .ok false (hh a) → out a = .nx (enc a) (hh a) → Turn p s enc hh out I μ a
  | ret (d : D) (h' : Hh) : p (enc a) (hh a) = .ok true (hh a) → s (enc a) (hh a) = .rt d h' → out a = .rt d h' → Turn p s enc hh out I μ a
  | next (b : α) : p (enc a) (hh a) = .ok true (hh a) → s (enc a) (hh a) = .nx (enc b) (hh b) → I b → μ b < μ a → out a = out b → Turn p s enc hh out I μ a
inductive FTurn {α : Type} (body : D → Sg → Hh → SR) (enc : α → Sg) (hh : α → Hh) (out : α → List D → SR) (I : α → List D → Prop) (a : α) (x : D) (xs : List D) : Prop
  | ret (d : D) (h' : Hh) : body x (enc a) (hh a) = .rt d h' → out a (x :: xs) = .rt d h' → FTurn body enc hh out I a x xs
  | next (b : α) : body x (enc a) (hh a) = .nx (enc b) (hh b) → I b xs → out a (x :: xs) = out b xs → FTurn body enc hh out I a x xs
inductive TurnR {α : Type} (p : BM) (s : SM) (enc : α → Sg) (hh : α → Hh) (Out : α → SR → Prop) (I : α → Prop) (μ : α → Nat) (a : α) : Prop
  | stop : p (enc a) (hh a) = .ok false (hh a) → Out a (.nx (enc a) (hh a)) → TurnR p s enc hh Out I μ a
  | ret (d : D) (h' : Hh) : p (enc a) (hh a) = .ok true (hh a) → s (enc a) (hh a) = .rt d h' → Out a (.rt d h') → TurnR p s enc hh Out I μ a
  | next (b : α) : p (enc a) (hh a) = .ok true (hh a) → s (enc a) (hh a) = .nx (enc b) (hh b) → I b → μ b < μ a → (∀ r, Out b r → Out a r) → TurnR p s enc hh Out I μ a
theorem wh_goR {α : Type} {p : BM} {s : SM} {enc : α → Sg} {hh : α → Hh} {Out : α → SR → Prop} {I : α → Prop} {μ : α → Nat} (hs : ∀ a, I a → TurnR p s enc hh Out I μ a) :
    ∀ (N : Nat) (a : α), I a → μ a < N → Out a (whL p s N (enc a) (hh a)) := by
  intro N
  induction N with
  | zero => intro a _ h; omega
  | succ N ih =>
    intro a i h
    rw [whL_succ]
    cases hs a i with
    | stop e1 e2 => rw [e1, whI_ok, whI1_f]; exact e2
    | ret d h' e1 e2 e3 => rw [e1, whI_ok, whI1_t, e2, whK_rt]; exact e3
    | next b e1 e2 i' hm e3 => rw [e1, whI_ok, whI1_t, e2, whK_nx]; exact e3 _ (ih b i' (by omega))
theorem wh_rel {α : Type} {p : BM} {s : SM} {N : Nat} {σ : Sg} {h : Hh} {rr : SR} (hR : whL p s N σ h = rr) (enc : α → Sg) (hh : α → Hh) (Out : α → SR → Prop) (I : α → Prop) (μ : α → Nat)
    (hs : ∀ a, I a → TurnR p s enc hh Out I μ a) (a : α) (e1 : σ = enc a) (e2 : h = hh a) (i : I a) (hN : μ a < N) : Out a rr := by
  subst e1 e2
  subst hR
  exact wh_goR hs N a i hN
inductive FTurnR {α : Type} (body : D → Sg → Hh → SR) (enc : α → Sg) (hh : α → Hh) (Out : α → List D → SR → Prop) (I : α → List D → Prop) (a : α) (x : D) (xs : List D) : Prop
  | ret (d : D) (h' : Hh) : body x (enc a) (hh a) = .rt d h' → Out a (x :: xs) (.rt d h') → FTurnR body enc hh Out I a x xs
  | next (b : α) : body x (enc a) (hh a) = .nx (enc b) (hh b) → I b xs → (∀ r, Out b xs r → Out a (x :: xs) r) → FTurnR body enc hh Out I a x xs
theorem for_goR {α : Type} {body : D → Sg → Hh → SR} {enc : α → Sg} {hh : α → Hh} {Out : α → List D → SR → Prop} {I : α → List D → Prop} (h0 : ∀ a, I a [] → Out a [] (.nx (enc a) (hh a))) (hs : ∀ a x xs, I a (x :: xs) → FTurnR body enc hh Out I a x xs) :
    ∀ (xs : List D) (a : α), I a xs → Out a xs (forL body xs (enc a) (hh a)) := by
  intro xs
  induction xs with
  | nil => intro a i; rw [forL_nil]; exact h0 a i
  | cons x xs ih =>
    intro a i
    rw [forL_cons]
    cases hs a x xs i with
    | ret d h' e1 e2 => rw [e1, forK_rt]; exact e2
    | next b e1 i' e2 => rw [e1, forK_nx]; exact e2 _ (ih b i')
theorem for_rel {α : Type} {body : D → Sg → Hh → SR} {xs : List D} {σ : Sg} {h : Hh} {rr : SR} (hR : forL body xs σ h = rr) (enc : α → Sg) (hh : α → Hh) (Out : α → List D → SR → Prop) (I : α → List D → Prop)
    (h0 : ∀ a, I a [] → Out a [] (.nx (enc a) (hh a))) (hs : ∀ a x xs, I a (x :: xs) → FTurnR body enc hh Out I a x xs) (a : α) (e1 : σ = enc a) (e2 : h = hh a) (i : I a xs) : Out a xs rr := by
  subst e1 e2
  subst hR
  exact for_goR h0 hs xs a i
def sub (t : Tx) (a b : Nat) : Tx := (t.drop a).take (b - a)
@[simp] theorem isMem_tup {h : Hh} {d : D} {xs : List D} : isMem h d (.tup xs) = if scalar d && xs.all scalar then some (xs.any fun y => y.eqv d) else none := rfl
@[simp] theorem isMem_lst {h : Hh} {d : D} {xs : List D} : isMem h d (.lst xs) = if scalar d && xs.all scalar then some (xs.any fun y => y.eqv d) else none := rfl
@[simp] theorem sc_str {t : Tx} : scalar (.str t) = true := rfl
@[simp] theorem sc_int {i : Int} : scalar (.int i) = true := rfl
@[simp] theorem sc_non : scalar .non = true := rfl
@[simp] theorem sc_bl {b : Bool} : scalar (.bl b) = true := rfl
end Pl
end
section
namespace Pl
open Fw
variable {σ : Sg} {h : Hh} {a b : TM} {x : Exn} {d : D} {ts : List TM}
@[simp] theorem sBad_eq : sBad σ h = .bad := (rfl)
@[simp] theorem back_xn0 {h hc : Hh} {c : Nat} : back [] h (.xn ⟨c, none⟩ σ hc) = .xn ⟨c, none⟩ h := (rfl)
end Pl
end
section
namespace Pl
open Fw
abbrev FIG : Tx := [48, 49, 50, 51, 52, 53, 54, 55, 56, 57]
abbrev LET : Tx := [97, 98, 99, 100, 101, 102, 103, 104, 105, 106, 107, 108, 109, 110, 111, 112, 113, 114, 115, 116, 117, 118, 119, 120, 121, 122]
def endOf (t : Tx) (p : Nat) (ss : Tx) : Nat := p + ((t.drop p).takeWhile fun c => decide (c ∈ ss)).length
theorem drop_at {t : Tx} {p c : Nat} (h : t[p]? = some c) : t.drop p = c :: t.drop (p + 1) := by
  obtain ⟨hp, rfl⟩ := List.getElem?_eq_some_iff.mp h
  exact List.drop_eq_getElem_cons hp
theorem drop_none {t : Tx} {p : Nat} (h : t[p]? = none) : t.drop p = [] := List.drop_of_length_le (List.getElem?_eq_none_iff.mp h)
theorem endOf_end {t ss : Tx} {p : Nat} (h : t[p]? = none) : endOf t p ss = p := by
  unfold endOf
  rw [drop_none h]
  rfl
theorem tw_len {α : Type} (f : α → Bool) : ∀ l : List α, (l.takeWhile f).length ≤ l.length
  | [] => Nat.le_refl _
  | x :: l => by
    have := tw_len f l
    rw [List.takeWhile_cons]
    split <;> simp <;> omega
theorem endOf_le {t : Tx} {p : Nat} (ss : Tx) (h : p ≤ t.length) : endOf t p ss ≤ t.length := by
  have := tw_len (fun c => decide (c ∈ ss)) (t.drop p)
  simp at this
  unfold endOf
  simp
  omega
theorem tw_mem {α : Type} {f : α → Bool} : ∀ {l : List α} {x : α}, x ∈ l.takeWhile f → f x = true
  | y :: l, x, h => by
    rw [List.takeWhile_cons] at h
    split at h
    · rename_i q
      rcases List.mem_cons.mp h with rfl | h
      · exact q
      · exact tw_mem h
    · cases h
theorem tw_take {α : Type} (f : α → Bool) : ∀ l : List α, l.take (l.takeWhile f).length = l.takeWhile f
  | [] => rfl
  | y :: l => by
    rw [List.takeWhile_cons]
    split
    · simp [tw_take f l]
    · rfl
theorem sub_endOf (t : Tx) (p : Nat) (ss : Tx) : sub t p (endOf t p ss) = (t.drop p).takeWhile fun c => decide (c ∈ ss) := by
  unfold sub endOf
  rw [Nat.add_sub_cancel_left, tw_take]
theorem sub_endOf_mem {t ss : Tx} {p c : Nat} (h : c ∈ sub t p (endOf t p ss)) : c ∈ ss := by
  rw [sub_endOf] at h
  simpa using tw_mem h
theorem sub_endOf_len (t : Tx) (p : Nat) (ss : Tx) : (sub t p (endOf t p ss)).length = endOf t p ss - p := by
  rw [sub_endOf]
  unfold endOf
  omega
def figs (t : Tx) (p : Nat) : Option (Int × Nat) :=
  if (1 ≤ endOf t p FIG - p ∧ endOf t p FIG - p ≤ 30) ∧ ¬ (t[p]? = some 48 ∧ p + 1 < endOf t p FIG) then some ((PySem.NumText.digitsVal (sub t p (endOf t p FIG)) : Nat), endOf t p FIG) else none
theorem dv_lt : ∀ (cs : Tx) (a k : Nat), a < 10 ^ k → (∀ c ∈ cs, c ≤ 57) → cs.foldl (fun acc c => acc * 10 + (c - 48)) a < 10 ^ (k + cs.length)
  | [], a, k, h, _ => h
  | c :: cs, a, k, h, hc => by
    have := dv_lt cs (a * 10 + (c - 48)) (k + 1) (by
      have := hc c List.mem_cons_self
      rw [Nat.pow_succ]
      omega) fun x hx => hc x (List.mem_cons_of_mem _ hx)
    simp only [List.foldl_cons, List.length_cons]
    rwa [show k + (cs.length + 1) = k + 1 + cs.length by omega]
theorem figs_ok {t : Tx} {p e : Nat} {i : Int} (hp : p ≤ t.length) (h : figs t p = some (i, e)) : p < e ∧ e ≤ t.length ∧ 0 ≤ i ∧ i < 10 ^ 30 := by
  unfold figs at h
  split at h
  · rename_i q
    cases h
    have hl := sub_endOf_len t p FIG
    refine ⟨by omega, endOf_le _ hp, by omega, ?_⟩
    have := dv_lt (sub t p (endOf t p FIG)) 0 0 (by decide) (by
      intro c hc
      have := sub_endOf_mem hc
      simp at this
      omega)
    have h2 : (10 : Nat) ^ (0 + (sub t p (endOf t p FIG)).length) ≤ 10 ^ 30 := Nat.pow_le_pow_right (by decide) (by omega)
    have h3 : PySem.NumText.digitsVal (sub t p (endOf t p FIG)) < 10 ^ 30 := Nat.lt_of_lt_of_le this h2
    exact_mod_cast h3
  · cases h
def wordAt (t : Tx) (p : Nat) : Option (Tx × Nat) :=
  if 1 ≤ endOf t p LET - p ∧ endOf t p LET - p ≤ 8 then some (sub t p (endOf t p LET), endOf t p LET) else none
theorem wordAt_ok {t w : Tx} {p e : Nat} (hp : p ≤ t.length) (h : wordAt t p = some (w, e)) : e = p + w.length ∧ 1 ≤ w.length ∧ w.length ≤ 8 ∧ e ≤ t.length ∧ ∀ c ∈ w, 97 ≤ c ∧ c ≤ 122 := by
  unfold wordAt at h
  split at h
  · rename_i q
    cases h
    have hl := sub_endOf_len t p LET
    refine ⟨by omega, by omega, by omega, endOf_le _ hp, ?_⟩
    intro c hc
    have := sub_endOf_mem hc
    simp at this
    omega
  · cases h
def numAt (t : Tx) (p : Nat) : Option (Vl × Nat) := match figs t p with
  | none => none
  | some (i, e) => if t[e]? ≠ some 58 ∨ endOf t (e + 1) FIG = e + 1 then some (.int i, e) else
    match figs t (e + 1) with
    | none => none
    | some (j, f) => if 99 < j ∨ ¬ (1 ≤ i ∧ i ≤ 200) then none else some (.to i j, f)
def strL (t : Tx) : Nat → Nat → Tx → Option (Tx × Nat)
  | 0, _, _ => none
  | n + 1, at_, found => match t[at_]? with
    | none => none
    | some c => if c = 41 then some (found, at_ + 1) else if c = 40 then none else if c = 92 then
        match t[at_ + 1]? with
        | some d => if d = 40 ∨ d = 41 ∨ d = 92 then strL t n (at_ + 2) (found ++ [d]) else none
        | none => none
      else if 32 ≤ c ∧ c ≤ 126 then strL t n (at_ + 1) (found ++ [c]) else none
theorem strL_fuel (t : Tx) : ∀ (n m a : Nat) (f : Tx), t.length < n + a → t.length < m + a → strL t n a f = strL t m a f
  | 0, 0, _, _, _, _ => rfl
  | 0, m + 1, a, f, h, _ => by
    have : t[a]? = none := List.getElem?_eq_none (by omega)
    simp [strL, this]
  | n + 1, 0, a, f, _, h => by
    have : t[a]? = none := List.getElem?_eq_none (by omega)
    simp [strL, this]
  | n + 1, m + 1, a, f, h1, h2 => by
    simp only [strL]
    have q1 : ∀ f, strL t n (a + 1) f = strL t m (a + 1) f := fun f => strL_fuel t n m (a + 1) f (by omega) (by omega)
    have q2 : ∀ f, strL t n (a + 2) f = strL t m (a + 2) f := fun f => strL_fuel t n m (a + 2) f (by omega) (by omega)
    simp only [q1, q2]
def strS (t : Tx) (a : Nat) (f : Tx) : Option (Tx × Nat) := strL t (t.length + 1) a f
theorem strS_some {t : Tx} {a c : Nat} {f : Tx} (e : t[a]? = some c) : strS t a f = if c = 41 then some (f, a + 1) else if c = 40 then none else if c = 92 then
        (match t[a + 1]? with
        | some d => if d = 40 ∨ d = 41 ∨ d = 92 then strS t (a + 2) (f ++ [d]) else none
        | none => none)
      else if 32 ≤ c ∧ c ≤ 126 then strS t (a + 1) (f ++ [c]) else none := by
  have ha := (List.getElem?_eq_some_iff.mp e).1
  unfold strS
  conv => lhs; unfold strL
  rw [e]
  have q1 : ∀ f, strL t t.length (a + 1) f = strL t (t.length + 1) (a + 1) f := fun f => strL_fuel t _ _ (a + 1) f (by omega) (by omega)
  have q2 : ∀ f, strL t t.length (a + 2) f = strL t (t.length + 1) (a + 2) f := fun f => strL_fuel t _ _ (a + 2) f (by omega) (by omega)
  simp only [q1, q2]
theorem strL_ok {t : Tx} : ∀ {n a : Nat} {f s : Tx} {e : Nat}, strL t n a f = some (s, e) → f.length ≤ s.length ∧ a < e ∧ e ≤ t.length ∧ s.length + a + 1 ≤ f.length + e ∧ ∀ c ∈ s, c ∈ f ∨ (32 ≤ c ∧ c ≤ 126)
  | n + 1, a, f, s, e, h => by
    simp only [strL] at h
    cases hc : t[a]? with
    | none => rw [hc] at h; cases h
    | some c =>
      have ha := (List.getElem?_eq_some_iff.mp hc).1
      rw [hc] at h
      dsimp only at h
      by_cases h1 : c = 41
      · rw [if_pos h1] at h
        cases h
        exact ⟨Nat.le_refl _, by omega, by omega, by omega, fun c hc => .inl hc⟩
      rw [if_neg h1] at h
      by_cases h2 : c = 40
      · rw [if_pos h2] at h; cases h
      rw [if_neg h2] at h
      by_cases h3 : c = 92
      · rw [if_pos h3] at h
        cases hd : t[a + 1]? with
        | none => rw [hd] at h; cases h
        | some d =>
          rw [hd] at h
          dsimp only at h
          split at h
          · rename_i hd'
            have := strL_ok h
            simp at this
            refine ⟨by omega, by omega, by omega, by omega, fun c hc => ?_⟩
            rcases this.2.2.2.2 c hc with (q | q) | q
            · exact .inl q
            · subst q; right; omega
            · exact .inr q
          · cases h
      rw [if_neg h3] at h
      split at h
      · rename_i hc'
        have := strL_ok h
        simp at this
        refine ⟨by omega, by omega, by omega, by omega, fun c hc => ?_⟩
        rcases this.2.2.2.2 c hc with (q | q) | q
        · exact .inl q
        · subst q; exact .inr hc'
        · exact .inr q
      · cases h
def strAt (t : Tx) (p : Nat) : Option (Vl × Nat) := match strS t (p + 1) [] with
  | none => none
  | some (s, e) => if s.length ≤ 200 then some (.str s, e) else none
def rowL (P : Nat → Option (Vl × Nat)) (t : Tx) : Nat → Nat → List Vl → Option (List Vl × Nat)
  | 0, _, _ => none
  | n + 1, at_, found => match P at_ with
    | none => none
    | some (v, e) => if t[e]? = some 93 then some (found ++ [v], e + 1) else if t[e]? = some 32 then rowL P t n (e + 1) (found ++ [v]) else none
def rowAt (P : Nat → Option (Vl × Nat)) (t : Tx) (p : Nat) : Option (List Vl × Nat) :=
  if t[p + 1]? = some 93 then some ([], p + 2) else rowL P t 60 (p + 1) []
def entAt (P : Nat → Option (Vl × Nat)) (t : Tx) (p : Nat) : Option ((Tx × Vl) × Nat) := match wordAt t p with
  | none => none
  | some (w, e) => if t[e]? = some 32 then match P (e + 1) with
    | none => none
    | some (v, f) => some ((w, v), f)
    else none
def stuck (found : Es) (w : Tx) : Bool := match found.getLast? with
  | none => false
  | some l => !decide (l.1 < w)
def entL (P : Nat → Option (Vl × Nat)) (t : Tx) : Nat → Nat → Es → Option (Es × Nat)
  | 0, _, _ => none
  | n + 1, at_, found => match entAt P t at_ with
    | none => none
    | some (x, e) => if stuck found x.1 then none else if t[e]? = some 62 then some (found ++ [x], e + 1) else if t[e]? = some 32 then entL P t n (e + 1) (found ++ [x]) else none
def tabAt (P : Nat → Option (Vl × Nat)) (t : Tx) (p : Nat) : Option (Es × Nat) :=
  if t[p + 1]? = some 62 then some ([], p + 2) else entL P t 30 (p + 1) []
def isNone (t : Tx) (p : Nat) : Bool := decide (sub t p (p + 4) = [110, 111, 110, 101]) && decide (endOf t p LET = p + 4)
def plainStep (t : Tx) (inner : Option (Nat → Option (Vl × Nat))) (p : Nat) : Option (Vl × Nat) :=
  if isNone t p then some (.non, p + 4) else match t[p]? with
    | some 45 => (match figs t (p + 1) with
      | none => none
      | some (i, e) => if i = 0 then none else some (.int (0 - i), e))
    | some 40 => strAt t p
    | some 47 => (wordAt t (p + 1)).map fun q => (.name q.1, q.2)
    | some 91 => inner.bind fun P => (rowAt P t p).map fun q => (.row q.1, q.2)
    | some 60 => inner.bind fun P => (tabAt P t p).map fun q => (.table q.1, q.2)
    | _ => numAt t p
def plainAt (t : Tx) : Nat → Nat → Option (Vl × Nat)
  | 0 => plainStep t none
  | k + 1 => plainStep t (some (plainAt t k))
abbrev STREAM : Tx := [10, 115, 116, 114, 101, 97, 109, 32]
def valueAt (t : Tx) (p : Nat) : Option (Vl × Nat) := match plainAt t 30 p with
  | none => none
  | some (v, e) => if t[p]? ≠ some 60 ∨ sub t e (e + 8) ≠ STREAM then some (v, e) else
    match figs t (e + 8) with
    | none => none
    | some (n, b) => if 2000 < n ∨ t[b]? ≠ some 10 ∨ (t.length : Int) < b + 1 + n ∨ ¬ ((sub t (b + 1) (b + 1 + n.toNat)).all fun c => decide (32 ≤ c ∧ c ≤ 126) || decide (c = 10)) then none else
      match v with
      | .table es => some (.stream es (sub t (b + 1) (b + 1 + n.toNat)), b + 1 + n.toNat)
      | _ => none
end Pl
end
section
namespace Lw
open Fw Pl
end Lw
end
section
namespace Lw
open Fw Pl
end Lw
end
section
namespace Lw
open Fw Pl
end Lw
end
section
namespace Lw
open Fw Pl
@[simp] theorem dAll_len (vs : List Vl) : (dAll vs).length = vs.length := by simp [dAll_map]
@[simp] theorem dEnt_len (vs : Es) : (dEnt vs).length = vs.length := by simp [dEnt_map]
end Lw
end
section
namespace Lw
open Fw Pl
end Lw
end
section
namespace Pl
open Fw
def InP (t : Tx) (P : Nat → Option (Vl × Nat)) : Prop := ∀ p v e, P p = some (v, e) → p < e ∧ e ≤ t.length
theorem figs_in {t : Tx} {p e : Nat} {i : Int} (h : figs t p = some (i, e)) : p < e ∧ e ≤ t.length ∧ 0 ≤ i ∧ i < 10 ^ 30 := by
  refine figs_ok ?_ h
  rcases Nat.le_total p t.length with q | q
  · exact q
  · have := endOf_end (t := t) (p := p) (ss := FIG) (List.getElem?_eq_none q)
    unfold figs at h
    rw [this, if_neg (by omega)] at h
    cases h
theorem wordAt_in {t w : Tx} {p e : Nat} (h : wordAt t p = some (w, e)) : e = p + w.length ∧ 1 ≤ w.length ∧ w.length ≤ 8 ∧ e ≤ t.length ∧ ∀ c ∈ w, 97 ≤ c ∧ c ≤ 122 := by
  refine wordAt_ok ?_ h
  rcases Nat.le_total p t.length with q | q
  · exact q
  · have := endOf_end (t := t) (p := p) (ss := LET) (List.getElem?_eq_none q)
    unfold wordAt at h
    rw [this, if_neg (by omega)] at h
    cases h
theorem lt_of_at {t : Tx} {p c : Nat} (h : t[p]? = some c) : p < t.length := (List.getElem?_eq_some_iff.mp h).1
theorem rowL_in {P : Nat → Option (Vl × Nat)} {t : Tx} (I : InP t P) : ∀ {n a : Nat} {f vs : List Vl} {e : Nat}, rowL P t n a f = some (vs, e) → a < e ∧ e ≤ t.length
  | n + 1, a, f, vs, e, h => by
    simp only [rowL] at h
    cases hP : P a with
    | none => rw [hP] at h; cases h
    | some z =>
      obtain ⟨v, g⟩ := z
      have i := I a v g hP
      rw [hP] at h
      dsimp only at h
      split at h
      · rename_i c
        cases h
        have := lt_of_at c
        omega
      · split at h
        · have := rowL_in I h
          omega
        · cases h
theorem entAt_in {P : Nat → Option (Vl × Nat)} {t : Tx} (I : InP t P) {p e : Nat} {x : Tx × Vl} (h : entAt P t p = some (x, e)) : p + x.1.length + 1 < e ∧ e ≤ t.length := by
  unfold entAt at h
  cases hw : wordAt t p with
  | none => rw [hw] at h; cases h
  | some z =>
    obtain ⟨w, g⟩ := z
    have := wordAt_in hw
    rw [hw] at h
    dsimp only at h
    split at h
    · cases hP : P (g + 1) with
      | none => rw [hP] at h; cases h
      | some z =>
        obtain ⟨v, k⟩ := z
        have i := I _ v k hP
        rw [hP] at h
        cases h
        simp only
        omega
    · cases h
theorem entL_in {P : Nat → Option (Vl × Nat)} {t : Tx} (I : InP t P) : ∀ {n a : Nat} {f vs : Es} {e : Nat}, entL P t n a f = some (vs, e) → a < e ∧ e ≤ t.length
  | n + 1, a, f, vs, e, h => by
    simp only [entL] at h
    cases hP : entAt P t a with
    | none => rw [hP] at h; cases h
    | some z =>
      obtain ⟨v, g⟩ := z
      have i := entAt_in I hP
      rw [hP] at h
      dsimp only at h
      split at h
      · cases h
      split at h
      · rename_i c
        cases h
        have := lt_of_at c
        omega
      · split at h
        · have := entL_in I h
          omega
        · cases h
theorem numAt_in {t : Tx} {p e : Nat} {v : Vl} (h : numAt t p = some (v, e)) : p < e ∧ e ≤ t.length := by
  unfold numAt at h
  cases hf : figs t p with
  | none => rw [hf] at h; cases h
  | some z =>
    obtain ⟨i, g⟩ := z
    have q := figs_in hf
    rw [hf] at h
    dsimp only at h
    split at h
    · cases h
      omega
    · cases hb : figs t (g + 1) with
      | none => rw [hb] at h; cases h
      | some z =>
        obtain ⟨j, k⟩ := z
        have q' := figs_in hb
        rw [hb] at h
        dsimp only at h
        split at h
        · cases h
        · cases h
          omega
theorem isNone_in {t : Tx} {p : Nat} (h : isNone t p = true) : t[p]? = some 110 ∧ p + 4 ≤ t.length := by
  simp only [isNone, Bool.and_eq_true, decide_eq_true_eq] at h
  have h1 := h.1
  have hl := congrArg List.length h1
  simp [sub] at hl
  have : p + 4 ≤ t.length := by omega
  refine ⟨?_, this⟩
  have := congrArg (fun l : Tx => l[0]?) h1
  simp [sub] at this
  exact this
theorem plainStep_in {t : Tx} {inner : Option (Nat → Option (Vl × Nat))} (I : ∀ P, inner = some P → InP t P) : InP t (plainStep t inner) := by
  intro p v e h
  unfold plainStep at h
  split at h
  · rename_i hn
    have := isNone_in hn
    cases h
    omega
  split at h
  · rename_i c
    have := lt_of_at c
    cases hf : figs t (p + 1) with
    | none => rw [hf] at h; cases h
    | some z =>
      obtain ⟨i, g⟩ := z
      have q := figs_in hf
      rw [hf] at h
      dsimp only at h
      split at h
      · cases h
      · cases h; omega
  · rename_i c
    have := lt_of_at c
    unfold strAt at h
    cases hs : strS t (p + 1) [] with
    | none => rw [hs] at h; cases h
    | some z =>
      obtain ⟨s, g⟩ := z
      have q := strL_ok hs
      rw [hs] at h
      dsimp only at h
      split at h
      · cases h
        omega
      · cases h
  · obtain ⟨z, hz, e1⟩ := Option.map_eq_some_iff.mp h
    obtain ⟨w, g⟩ := z
    have q := wordAt_in hz
    cases e1
    simp only
    omega
  · rename_i c
    have := lt_of_at c
    cases inner with
    | none => cases h
    | some P =>
      obtain ⟨z, hz, e1⟩ := Option.map_eq_some_iff.mp h
      obtain ⟨w, g⟩ := z
      cases e1
      unfold rowAt at hz
      split at hz
      · rename_i c'
        cases hz
        have := lt_of_at c'
        simp only
        omega
      · have := rowL_in (I P rfl) hz
        simp only
        omega
  · rename_i c
    have := lt_of_at c
    cases inner with
    | none => cases h
    | some P =>
      obtain ⟨z, hz, e1⟩ := Option.map_eq_some_iff.mp h
      obtain ⟨w, g⟩ := z
      cases e1
      unfold tabAt at hz
      split at hz
      · rename_i c'
        cases hz
        have := lt_of_at c'
        simp only
        omega
      · have := entL_in (I P rfl) hz
        simp only
        omega
  · exact numAt_in h
theorem plainAt_in (t : Tx) : ∀ k, InP t (plainAt t k)
  | 0 => plainStep_in fun P h => nomatch h
  | k + 1 => plainStep_in fun P h => by cases h; exact plainAt_in t k
end Pl
end
section
namespace Lw
open Fw Pl
theorem asBools_map (bs : List Bool) : asBools (bs.map .bl) = some bs := by
  induction bs with
  | nil => rfl
  | cons b bs ih => simp [asBools, ih]
end Lw
end
section
namespace Lw
open Fw Pl
mutual
def D.fine : D → Bool
  | .obj _ _ => false
  | .fn _ => false
  | .ref _ => false
  | .roi _ => false
  | .str s => decide (s.length ≤ 1000000)
  | .tup xs => decide (xs.length ≤ 1000000) && fineAll xs
  | .lst xs => decide (xs.length ≤ 1000000) && fineAll xs
  | .dct kvs => fineK kvs
  | _ => true
def fineAll : List D → Bool
  | [] => true
  | x :: xs => D.fine x && fineAll xs
def fineK : List (K1 × D) → Bool
  | [] => true
  | x :: xs => D.fine x.2 && fineK xs
end
theorem allD_map {α : Type} {h : Hh} (g : α → Bool) (xs : List α) : allD h (.lst (xs.map fun x => .bl (g x))) = some (.bl (xs.all g)) := by
  have e : (xs.map fun x => D.bl (g x)) = (xs.map g).map .bl := by rw [List.map_map]; rfl
  rw [e]
  simp only [allD, asLst_lst, Option.bind_some, asBools_map, Option.map_some, List.all_map]
  rfl
end Lw
end
section
namespace Lw
open Fw Pl
end Lw
end
section
namespace Lw
open Fw Pl
mutual
def D.dep : D → Nat
  | .tup xs => depAll xs + 1
  | _ => 0
def depAll : List D → Nat
  | [] => 0
  | x :: xs => max (D.dep x) (depAll xs)
end
mutual
theorem pl_fine : ∀ v : Vl, v.pl → D.fine v.d = true
  | .non, _ => rfl
  | .int _, _ => rfl
  | .str s, h => by
    have := h.1
    simp [Vl.d, D.fine]; omega
  | .name s, h => by
    have := h.2.1
    simp [Vl.d, D.fine, fineAll]; omega
  | .to _ _, _ => by simp [Vl.d, D.fine, fineAll]
  | .row vs, h => by
    have := h.1
    have := plAll_fine vs h.2
    simp [Vl.d, D.fine, fineAll, dAll_map] at this ⊢
    exact ⟨by omega, this⟩
  | .table es, h => by
    have := h.1
    have := plEnt_fine es h.2.2
    simp [Vl.d, D.fine, fineAll, dEnt_map] at this ⊢
    exact ⟨by omega, this⟩
  | .stream _ _, h => h.elim
theorem plAll_fine : ∀ vs : List Vl, plAll vs → fineAll (dAll vs) = true
  | [], _ => rfl
  | v :: vs, h => by simp [dAll, fineAll, pl_fine v h.1, plAll_fine vs h.2]
theorem plEnt_fine : ∀ es : Es, plEnt es → fineAll (dEnt es) = true
  | [], _ => rfl
  | e :: es, h => by
    have := h.1.2.1
    simp [dEnt, fineAll, D.fine, pl_fine e.2 h.2.1, plEnt_fine es h.2.2]
    omega
end
end Lw
end
section
namespace Lw
open Fw Pl
def entT (w : Tx) (es : Es) : D := match getE w es with
  | some v => .tup [.bl true, v.d]
  | none => .tup [.bl false, .non]
theorem getE_cons (w : Tx) (e : Tx × Vl) (es : Es) : getE w (e :: es) = if e.1 = w then some e.2 else getE w es := by
  by_cases h : e.1 = w <;> simp [getE, h]
theorem r_entry (F n : Nat) (es : Es) (w : Tx) (a : D) (h : Hh) (ca : a.closed = true) : run F (n + 1) ix_entry_of [.tup [a, .tup (dEnt es)], .str w] h = .ok (entT w es) h := by
  have x1 : ixn 2 1 = some 1 := rfl
  have ce : closedAll (dEnt es) = true := dEnt_closed es
  rw [run_entry_of, own_closed (np := 2) (by simp [ca, ce]) rfl]
  simp [b_entry_of, startD, x1]
  generalize hR : forL _ _ _ _ = rr
  have key := for_rel hR (fun q : Option D × Option D => [some (.tup [a, .tup (dEnt es)]), some (.str w), q.1, q.2]) (fun _ => [])
    (fun q ys r => ∀ es', ys = dEnt es' → match getE w es' with
      | some v => r = .rt (.tup [.bl true, v.d]) []
      | none => ∃ σ, r = .nx σ []) (fun _ ys => ∃ es', ys = dEnt es') (by
      rintro q - es' e
      cases es' with
      | nil => exact ⟨_, rfl⟩
      | cons e' es' => cases e) (by
      rintro q y ys ⟨es', e⟩
      cases es' with
      | nil => cases e
      | cons e' es' =>
        simp only [dEnt, List.cons.injEq] at e
        obtain ⟨rfl, rfl⟩ := e
        by_cases hw : e'.1 = w
        · refine .ret (.tup [.bl true, e'.2.d]) [] (by simp [hw]) ?_
          intro es2 e2
          cases es2 with
          | nil => cases e2
          | cons e3 es3 =>
            simp only [dEnt, List.cons.injEq, D.tup.injEq, D.str.injEq, and_true] at e2
            obtain ⟨⟨q1, q2⟩, q3⟩ := e2
            rw [getE_cons, if_pos (q1 ▸ hw)]
            simp [q2]
        · refine .next (some (.str e'.1), some e'.2.d) (by simp [hw]) ⟨es', rfl⟩ ?_
          intro r hr es2 e2
          cases es2 with
          | nil => cases e2
          | cons e3 es3 =>
            simp only [dEnt, List.cons.injEq, D.tup.injEq, D.str.injEq, and_true] at e2
            obtain ⟨⟨q1, q2⟩, q3⟩ := e2
            rw [getE_cons, if_neg (q1 ▸ hw)]
            exact hr es3 q3) (none, none) (by rfl) rfl ⟨es, rfl⟩ es rfl
  unfold entT
  cases hg : getE w es with
  | some v =>
    rw [hg] at key
    dsimp only at key
    subst key
    simp
  | none =>
    rw [hg] at key
    obtain ⟨σ, rfl⟩ := key
    simp
end Lw
end
section
namespace Lw
open Fw Pl
section
variable {σ : Sg} {h : Hh} {a b : TM} {g : G} {s : SM} {i : Nat}
@[simp] theorem noXS_nx {σ : Sg} : noXS (.nx σ h) = .nx σ h := (rfl)
@[simp] theorem noXS_rt {d : D} : noXS (.rt d h) = .rt d h := (rfl)
@[simp] theorem keyD_int {n : Int} : keyD (.inl n) = .int n := (rfl)
end
end Lw
end
section
namespace Lw
open Fw Pl
section
variable {σ : Sg} {h : Hh} {a b c : TM} {as ks : AM} {d e : D} {s : SM} {x : Exn}
def newO1 (o : Option O) (h : Hh) : R D := match o with
  | some o => .ok (.ref h.length) (h ++ [o])
  | none => .bad
@[simp] theorem newO1_some {o : O} : newO1 (some o) h = .ok (.ref h.length) (h ++ [o]) := (rfl)
def kNewO (g : Hh → D → Option O) (r : R D) : R D := r.bind fun d h => newO1 (g h d) h
@[simp] theorem kNewO_eq {g : Hh → D → Option O} : eNewO g a σ h = kNewO g (a σ h) := (rfl)
@[simp] theorem kNewO_ok {g : Hh → D → Option O} : kNewO g (.ok d h) = newO1 (g h d) h := (rfl)
def kLcNE (r : R (List D)) : R D := r.bind fun ys h => .ok (.ref h.length) (h ++ [.lst ys])
@[simp] theorem kLcNE_ok {ys : List D} : kLcNE (.ok ys h) = .ok (.ref h.length) (h ++ [.lst ys]) := (rfl)
def kLcN (a : TM) (g : G) (p : BM) (ow : List Nat) (σ : Sg) (r : R (List D)) : R D := r.bind fun xs h => kLcNE (noX (lcL (lcStep a g p ow σ) xs [] h))
@[simp] theorem kLcN_eq {g : G} {it : It} {p : BM} {ow : List Nat} : eLcN a g it as p ow σ h = kLcN a g p ow σ (itM it as σ h) := (rfl)
@[simp] theorem kLcN_ok {g : G} {p : BM} {ow : List Nat} {xs : List D} : kLcN a g p ow σ (.ok xs h) = kLcNE (noX (lcL (lcStep a g p ow σ) xs [] h)) := (rfl)
theorem unrod_at {n : Nat} {kvs : List (K1 × D)} (h2 : h[n]? = some (.rod kvs)) : unrod n h = some (h.set n (.dct kvs)) := by
  unfold unrod
  rw [h2]
theorem unrodS_nx {n : Nat} {kvs : List (K1 × D)} (h2 : h[n]? = some (.rod kvs)) : unrodS n (.nx σ h) = .nx σ (h.set n (.dct kvs)) := by
  simp only [unrodS, unrod_at h2]
end
end Lw
end
section
namespace Lw
open Fw Pl
def isTab : Vl → Bool
  | .table _ => true
  | _ => false
theorem r_is_table (F n : Nat) (v : Vl) (h : Hh) : run F (n + 1) ix_is_table [v.d] h = .ok (.bl (isTab v)) h := by
  rw [run_is_table, own_closed (np := 1) (by simp) rfl]
  have x2 : ixn 2 0 = some 0 := rfl
  have x3 : ixn 3 0 = some 0 := rfl
  cases v <;> simp [b_is_table, startD, Vl.d, isT, ty1, isOf, isTab, x2, x3]
theorem r_first_node (F n : Nat) (es : Es) (h : Hh) {k e : Nat} (hk : 1 ≤ k ∧ k ≤ 200) (he : e ≤ 99) (hg : getE [112, 97, 103, 101, 115] es = some (.to k e)) : run F (n + 5) ix_first_node [(Vl.table es).d] h = .ok (Vl.to k e).d h := by
  rw [run_first_node, own_closed (np := 1) (by simp) rfl]
  have e1 : ∀ h, run F (n + 4) ix_is_table [(Vl.table es).d] h = .ok (.bl true) h := fun h => r_is_table F (n + 3) (.table es) h
  have e2 : ∀ h, run F (n + 4) ix_entry_of [(Vl.table es).d, .str [112, 97, 103, 101, 115]] h = .ok (.tup [.bl true, (Vl.to k e).d]) h := fun h => by
    have := r_entry F (n + 3) es [112, 97, 103, 101, 115] (.str wTable) h (by simp)
    rw [entT, hg] at this
    exact this
  have e3 : ∀ h, run F (n + 4) ix_is_reference [(Vl.to k e).d] h = .ok (.bl true) h := fun h => by
    have := r_isref F n (Vl.to k e).d h (by simp)
    rw [this]
    simp [Vl.d, isTo, kindD, fromD]
    omega
  simp [b_first_node, startD, e1, e2, e3]
def mergeE (acc es : Es) : Es := es.foldl (fun acc e => putE e.1 e.2 acc) acc
theorem mergeP_kvE : ∀ (es acc : Es), mergeP (kvE acc) (kvE es) = kvE (mergeE acc es)
  | [], acc => rfl
  | e :: es, acc => by
    have := mergeP_kvE es (putE e.1 e.2 acc)
    simp only [mergeP, mergeE, kvE, List.map_cons, List.foldl_cons] at this ⊢
    rw [show put (.inr e.1) e.2.d (acc.map fun e => (Sum.inr e.1, e.2.d)) = kvE (putE e.1 e.2 acc) from put_kvE e.1 e.2 acc]
    exact this
theorem asPairs_dEnt : ∀ es : Es, asPairs (dEnt es) = some (kvE es)
  | [] => rfl
  | e :: es => by simp [dEnt, asPairs, pairK, key1, asPairs_dEnt es, kvE]
theorem mergeE_nodup : ∀ (es acc : Es), (acc.map (·.1)).Nodup → ((mergeE acc es).map (·.1)).Nodup
  | [], acc, h => h
  | e :: es, acc, h => mergeE_nodup es _ (putE_nodup h)
theorem mergeE_len : ∀ (es acc : Es), (mergeE acc es).length ≤ acc.length + es.length
  | [], acc => by simp [mergeE]
  | e :: es, acc => by
    have h1 := mergeE_len es (putE e.1 e.2 acc)
    have h2 := putE_len (w := e.1) (v := e.2) (es := acc)
    simp only [mergeE, List.foldl_cons, List.length_cons] at h1 ⊢
    omega
theorem r_first_of (F n : Nat) (e : Tx × Vl) (h : Hh) : run F (n + 1) ix_first_of [.tup [.str e.1, e.2.d]] h = .ok (.str e.1) h := by
  have x2 : ixn 2 0 = some 0 := rfl
  rw [run_first_of, own_closed (np := 1) (by simp) rfl]
  simp [b_first_of, startD, x2]
theorem keys_first (F n : Nat) (h : Hh) : ∀ es : Es, keysM (run F (n + 1) ix_first_of) (itemsL (kvE es)) h = .ok (es.map fun e => .str e.1) h
  | [] => rfl
  | e :: es => by
    have := keys_first F n h es
    simp only [itemsL, kvE, List.map_cons, List.map_map, keysM] at this ⊢
    rw [show run F (n + 1) ix_first_of [D.tup [unkey (.inr e.1), e.2.d]] h = .ok (.str e.1) h from r_first_of F n e h]
    simp only [R.bind_ok]
    rw [this]
    rfl
theorem keys_ok (es : Es) : keysOk (es.map fun e => D.str e.1) = true := by
  have : strAll (es.map fun e => D.str e.1) = true := by
    induction es with
    | nil => rfl
    | cons e es ih => simp [strAll, ih]
  simp [keysOk, this]
theorem sortKE_first (F n : Nat) (h : Hh) {es : Es} (hn : (es.map (·.1)).Nodup) : sortKE (run F (n + 1) ix_first_of) (itemsL (kvE es)) h = .ok (.lst (dEnt (sortE es))) h := by
  unfold sortKE
  rw [keys_first, noX_ok, R.bind_ok, if_pos (keys_ok es), sortK_words hn]
end Lw
end
section
namespace Lw
open Fw Pl
def sk1 (c : List D → Hh → R D) (o : Option (List (K1 × D))) (h : Hh) : R D := match o with
  | some kvs => sortKE c (itemsL kvs) h
  | none => .bad
@[simp] theorem sk1_some {c : List D → Hh → R D} {kvs : List (K1 × D)} {h : Hh} : sk1 c (some kvs) h = sortKE c (itemsL kvs) h := (rfl)
def kSki (c : List D → Hh → R D) (r : R D) : R D := r.bind fun d h => sk1 c (asDct h d) h
theorem kSki_eq' {c : List D → Hh → R D} {a : TM} {σ : Sg} {h : Hh} : eSortKI c a σ h = kSki c (a σ h) := by
  unfold eSortKI kSki sk1
  rfl
@[simp] theorem kSki_eq {c : List D → Hh → R D} {a : TM} {σ : Sg} {h : Hh} : eSortKI c a σ h = kSki c (a σ h) := kSki_eq'
@[simp] theorem kSki_ok {c : List D → Hh → R D} {d : D} {h : Hh} : kSki c (.ok d h) = sk1 c (asDct h d) h := (rfl)
def kDqE (r : R (List (K1 × D))) : R D := r.bind fun ys h => .ok (.dct ys) h
@[simp] theorem kDqE_ok {ys : List (K1 × D)} {h : Hh} : kDqE (.ok ys h) = .ok (.dct ys) h := (rfl)
def kDq (kf vf : TM) (g : G) (p : BM) (ow : List Nat) (σ : Sg) (r : R (List D)) : R D := r.bind fun xs h => kDqE (noX (dcL (dcStep kf vf g p ow σ) xs [] h))
@[simp] theorem kDq_eq {kf vf : TM} {g : G} {it : It} {as : AM} {p : BM} {ow : List Nat} {σ : Sg} {h : Hh} : eDc kf vf g it as p ow σ h = kDq kf vf g p ow σ (itM it as σ h) := (rfl)
@[simp] theorem kDq_ok {kf vf : TM} {g : G} {p : BM} {ow : List Nat} {σ : Sg} {xs : List D} {h : Hh} : kDq kf vf g p ow σ (.ok xs h) = kDqE (noX (dcL (dcStep kf vf g p ow σ) xs [] h)) := (rfl)
theorem asDct_ref0 {kvs : List (K1 × D)} : asDct [O.dct kvs] (.ref 0) = some kvs := rfl
theorem updX_0 {kvs more : List (K1 × D)} (hl : kvs.length + more.length ≤ 1000000) : updX [O.dct kvs] (.ref 0) (.dct more) = some (.non, some (0, .dct (mergeP kvs more))) := by
  show (if kvs.length + more.length ≤ 1000000 then some (D.non, some (0, O.dct (mergeP kvs more))) else none) = _
  rw [if_pos hl]
theorem isOwnD_0 {kvs : List (K1 × D)} : isOwnD [O.dct kvs] (.ref 0) = true := rfl
theorem mergeE_nil {es : Es} (hn : (es.map (·.1)).Nodup) : mergeE [] es = es := by
  have : ∀ (es acc : Es), ((acc ++ es).map (·.1)).Nodup → mergeE acc es = acc ++ es := by
    intro es
    induction es with
    | nil => intro acc _; simp [mergeE]
    | cons e es ih =>
      intro acc hn
      have hni : e.1 ∉ acc.map (·.1) := by
        rw [List.map_append, List.nodup_append] at hn
        intro hm
        exact hn.2.2 _ hm e.1 (by simp) rfl
      have hp : putE e.1 e.2 acc = acc ++ [e] := by rw [putE, if_neg hni]
      have := ih (acc ++ [e]) (by simpa using hn)
      simp only [mergeE, List.foldl_cons] at this ⊢
      rw [hp, this]
      simp
  simpa using this es [] (by simpa using hn)
def ownW (w : Tx) : Bool := decide (w = [107, 105, 100, 115]) || decide (w = [99, 111, 117, 110, 116])
def withE (es0 es : Es) : Es := sortE (mergeE es0 es)
def handE (es0 es : Es) : Es := sortE (mergeE es0 (es.filter fun e => !ownW e.1))
theorem cl_dEnt (es : Es) : closedAll (dEnt es) = true := dEnt_closed es
theorem kvE_len (es : Es) : (kvE es).length = es.length := by simp [kvE]
theorem r_with_own (F n : Nat) {es0 es : Es} (h : Hh) (n0 : (es0.map (·.1)).Nodup) (n1 : (es.map (·.1)).Nodup) (l0 : es0.length ≤ 1000) (l1 : es.length ≤ 1000) :
    run F (n + 2) ix_with_own [.tup (dEnt es0), (Vl.table es).d] h = .ok (.tup (dEnt (withE es0 es))) h := by
  rw [run_with_own, own_closed (np := 2) (by simp [cl_dEnt]) rfl]
  have x1 : ixn 2 1 = some 1 := rfl
  have a1 : ∀ h, nDictTO h (.tup (dEnt es0)) = some (.dct (kvE es0)) := fun h => by
    simp only [nDictTO, asPairs_dEnt, Option.map_some]
    rw [show ([] : List (K1 × D)) = kvE [] from rfl, mergeP_kvE, mergeE_nil n0]
  have a2 : ∀ h, dictTD h (.tup (dEnt es)) = some (.dct (kvE es)) := fun h => by
    simp only [dictTD, asPairs_dEnt, Option.map_some]
    rw [show ([] : List (K1 × D)) = kvE [] from rfl, mergeP_kvE, mergeE_nil n1]
  have a3 := updX_0 (kvs := kvE es0) (more := kvE es) (by rw [kvE_len, kvE_len]; omega)
  rw [mergeP_kvE] at a3
  have a4 := sortKE_first F n [O.dct (kvE (mergeE es0 es))] (mergeE_nodup es es0 n0)
  have ct : ∀ h, tupleD h (.lst (dEnt (sortE (mergeE es0 es)))) = some (.tup (dEnt (sortE (mergeE es0 es)))) := fun h => rfl
  simp [b_with_own, startD, Vl.d, x1, a1, a2, a3, isOwnD_0, asDct_ref0, a4, ct, cl_dEnt, withE]
end Lw
end
section
namespace Lw
open Fw Pl
theorem gA {α : Type} {h t : List α} {r : Nat} {o : α} (hr : h[r]? = some o) : (h ++ t)[r]? = some o := by
  rw [List.getElem?_append_left (List.getElem?_eq_some_iff.mp hr).1]
  exact hr
theorem sA {α : Type} {h t : List α} {r : Nat} {o x : α} (hr : h[r]? = some o) : (h ++ t).set r x = h.set r x ++ t := by
  rw [List.set_append_left _ _ (List.getElem?_eq_some_iff.mp hr).1]
theorem gS {α : Type} {h : List α} {r : Nat} {o x : α} (hr : h[r]? = some o) : (h.set r x)[r]? = some x := by
  have := (List.getElem?_eq_some_iff.mp hr).1
  simp [this]
theorem gN {α : Type} (h t : List α) (x : α) (r : Nat) (y : α) : (h.set r y ++ x :: t)[h.length]? = some x := by
  have := app_get0 (h.set r y) t x
  simpa using this
theorem sN {α : Type} (h t : List α) (x z : α) (r : Nat) (y : α) : (h.set r y ++ x :: t).set h.length z = h.set r y ++ z :: t := by
  have := app_set0 (h.set r y) t x z
  simpa using this
theorem kvE_closedO (es : Es) : (O.dct (kvE es)).closed = true := by
  have : closedK (kvE es) = true := by
    induction es with
    | nil => rfl
    | cons e es ih => simpa [kvE, closedK] using ih
  simpa [O.closed] using this
def words6 : List Tx := [[99, 111, 117, 110, 116], [104, 101, 97, 100], [107, 105, 100, 122], [112, 97, 103, 101, 115], [115, 105, 122, 101], [116, 101, 120, 116]]
def EvOk (v : Vl) : Prop := (∃ i : Int, v = .int i ∧ 0 ≤ i ∧ i < 9) ∨ v = .non ∨ v = .name [97] ∨ v = .to 7 0
structure EnOk (es : Es) : Prop where
  nd : (es.map (·.1)).Nodup
  mem : ∀ e ∈ es, e.1 ∈ words6 ∧ EvOk e.2
theorem r_entries (F n : Nat) {h : Hh} {r : Nat} {o : O} (hr : h[r]? = some o) (ho : RoomOk o) :
    ∃ (es : Es) (o' : O), RoomOk o' ∧ EnOk es ∧ es.length ≤ 3 ∧ run F (n + 2) ix__law_page_entries [.ref r] h = .ok (.ref h.length) (h.set r o' ++ [.dct (kvE es)]) := by
  have l1 : line = 16777216 := Pl.line_eq
  rw [run__law_page_entries]
  obtain ⟨x, o1, ho1, x0, x1, e1⟩ := r_take F n (h := h ++ [.dct []]) (r := r) (m := 4) (gA hr) ho (by decide) (by decide)
  rw [sA hr] at e1
  simp [full, b__law_page_entries, startD, e1]
  rw [if_pos (by omega)]
  simp
  generalize hR : forL _ _ _ _ = rr
  obtain ⟨σ, h2, rfl, a2, b2, o2, es, rfl, rfl, ho2, l2, q2⟩ := for_invLR hR (fun xs σ hh => ∃ a b o es, σ = [some (.ref r), some (.lst (words6.map .str)), some (.ref h.length), a, b] ∧ hh = h.set r o ++ [.dct (kvE es)] ∧ RoomOk o ∧ es.length + xs.length ≤ 3 ∧ EnOk es) (by
    rintro x xs _ _ ⟨a, b, o, es, rfl, rfl, ho, hl, q⟩
    have hr0 : ∀ o, (h.set r o ++ [O.dct (kvE es)])[r]? = some o := fun o => gA (gS hr)
    have ss : ∀ o o', (h.set r o ++ [O.dct (kvE es)]).set r o' = h.set r o' ++ [O.dct (kvE es)] := fun o o' => by rw [sA (gS hr), List.set_set]
    obtain ⟨t, o1, ho1, t0, t1, e1⟩ := r_take F n (h := h.set r o ++ [.dct (kvE es)]) (r := r) (m := 9) (hr0 o) ho (by decide) (by decide)
    rw [ss] at e1
    obtain ⟨u, o2, ho2, u0, u1, e2⟩ := r_take F n (h := h.set r o1 ++ [.dct (kvE es)]) (r := r) (m := 4) (hr0 o1) ho1 (by decide) (by decide)
    rw [ss] at e2
    obtain ⟨w, o3, ho3, w0, w1, e3⟩ := r_take F n (h := h.set r o2 ++ [.dct (kvE es)]) (r := r) (m := 6) (hr0 o2) ho2 (by decide) (by decide)
    rw [ss] at e3
    obtain ⟨d, hd, e4⟩ := ix_in (ds := [.int t, .non, .tup [.str [110, 97, 109, 101], .str [97]], .tup [.str [116, 111], .int 7, .int 0]]) (n := 4) rfl u0 (by omega)
    have hv : ∃ v : Vl, d = v.d ∧ EvOk v := by
      simp at hd
      rcases hd with rfl | rfl | rfl | rfl
      · exact ⟨.int t, rfl, .inl ⟨t, rfl, t0, t1⟩⟩
      · exact ⟨.non, rfl, .inr (.inl rfl)⟩
      · exact ⟨.name [97], rfl, .inr (.inr (.inl rfl))⟩
      · exact ⟨.to 7 0, rfl, .inr (.inr (.inr rfl))⟩
    obtain ⟨v, rfl, hv⟩ := hv
    obtain ⟨d2, hd2, e5⟩ := ix_in (ds := words6.map D.str) (n := 6) rfl w0 (by omega)
    obtain ⟨wd, hwd, rfl⟩ := List.mem_map.mp hd2
    have hk : (kvE es).length < 16777216 := by simp [kvE]; simp at hl; omega
    have g0 := gN h [] (O.dct (kvE es)) r o3
    have s0 := sN h [] (O.dct (kvE es)) (O.dct (kvE (putE wd v es))) r o3
    have i4 : ∀ hh, index hh (.lst [.int t, .non, .tup [.str [110, 97, 109, 101], .str [97]], .tup [.str [116, 111], .int 7, .int 0]]) (.int u) = some v.d := fun hh => by simpa [index] using e4
    have i5 : ∀ hh, index hh (.lst (words6.map D.str)) (.int w) = some (.str wd) := fun hh => by
      have : (words6.map D.str).length = 6 := rfl
      simpa [index, this] using e5
    refine ⟨[some (.ref r), some (.lst (words6.map .str)), some (.ref h.length), some x, some (.lst [.int t, .non, .tup [.str [110, 97, 109, 101], .str [97]], .tup [.str [116, 111], .int 7, .int 0]])], h.set r o3 ++ [.dct (kvE (putE wd v es))], ?_, _, _, _, _, rfl, rfl, ho3, ?_, ⟨putE_nodup q.nd, ?_⟩⟩
    · simp [e1, e2, e3, i4, i5, g0, setIx_dcts g0, hk, put_kvE, s0]
    · have := putE_len (w := wd) (v := v) (es := es)
      simp at hl
      omega
    · intro e he
      rcases putE_mem he with rfl | he
      · exact ⟨hwd, hv⟩
      · exact q.mem e he) ⟨none, none, o1, [], rfl, rfl, ho1, by simp; omega, ⟨by simp, by simp⟩⟩
  simp [SR.out]
  exact ⟨es, o2, ho2, q2, by simpa using l2, rfl, rfl⟩
theorem r_tableOf (F n : Nat) {h : Hh} {f : Nat} {es : Es} (hf : h[f]? = some (.dct (kvE es))) (hn : (es.map (·.1)).Nodup) (hl : es.length < 64) :
    run F (n + 1) ix__law_table_of [.ref f] h = .ok (Vl.table (sortE es)).d h := by
  rw [run__law_table_of, own_one (np := 1) (by simp) hf (kvE_closedO es) rfl]
  have hs := sorted_kvE (h := [.dct (kvE es)]) (n := 0) rfl hl
  simp [b__law_table_of, startD, hs]
  generalize hR : lcL _ _ _ _ = rr
  have e3 := lc_mapR hR (fun x => .tup [x, match x with | .str w => ((getE w es).getD .non).d | _ => .non]) (by
    intro x hx
    obtain ⟨w, hw, rfl⟩ := List.mem_map.mp hx
    obtain ⟨v, ev, _⟩ := getE_mem (sortT_mem.mp hw)
    simp [look_kvE, ev]) (by simp; omega)
  subst e3
  have e4 : (List.map (fun x => D.tup [x, match x with | .str w => ((getE w es).getD .non).d | _ => .non]) ((sortT (es.map (·.1))).map D.str)) = dEnt (sortE es) := by
    rw [dEnt_map, sortE, List.map_map, List.map_map]
    rfl
  simp only [List.nil_append, e4, noX_ok, kLcE_ok, kU_ok, tupleD_lst, opt_some, kRet_ok, SR.then_rt]
  simp [set_same hf, kvE_closedO es, Vl.d]
end Lw
end
section
namespace Lw
open Fw Pl
theorem dc_own {hh : Hh} {step : D → Hh → R (Option (K1 × D))} (hs : ∀ (w : Tx) (v : Vl), step (.tup [.str w, v.d]) hh = .ok (if ownW w then none else some (.inr w, v.d)) hh) : ∀ (es acc : Es), acc.length + es.length ≤ 10000 →
    dcL step (dEnt es) (kvE acc) hh = .ok (kvE (mergeE acc (es.filter fun e => !ownW e.1))) hh
  | [], acc, _ => rfl
  | e :: es, acc, hl => by
    have l1 : line = 16777216 := Pl.line_eq
    simp only [List.length_cons] at hl
    rw [dEnt, dcL, hs]
    by_cases ho : ownW e.1 = true
    · simp only [ho, if_true, R.bind_ok, List.filter_cons, Bool.not_true, Bool.false_eq_true, if_false]
      exact dc_own hs es acc (by omega)
    · have ho' : ownW e.1 = false := by simpa using ho
      have hk : (kvE acc).length < line := by rw [kvE_len]; omega
      simp only [ho', Bool.false_eq_true, if_false, R.bind_ok, List.filter_cons, Bool.not_false, if_true]
      rw [if_pos hk, put_kvE, dc_own hs es _ (by have := putE_len (w := e.1) (v := e.2) (es := acc); omega)]
      rfl
theorem dc_ownR {hh : Hh} {es : Es} {step : D → Hh → R (Option (K1 × D))} {rr : R (List (K1 × D))} (hR : dcL step (dEnt es) [] hh = rr) (hs : ∀ (w : Tx) (v : Vl), step (.tup [.str w, v.d]) hh = .ok (if ownW w then none else some (.inr w, v.d)) hh) (hl : es.length ≤ 10000) :
    rr = .ok (kvE (mergeE [] (es.filter fun e => !ownW e.1))) hh := hR.symm.trans (dc_own hs es [] (by simpa using hl))
theorem isMem_own (w : Tx) (h : Hh) : isMem h (.str w) (.tup [.str [107, 105, 100, 115], .str [99, 111, 117, 110, 116]]) = some (ownW w) := by
  simp only [isMem, asDct, asSeq, scalar, List.all_cons, List.all_nil, Bool.and_self, if_true, List.any_cons, List.any_nil, D.eqv, Bool.or_false, ownW, Option.some.injEq]
  rw [Bool.eq_iff_iff]
  simp only [Bool.or_eq_true, beq_iff_eq, decide_eq_true_eq]
  exact ⟨fun z => z.imp Eq.symm Eq.symm, fun z => z.imp Eq.symm Eq.symm⟩
theorem filter_nodup {es : Es} {p : Tx × Vl → Bool} (h : (es.map (·.1)).Nodup) : ((es.filter p).map (·.1)).Nodup := h.sublist (List.Sublist.map _ List.filter_sublist)
theorem r_handed (F n : Nat) {es0 es : Es} (h : Hh) (n0 : (es0.map (·.1)).Nodup) (n1 : (es.map (·.1)).Nodup) (l0 : es0.length ≤ 1000) (l1 : es.length ≤ 1000) :
    run F (n + 2) ix_handed [.tup (dEnt es0), (Vl.table es).d] h = .ok (.tup (dEnt (handE es0 es))) h := by
  rw [run_handed, own_closed (np := 2) (by simp [cl_dEnt]) rfl]
  have x1 : ixn 2 1 = some 1 := rfl
  have a1 : ∀ h, nDictTO h (.tup (dEnt es0)) = some (.dct (kvE es0)) := fun h => by
    simp only [nDictTO, asPairs_dEnt, Option.map_some]
    rw [show ([] : List (K1 × D)) = kvE [] from rfl, mergeP_kvE, mergeE_nil n0]
  simp [b_handed, startD, Vl.d, x1, a1, isOwnD_0]
  generalize hR : dcL _ _ _ _ = rr
  have e3 := dc_ownR hR (by
    intro w v
    have q := isMem_own w [O.dct (kvE es0)]
    by_cases ho : ownW w = true
    · simp [dcStep, q, ho]
    · simp [dcStep, q, ho, key1]) (by omega)
  subst e3
  have nf := filter_nodup (p := fun e => !ownW e.1) n1
  have lf : (es.filter fun e => !ownW e.1).length ≤ es.length := List.length_filter_le _ _
  rw [mergeE_nil nf]
  generalize hfs : es.filter (fun e => !ownW e.1) = fs at nf lf
  have a3 := updX_0 (kvs := kvE es0) (more := kvE fs) (by rw [kvE_len, kvE_len]; omega)
  rw [mergeP_kvE] at a3
  have a4 := sortKE_first F n [O.dct (kvE (mergeE es0 fs))] (mergeE_nodup fs es0 n0)
  have ct : ∀ h, tupleD h (.lst (dEnt (sortE (mergeE es0 fs)))) = some (.tup (dEnt (sortE (mergeE es0 fs)))) := fun h => rfl
  simp [a3, asDct_ref0, a4, ct, cl_dEnt, handE, hfs]
def toVl (q : Nat × Nat) : Vl := .to q.1 q.2
def kidsD (es : Es) (ks : Option (List (Nat × Nat))) : Prop := match ks with
  | none => getE [107, 105, 100, 115] es = none
  | some qs => getE [107, 105, 100, 115] es = some (.row (qs.map toVl)) ∧ qs.length ≤ 60 ∧ ∀ q ∈ qs, 1 ≤ q.1 ∧ q.1 ≤ 200 ∧ q.2 ≤ 99
def kidsT : Option (List (Nat × Nat)) → D
  | none => .non
  | some qs => .lst (qs.map fun q => (toVl q).d)
theorem r_kids_of (F n : Nat) (es : Es) (num : Int) (h : Hh) {ks : Option (List (Nat × Nat))} (hk : kidsD es ks) : run F (n + 5) ix_kids_of [.int num, (Vl.table es).d] h = .ok (kidsT ks) h := by
  rw [run_kids_of, own_closed (np := 2) (by simp) rfl]
  have e2 : ∀ h, run F (n + 4) ix_entry_of [(Vl.table es).d, .str [107, 105, 100, 115]] h = .ok (entT [107, 105, 100, 115] es) h := fun h => r_entry F (n + 3) es [107, 105, 100, 115] (.str wTable) h (by simp)
  cases ks with
  | none =>
    have hk' : getE [107, 105, 100, 115] es = none := hk
    rw [entT, hk'] at e2
    dsimp only at e2
    simp [b_kids_of, startD, e2, kidsT]
  | some qs =>
    obtain ⟨k1, k2, k3⟩ := (show getE [107, 105, 100, 115] es = some (.row (qs.map toVl)) ∧ qs.length ≤ 60 ∧ ∀ q ∈ qs, 1 ≤ q.1 ∧ q.1 ≤ 200 ∧ q.2 ≤ 99 from hk)
    rw [entT, k1] at e2
    have dr : (Vl.row (qs.map toVl)).d = .tup [.str wRow, .tup (qs.map fun q => (toVl q).d)] := by rw [Vl.d, dAll_map, List.map_map]; rfl
    dsimp only at e2
    rw [dr] at e2
    have cq : closedAll (qs.map fun q => (toVl q).d) = true := cl_all.mpr fun d hd => by
      obtain ⟨q, _, rfl⟩ := List.mem_map.mp hd
      exact Vl.closed _
    have pq : pureAll (qs.map fun q => (toVl q).d) = true := pureA_iff.mpr fun d hd => by
      obtain ⟨q, _, rfl⟩ := List.mem_map.mp hd
      exact Vl.dpure _
    have x2 : ixn 2 1 = some 1 := rfl
    have l1 : line = 16777216 := Pl.line_eq
    have e3 : ∀ h, run F (n + 4) ix_is_kind [.tup [.str wRow, .tup (qs.map fun q => (toVl q).d)], .str [114, 111, 119]] h = .ok (.bl true) h := fun h => r_kind F (n + 3) (.str wRow) wRow [.tup (qs.map fun q => (toVl q).d)] h (by simp) (by simp [pq])
    have i1 : ∀ h, isT (isOf .tup) h (.tup [.str wRow, .tup (qs.map fun q => (toVl q).d)]) = some (.bl true) := fun h => rfl
    simp [b_kids_of, startD, e2, e3, i1, x2]
    generalize hR : lcL _ _ _ _ = rr
    have e4 := lc_mapR hR (fun _ => .bl true) (by
      intro x hx
      obtain ⟨q, hq, rfl⟩ := List.mem_map.mp hx
      have r1 := r_isref F n (toVl q).d [] (Vl.dpure _)
      have r2 : isTo (toVl q).d = true := by
        have := k3 q hq
        simp [toVl, Vl.d, isTo, kindD, fromD]
        omega
      rw [r2] at r1
      simp [r1]) (by simp; omega)
    subst e4
    have ad : ∀ h, allD h (.lst ((qs.map fun q => (toVl q).d).map fun _ => D.bl true)) = some (.bl true) := fun h => by
      have := allD_map (h := h) (fun _ : D => true) (qs.map fun q => (toVl q).d)
      rw [this]
      simp
    have ld : ∀ h, listD h (.tup (qs.map fun q => (toVl q).d)) = some (.lst (qs.map fun q => (toVl q).d)) := fun h => rfl
    simp [-List.map_map, ad, ld, cq, kidsT, x2]
end Lw
end
section
namespace Pl
open Fw PySem
def bk (v : Vl) : Nat := v.d.dat.bulk
def bkA (vs : List Vl) : Nat := PyData.bulkAll (datAll (dAll vs))
def bkE (es : Es) : Nat := PyData.bulkAll (datAll (dEnt es))
theorem bkA_cons (v : Vl) (vs : List Vl) : bkA (v :: vs) = bk v + 1 + bkA vs := by simp only [bkA, dAll, datAll, PyData.bulkAll, bk]
theorem bkE_cons (e : Tx × Vl) (es : Es) : bkE (e :: es) = e.1.length + bk e.2 + 3 + bkE es := by
  simp only [bkE, dEnt, datAll, D.dat, PyData.bulkAll, PyData.bulk, bk]
  simp
  omega
theorem bk_row (vs : List Vl) : bk (.row vs) = bkA vs + 5 := by
  simp only [bk, Vl.d, D.dat, datAll, PyData.bulk, PyData.bulkAll, bkA]
  simp
  omega
theorem bk_table (vs : Es) : bk (.table vs) = bkE vs + 7 := by
  simp only [bk, Vl.d, D.dat, datAll, PyData.bulk, PyData.bulkAll, bkE]
  simp
  omega
theorem bk_stream (vs : Es) (s : Tx) : bk (.stream vs s) = bkE vs + s.length + 9 := by
  simp only [bk, Vl.d, D.dat, datAll, PyData.bulk, PyData.bulkAll, bkE]
  simp
  omega
def GoodP (k : Nat) (P : Nat → Option (Vl × Nat)) : Prop := ∀ p v e, P p = some (v, e) → v.pl ∧ v.deep ≤ k + 1 ∧ bk v ≤ 4 * (e - p)
theorem rowL_good {P : Nat → Option (Vl × Nat)} {t : Tx} {k : Nat} (I : InP t P) (G : GoodP k P) : ∀ {n a : Nat} {f vs : List Vl} {e : Nat}, rowL P t n a f = some (vs, e) →
    ∃ ws, vs = f ++ ws ∧ ws.length ≤ n ∧ plAll ws ∧ deepAll ws ≤ k + 1 ∧ bkA ws + 3 ≤ 4 * (e - a)
  | n + 1, a, f, vs, e, h => by
    simp only [rowL] at h
    cases hP : P a with
    | none => rw [hP] at h; cases h
    | some z =>
      obtain ⟨v, g⟩ := z
      have i := I a v g hP
      obtain ⟨g1, g2, g3⟩ := G a v g hP
      rw [hP] at h
      dsimp only at h
      split at h
      · cases h
        refine ⟨[v], rfl, by simp, by simp [plAll, g1], by simp [deepAll]; omega, ?_⟩
        rw [bkA_cons]
        have : bkA [] = 0 := rfl
        omega
      · split at h
        · obtain ⟨ws, rfl, h1, h2, h3, h4⟩ := rowL_good I G h
          have := rowL_in I h
          refine ⟨v :: ws, by simp, by simp; omega, by simp [plAll, g1, h2], by simp [deepAll]; omega, ?_⟩
          rw [bkA_cons]
          omega
        · cases h
theorem entL_good {P : Nat → Option (Vl × Nat)} {t : Tx} {k : Nat} (I : InP t P) (G : GoodP k P) : ∀ {n a : Nat} {f vs : Es} {e : Nat}, entL P t n a f = some (vs, e) → rises (f.map (·.1)) →
    rises (vs.map (·.1)) ∧ ∃ ws, vs = f ++ ws ∧ ws.length ≤ n ∧ plEnt ws ∧ deepEnt ws ≤ k + 1 ∧ bkE ws + 3 ≤ 4 * (e - a)
  | n + 1, a, f, vs, e, h, hr => by
    simp only [entL] at h
    cases hE : entAt P t a with
    | none => rw [hE] at h; cases h
    | some z =>
      obtain ⟨x, g⟩ := z
      have i := entAt_in I hE
      rw [hE] at h
      dsimp only at h
      have hx : WordOk x.1 ∧ x.2.pl ∧ x.2.deep ≤ k + 1 ∧ x.1.length + bk x.2 + 4 ≤ 4 * (g - a) := by
        unfold entAt at hE
        cases hw : wordAt t a with
        | none => rw [hw] at hE; cases hE
        | some z =>
          obtain ⟨w, b⟩ := z
          have hq := wordAt_in hw
          rw [hw] at hE
          dsimp only at hE
          split at hE
          · cases hP : P (b + 1) with
            | none => rw [hP] at hE; cases hE
            | some z =>
              obtain ⟨v, c⟩ := z
              have j := I _ v c hP
              obtain ⟨g1, g2, g3⟩ := G _ v c hP
              rw [hP] at hE
              cases hE
              refine ⟨⟨hq.2.1, hq.2.2.1, hq.2.2.2.2⟩, g1, g2, ?_⟩
              simp only
              omega
          · cases hE
      obtain ⟨x1, x2, x3, x4⟩ := hx
      split at h
      · cases h
      rename_i hst
      have hr' : rises ((f ++ [x]).map (·.1)) := by
        have hst' : stuck f x.1 = false := by simpa using hst
        rw [List.map_append]
        refine List.pairwise_append.mpr ⟨hr, by simp, ?_⟩
        intro u hu w hw
        simp at hw
        subst hw
        cases hl : f.getLast? with
        | none =>
          have : f = [] := List.getLast?_eq_none_iff.mp hl
          subst this
          cases hu
        | some l =>
          have hlt : l.1 < x.1 := by simpa [stuck, hl] using hst'
          obtain ⟨f0, rfl⟩ := List.getLast?_eq_some_iff.mp hl
          rw [List.map_append] at hr hu
          rcases List.mem_append.mp hu with hu | hu
          · exact List.lt_trans ((List.pairwise_append.mp hr).2.2 u hu l.1 (by simp)) hlt
          · simp at hu
            subst hu
            exact hlt
      split at h
      · cases h
        refine ⟨hr', [x], rfl, by simp, by simp [plEnt, x1, x2], by simp [deepEnt]; omega, ?_⟩
        rw [bkE_cons]
        have : bkE [] = 0 := rfl
        omega
      · split at h
        · obtain ⟨r1, ws, rfl, h1, h2, h3, h4⟩ := entL_good I G h hr'
          have := entL_in I h
          refine ⟨r1, x :: ws, by simp, by simp; omega, by simp [plEnt, x1, x2, h2], by simp [deepEnt]; omega, ?_⟩
          rw [bkE_cons]
          omega
        · cases h
theorem bk_nil : bkA [] = 0 := rfl
theorem bkE_nil : bkE [] = 0 := rfl
theorem plainStep_good {t : Tx} {k : Nat} {inner : Option (Nat → Option (Vl × Nat))} (I : ∀ P, inner = some P → InP t P) (G : ∀ P, inner = some P → ∃ j, j + 1 ≤ k ∧ GoodP j P) : GoodP k (plainStep t inner) := by
  intro p v e h
  unfold plainStep at h
  split at h
  · cases h
    exact ⟨trivial, by simp [Vl.deep], Nat.zero_le _⟩
  split at h
  · rename_i c
    cases hf : figs t (p + 1) with
    | none => rw [hf] at h; cases h
    | some z =>
      obtain ⟨i, g⟩ := z
      have q := figs_in hf
      rw [hf] at h
      dsimp only at h
      split at h
      · cases h
      · cases h
        refine ⟨?_, by simp [Vl.deep], Nat.zero_le _⟩
        simp only [Vl.pl]
        omega
  · unfold strAt at h
    cases hs : strS t (p + 1) [] with
    | none => rw [hs] at h; cases h
    | some z =>
      obtain ⟨s, g⟩ := z
      have q := strL_ok hs
      rw [hs] at h
      dsimp only at h
      split at h
      · rename_i hl
        cases h
        refine ⟨⟨hl, fun c hc => ?_⟩, by simp [Vl.deep], ?_⟩
        · rcases q.2.2.2.2 c hc with z | z
          · cases z
          · exact z
        · have : bk (.str s) = s.length := by simp [bk, Vl.d, D.dat, PyData.bulk]
          have := q.2.2.2.1
          simp at this
          omega
      · cases h
  · obtain ⟨z, hz, e1⟩ := Option.map_eq_some_iff.mp h
    obtain ⟨w, g⟩ := z
    have q := wordAt_in hz
    cases e1
    refine ⟨⟨q.2.1, q.2.2.1, q.2.2.2.2⟩, by simp [Vl.deep], ?_⟩
    have : bk (.name w) = w.length + 6 := by
      simp [bk, Vl.d, D.dat, datAll, PyData.bulk, PyData.bulkAll]
      omega
    simp only
    omega
  · cases inner with
    | none => cases h
    | some P =>
      obtain ⟨z, hz, e1⟩ := Option.map_eq_some_iff.mp h
      obtain ⟨w, g⟩ := z
      cases e1
      obtain ⟨j, hj, Gj⟩ := G P rfl
      unfold rowAt at hz
      split at hz
      · cases hz
        refine ⟨by simp [Vl.pl, plAll], by simp [Vl.deep, deepAll], ?_⟩
        simp only [bk_row, bk_nil]
        omega
      · obtain ⟨ws, rfl, h1, h2, h3, h4⟩ := rowL_good (I P rfl) Gj hz
        have := rowL_in (I P rfl) hz
        refine ⟨⟨by simpa using h1, by simpa using h2⟩, by simp [Vl.deep]; omega, ?_⟩
        simp only [bk_row, List.nil_append]
        omega
  · cases inner with
    | none => cases h
    | some P =>
      obtain ⟨z, hz, e1⟩ := Option.map_eq_some_iff.mp h
      obtain ⟨w, g⟩ := z
      cases e1
      obtain ⟨j, hj, Gj⟩ := G P rfl
      unfold tabAt at hz
      split at hz
      · cases hz
        refine ⟨by simp [Vl.pl, plEnt, rises], by simp [Vl.deep, deepEnt], ?_⟩
        simp only [bk_table, bkE_nil]
        omega
      · obtain ⟨r1, ws, rfl, h1, h2, h3, h4⟩ := entL_good (I P rfl) Gj hz (by simp [rises])
        have := entL_in (I P rfl) hz
        refine ⟨⟨by simpa using h1, by simpa using r1, by simpa using h2⟩, by simp [Vl.deep]; omega, ?_⟩
        simp only [bk_table, List.nil_append]
        omega
  · unfold numAt at h
    cases hf : figs t p with
    | none => rw [hf] at h; cases h
    | some z =>
      obtain ⟨i, g⟩ := z
      have q := figs_in hf
      rw [hf] at h
      dsimp only at h
      split at h
      · cases h
        refine ⟨?_, by simp [Vl.deep], Nat.zero_le _⟩
        simp only [Vl.pl]
        omega
      · cases hb : figs t (g + 1) with
        | none => rw [hb] at h; cases h
        | some z =>
          obtain ⟨j, m⟩ := z
          have q' := figs_in hb
          rw [hb] at h
          dsimp only at h
          split at h
          · cases h
          · rename_i hh
            cases h
            refine ⟨?_, by simp [Vl.deep], ?_⟩
            · simp only [Vl.pl]
              omega
            · have : bk (.to i j) = 5 := by simp [bk, Vl.d, D.dat, datAll, PyData.bulk, PyData.bulkAll]
              omega
theorem plainAt_good (t : Tx) : ∀ k, GoodP k (plainAt t k)
  | 0 => plainStep_good (fun P h => nomatch h) (fun P h => nomatch h)
  | k + 1 => plainStep_good (fun P h => by cases h; exact plainAt_in t k) (fun P h => by cases h; exact ⟨k, Nat.le_refl _, plainAt_good t k⟩)
end Pl
end
section
namespace Pl
open Fw PySem
theorem int_fine {i : Int} (h1 : -1000000000000000000000000000000 < i) (h2 : i < 1000000000000000000000000000000) : (D.int i).neat = true ∧ ((D.int i).dat).leavesShort 31 = true := by
  have h3 : i.natAbs < 10 ^ 30 := by
    have : (10 : Nat) ^ 30 = 1000000000000000000000000000000 := by decide
    rw [this]
    omega
  constructor
  · simp only [D.neat, decide_eq_true_eq]
    have h4 : i.natAbs < 2 ^ 1920 := Nat.lt_of_lt_of_le h3 (Nat.le_trans (show (10 : Nat) ^ 30 ≤ 2 ^ 100 by decide) (Nat.pow_le_pow_right (by decide) (by decide)))
    by_cases h0 : i.natAbs = 0
    · rw [h0]; decide
    · exact (Nat.log2_lt h0).mpr h4
  · simp only [D.dat, PyData.leavesShort, decide_eq_true_eq]
    have e := int_text_length_le10 (k := 30) (by decide) h3
    show (Str.ofString (toString i)).length ≤ 31
    rw [ofString_length]
    omega
theorem str_fine {s : Tx} (h : ∀ c ∈ s, c < 1000) : ((D.str s).dat).leavesShort 31 = true := by
  simp only [D.dat, PyData.leavesShort]
  simp
  intro c hc
  have := h c hc
  omega
mutual
theorem pl_fine : ∀ v : Vl, v.pl → v.d.neat = true ∧ v.d.dat.leavesShort 31 = true ∧ v.d.dat.depth + 1 ≤ 3 * v.deep
  | .non, _ => ⟨rfl, rfl, by simp [Vl.d, D.dat, PyData.depth, Vl.deep]⟩
  | .int i, h => ⟨(int_fine h.1 h.2).1, (int_fine h.1 h.2).2, by simp [Vl.d, D.dat, PyData.depth, Vl.deep]⟩
  | .str s, h => ⟨rfl, str_fine (fun c hc => by have := h.2 c hc; unfold signOk at this; omega), by simp [Vl.d, D.dat, PyData.depth, Vl.deep]⟩
  | .name s, h => by
    have h1 := str_fine (s := s) fun c hc => by have := h.2.2 c hc; unfold letter at this; omega
    have h2 := str_fine (s := wName) (by decide)
    refine ⟨rfl, ?_, by simp [Vl.d, D.dat, datAll, PyData.depth, PyData.depthAll, Vl.deep]⟩
    simp only [Vl.d, D.dat, datAll, PyData.leavesShort, PyData.leavesShortAll] at h1 h2 ⊢
    simp only [h1, h2, Bool.and_self]
  | .to k e, h => by
    have h1 := int_fine (i := k) (by have := h.1; omega) (by have := h.2.1; omega)
    have h2 := int_fine (i := e) (by have := h.2.2.1; omega) (by have := h.2.2.2; omega)
    have h3 := str_fine (s := wTo) (by decide)
    refine ⟨?_, ?_, by simp [Vl.d, D.dat, datAll, PyData.depth, PyData.depthAll, Vl.deep]⟩
    · simp only [Vl.d, D.neat, neatAll] at h1 h2 ⊢
      simp only [h1.1, h2.1, Bool.and_self]
    · have q1 := h1.2
      have q2 := h2.2
      simp only [Vl.d, D.dat, datAll, PyData.leavesShort, PyData.leavesShortAll] at q1 q2 h3 ⊢
      simp only [q1, q2, h3, Bool.and_self]
  | .row vs, h => by
    obtain ⟨g1, g2, g3⟩ := plAll_fine vs h.2
    have h3 := str_fine (s := wRow) (by decide)
    refine ⟨?_, ?_, ?_⟩
    · simp only [Vl.d, D.neat, neatAll, g1, Bool.and_self]
    · simp only [Vl.d, D.dat, datAll, PyData.leavesShort, PyData.leavesShortAll] at h3 ⊢
      simp only [h3, g2, Bool.and_self]
    · simp only [Vl.d, D.dat, datAll, PyData.depth, PyData.depthAll, Vl.deep]
      omega
  | .table es, h => by
    obtain ⟨g1, g2, g3⟩ := plEnt_fine es h.2.2
    have h3 := str_fine (s := wTable) (by decide)
    refine ⟨?_, ?_, ?_⟩
    · simp only [Vl.d, D.neat, neatAll, g1, Bool.and_self]
    · simp only [Vl.d, D.dat, datAll, PyData.leavesShort, PyData.leavesShortAll] at h3 ⊢
      simp only [h3, g2, Bool.and_self]
    · simp only [Vl.d, D.dat, datAll, PyData.depth, PyData.depthAll, Vl.deep]
      omega
  | .stream _ _, h => h.elim
theorem plAll_fine : ∀ vs : List Vl, plAll vs → neatAll (dAll vs) = true ∧ PyData.leavesShortAll 31 (datAll (dAll vs)) = true ∧ PyData.depthAll (datAll (dAll vs)) ≤ 3 * deepAll vs
  | [], _ => ⟨rfl, rfl, by simp [dAll, datAll, PyData.depthAll]⟩
  | v :: vs, h => by
    obtain ⟨a1, a2, a3⟩ := pl_fine v h.1
    obtain ⟨b1, b2, b3⟩ := plAll_fine vs h.2
    refine ⟨?_, ?_, ?_⟩
    · simp only [dAll, neatAll, a1, b1, Bool.and_self]
    · simp only [dAll, datAll, PyData.leavesShortAll, a2, b2, Bool.and_self]
    · simp only [dAll, datAll, PyData.depthAll, deepAll]
      omega
theorem plEnt_fine : ∀ es : List (Tx × Vl), plEnt es → neatAll (dEnt es) = true ∧ PyData.leavesShortAll 31 (datAll (dEnt es)) = true ∧ PyData.depthAll (datAll (dEnt es)) ≤ 3 * deepEnt es
  | [], _ => ⟨rfl, rfl, by simp [dEnt, datAll, PyData.depthAll]⟩
  | e :: es, h => by
    obtain ⟨a1, a2, a3⟩ := pl_fine e.2 h.2.1
    obtain ⟨b1, b2, b3⟩ := plEnt_fine es h.2.2
    have h1 := str_fine (s := e.1) fun c hc => by have := h.1.2.2 c hc; unfold letter at this; omega
    refine ⟨?_, ?_, ?_⟩
    · simp only [dEnt, neatAll, D.neat, a1, b1, Bool.and_self]
    · simp only [dEnt, datAll, D.dat, PyData.leavesShort, PyData.leavesShortAll] at h1 ⊢
      simp only [h1, a2, b2, Bool.and_self]
    · simp only [dEnt, datAll, D.dat, PyData.depth, PyData.depthAll, deepEnt]
      omega
end
theorem ok_fine {v : Vl} (h : v.ok) : v.d.neat = true ∧ v.d.dat.leavesShort 31 = true ∧ v.d.dat.depth + 1 ≤ 3 * v.deep := by
  cases v with
  | stream es s =>
    obtain ⟨h1, h2, h3, h4, h5⟩ := h
    obtain ⟨g1, g2, g3⟩ := plEnt_fine es h3
    have q1 := str_fine (s := wStream) (by decide)
    have q2 := str_fine (s := s) fun c hc => by
      rcases h5 c hc with z | z
      · unfold signOk at z; omega
      · omega
    refine ⟨?_, ?_, ?_⟩
    · simp only [Vl.d, D.neat, neatAll, g1, Bool.and_self]
    · simp only [Vl.d, D.dat, datAll, PyData.leavesShort, PyData.leavesShortAll] at q1 q2 ⊢
      simp only [q1, q2, g2, Bool.and_self]
    · simp only [Vl.d, D.dat, datAll, PyData.depth, PyData.depthAll, Vl.deep]
      omega
  | _ => exact pl_fine _ h
theorem valueAt_ok {t : Tx} {p e : Nat} {v : Vl} (h : valueAt t p = some (v, e)) : v.ok ∧ v.deep ≤ 31 ∧ bk v ≤ 4 * (e - p) ∧ p < e ∧ e ≤ t.length := by
  unfold valueAt at h
  cases hv : plainAt t 30 p with
  | none => rw [hv] at h; cases h
  | some z =>
    obtain ⟨u, g⟩ := z
    obtain ⟨g1, g2, g3⟩ := plainAt_good t 30 p u g hv
    obtain ⟨i1, i2⟩ := plainAt_in t 30 p u g hv
    rw [hv] at h
    dsimp only at h
    split at h
    · cases h
      exact ⟨pl_ok g1, g2, g3, i1, i2⟩
    · cases hf : figs t (g + 8) with
      | none => rw [hf] at h; cases h
      | some z =>
        obtain ⟨n, b⟩ := z
        obtain ⟨f1, f2, f3, f4⟩ := figs_in hf
        rw [hf] at h
        dsimp only at h
        split at h
        · cases h
        · rename_i hh
          cases u with
          | table es =>
            cases h
            have k1 : n ≤ 2000 := Int.not_lt.mp fun q => hh (.inl q)
            have k2 : ¬ (t.length : Int) < b + 1 + n := fun q => hh (.inr (.inr (.inl q)))
            have k3 : ((sub t (b + 1) (b + 1 + n.toNat)).all fun c => decide (32 ≤ c ∧ c ≤ 126) || decide (c = 10)) = true := Decidable.byContradiction fun q => hh (.inr (.inr (.inr q)))
            have k4 : (sub t (b + 1) (b + 1 + n.toNat)).length ≤ n.toNat := by simp [sub]; omega
            refine ⟨⟨g1.1, g1.2.1, g1.2.2, by omega, fun c hc => ?_⟩, by simpa [Vl.deep] using g2, ?_, by omega, by omega⟩
            · have := List.all_eq_true.mp k3 c hc
              simp only [Bool.or_eq_true, decide_eq_true_eq] at this
              exact this
            · rw [bk_table] at g3
              rw [bk_stream]
              omega
          | _ => cases h
end Pl
end
section
namespace Pl
open Fw
section
variable {σ : Sg} {h : Hh} {a b : TM} {as : AM} {x : Exn} {d e : D} {ds : List D}
end
def okT (t : Tx) : Prop := ∀ c ∈ t, c < 1114112
def spw : Tx → Tx → List Tx
  | acc, [] => [acc]
  | acc, c :: r => if c = 32 then acc :: spw [] r else spw (acc ++ [c]) r
theorem spw_mem : ∀ (l acc : Tx) (w : Tx), w ∈ spw acc l → ∀ c ∈ w, c ∈ acc ∨ (c ∈ l ∧ c ≠ 32)
  | [], acc, w, h, c, hc => by
    simp [spw] at h
    subst h
    exact .inl hc
  | d :: r, acc, w, h, c, hc => by
    simp only [spw] at h
    split at h
    · rcases List.mem_cons.mp h with rfl | h
      · exact .inl hc
      · rcases spw_mem r [] w h c hc with q | q
        · cases q
        · exact .inr ⟨List.mem_cons_of_mem _ q.1, q.2⟩
    · rename_i hd
      rcases spw_mem r (acc ++ [d]) w h c hc with q | q
      · rcases List.mem_append.mp q with q | q
        · exact .inl q
        · rw [List.mem_singleton] at q
          subst q
          exact .inr ⟨List.mem_cons_self, hd⟩
      · exact .inr ⟨List.mem_cons_of_mem _ q.1, q.2⟩
theorem spw_len : ∀ (l acc : Tx) (w : Tx), w ∈ spw acc l → w.length ≤ acc.length + l.length
  | [], acc, w, h => by
    simp [spw] at h
    subst h
    simp
  | d :: r, acc, w, h => by
    simp only [spw] at h
    split at h
    · rcases List.mem_cons.mp h with rfl | h
      · simp
      · have := spw_len r [] w h
        simp at this ⊢
        omega
    · have := spw_len r (acc ++ [d]) w h
      simp at this ⊢
      omega
theorem spw_many : ∀ (l acc : Tx), (spw acc l).length ≤ l.length + 1
  | [], acc => by simp [spw]
  | d :: r, acc => by
    simp only [spw]
    split
    · have := spw_many r []
      simp
      omega
    · have := spw_many r (acc ++ [d])
      simp
      omega
def lineAt (t : Tx) (p : Nat) : Tx := (t.drop p).takeWhile fun c => decide (c ≠ 10)
def rowWords (t : Tx) (p : Nat) : List Tx × Nat := if t[p + (lineAt t p).length]? = some 10 then (spw [] (lineAt t p), p + (lineAt t p).length + 1) else ([], t.length)
end Pl
end
section
namespace Lw
open Fw Pl
abbrev wThing : Tx := [116, 104, 105, 110, 103]
abbrev wPack : Tx := [112, 97, 99, 107]
abbrev wFree : Tx := [102, 114, 101, 101]
abbrev wOld : Tx := [111, 108, 100]
abbrev wRoot : Tx := [114, 111, 111, 116]
abbrev wSeal : Tx := [115, 101, 97, 108]
abbrev wAt : Tx := [97, 116]
abbrev wIn : Tx := [105, 110]
abbrev wNone : Tx := [110, 111, 110, 101]
abbrev wAdd : Tx := [97, 100, 100]
abbrev wFill : Tx := [102, 105, 108, 108]
end Lw
end
section
namespace Lw
open Fw Pl
theorem x31 : ixn 3 1 = some 1 := rfl
theorem x32 : ixn 3 2 = some 2 := rfl
end Lw
end
section
namespace Lw
open Fw Pl
end Lw
end
section
namespace Lw
open Fw Pl
end Lw
end
section
namespace Lw
open Fw Pl
def numBy (w : Tx) : Option Nat := if (1 ≤ w.length ∧ w.length ≤ 30 ∧ ∀ c ∈ w, c ∈ FIG) ∧ ¬ (w[0]? = some 48 ∧ w ≠ [48]) then some (PySem.NumText.digitsVal w) else none
def numD : Option Nat → D
  | none => .non
  | some n => .int n
@[simp] theorem numD_closed (q : Option Nat) : (numD q).closed = true := by cases q <;> rfl
abbrev Pk := Nat × Nat × Vl
def Pk.d (r : Pk) : D := .tup [.int r.1, .int r.2.1, r.2.2.d]
def heldAt (t : Tx) (p : Nat) : Option (Pk × Nat) := match (rowWords t p).1 with
  | a :: b :: _ :: _ => (match numBy a, numBy b, plainAt t 30 (p + a.length + b.length + 2) with
    | some n, some e, some (v, f) => if f + 1 = (rowWords t p).2 then some ((n, e, v), (rowWords t p).2) else none
    | _, _, _ => none)
  | _ => none
def packL (t : Tx) : Nat → Nat → List Pk → Option (List Pk × Nat)
  | 0, p, acc => some (acc, p)
  | m + 1, p, acc => match heldAt t p with
    | none => none
    | some (r, e) => packL t m e (acc ++ [r])
abbrev Rw := Nat × Tx × List Nat
def Rw.d (r : Rw) : D := .tup (.int r.1 :: .str r.2.1 :: r.2.2.map fun (n : Nat) => .int n)
def allSome {α : Type} : List (Option α) → Option (List α)
  | [] => some []
  | none :: _ => none
  | some a :: r => (allSome r).map (a :: ·)
def rowBy (ws : List Tx) : Option Rw := match ws with
  | a :: w :: b :: r => (match numBy a, allSome ((b :: r).map numBy) with
    | some n, some ns => some (n, w, ns)
    | _, _ => none)
  | _ => none
def rowsL (t : Tx) : Nat → Nat → List (Option Rw) → List (Option Rw) × Nat
  | 0, p, acc => (acc, p)
  | m + 1, p, acc => rowsL t m (rowWords t p).2 (acc ++ [rowBy (rowWords t p).1])
def rootBy (ws : List Tx) : Option (Option (Nat × Nat)) := if ws = [wRoot, wNone] then some none else match ws with
  | [w, a, b] => if w = wRoot then (match numBy a, numBy b with
    | some n, some e => some (some (n, e))
    | _, _ => none) else none
  | _ => none
def rootD : Option (Nat × Nat) → D
  | none => .non
  | some q => .tup [.int q.1, .int q.2]
def placeBy (ws : List Tx) (word : Tx) (let_ : Bool) : Option (Option Nat) := match ws with
  | [w, a] => if w = word then (if let_ = true ∧ a = wNone then some none else (numBy a).map some) else none
  | _ => none
structure Tb where
  rows : List Rw
  root : Option (Nat × Nat)
  before : Option Nat
  start : Option Nat
def Tb.d (x : Tb) : D := .tup [.str wTable, .tup (x.rows.map Rw.d), rootD x.root, numD x.before, numD x.start]
abbrev wBefore : Tx := [98, 101, 102, 111, 114, 101]
abbrev wStart : Tx := [115, 116, 97, 114, 116]
abbrev wEnd : Tx := [101, 110, 100]
def tableAt (t : Tx) (m p : Nat) : Option (Tb × Nat) :=
  match allSome (rowsL t m p []).1, rootBy (rowWords t (rowsL t m p []).2).1,
    placeBy (rowWords t (rowWords t (rowsL t m p []).2).2).1 wBefore true,
    placeBy (rowWords t (rowWords t (rowWords t (rowsL t m p []).2).2).2).1 wStart false with
  | some rs, some r, some b, some s => if (rowWords t (rowWords t (rowWords t (rowWords t (rowsL t m p []).2).2).2).2).1 = [wEnd] then
      some (⟨rs, r, b, s⟩, (rowWords t (rowWords t (rowWords t (rowWords t (rowsL t m p []).2).2).2).2).2) else none
  | _, _, _, _ => none
def smallBy (ws : List Tx) : Option D := match ws with
  | [] => none
  | w :: r => if w = wRoot then (match rootBy (w :: r) with
      | none => none
      | some none => some (.tup [.str wRoot, .non, .non])
      | some (some (n, e)) => some (.tup [.str wRoot, .int n, .int e]))
    else if w = wSeal ∧ r.length = 3 then (match r with
      | [a, b, c] => some (.tup [.str wSeal, .str a, .str b, numD (numBy c)])
      | _ => none)
    else if w = wFree ∨ w = wOld then some (.tup (.str w :: r.map fun a => numD (numBy a))) else none
def anyAt (t : Tx) (p : Nat) : Option (D × Nat) := match (rowWords t p).1 with
  | [] => none
  | w :: r =>
    if w = wThing ∧ r.length = 2 then (match valueAt t (rowWords t p).2 with
      | none => none
      | some (v, f) => if t[f]? = some 10 then some (.tup (.str wThing :: (r.map fun a => numD (numBy a)) ++ [v.d]), f + 1) else none)
    else if w = wPack ∧ r.length = 1 then (match r with
      | [a] => (match numBy a with
        | none => none
        | some m => if 20 < m then none else (packL t m (rowWords t p).2 []).map fun q => (.tup [.str wPack, .tup (q.1.map Pk.d)], q.2))
      | _ => none)
    else if w = wTable ∧ r.length = 1 then (match r with
      | [a] => (match numBy a with
        | none => none
        | some m => if 200 < m then none else (tableAt t m (rowWords t p).2).map fun q => (q.1.d, q.2))
      | _ => none)
    else (smallBy (w :: r)).map fun d => (d, (rowWords t p).2)
end Lw
end
section
namespace Lw
open Fw Pl
theorem lineAt_len (t : Tx) (p : Nat) : (lineAt t p).length ≤ t.length := by
  have := tw_len (fun c => decide (c ≠ 10)) (t.drop p)
  have l : (t.drop p).length = t.length - p := List.length_drop
  unfold lineAt
  omega
theorem rw_ok {t : Tx} (ht : okT t) {p : Nat} {w : Tx} (h : w ∈ (rowWords t p).1) : okT w ∧ w.length ≤ t.length := by
  unfold rowWords at h
  split at h
  · have hl := lineAt_len t p
    refine ⟨fun c hc => ?_, ?_⟩
    · rcases spw_mem _ _ _ h c hc with q | q
      · cases q
      · have hm : c ∈ t.drop p := List.takeWhile_subset _ q.1
        exact ht c (List.mem_of_mem_drop hm)
    · have := spw_len _ _ _ h
      simp at this
      omega
  · cases h
theorem rw_many (t : Tx) (p : Nat) : (rowWords t p).1.length ≤ t.length + 1 := by
  unfold rowWords
  split
  · have := spw_many (lineAt t p) []
    have := lineAt_len t p
    simp only
    omega
  · simp
end Lw
end
section
namespace Lw
open Fw Pl
def okW (ws : List Tx) : Prop := (∀ w ∈ ws, okT w ∧ w.length ≤ line) ∧ ws.length ≤ line
theorem okW_row {t : Tx} (ht : okT t) (hl : t.length + 2 ≤ line) (p : Nat) : okW (rowWords t p).1 := by
  refine ⟨fun w hw => ?_, ?_⟩
  · have := rw_ok ht hw
    exact ⟨this.1, by omega⟩
  · have := rw_many t p
    omega
theorem cl_ints : ∀ ns : List Nat, closedAll (ns.map fun (n : Nat) => D.int n) = true
  | [] => rfl
  | n :: ns => by simp [cl_ints ns]
end Lw
end
section
namespace Lw
open Fw Pl
structure OkF (F : Nat) (t : Tx) : Prop where
  ok : okT t
  hm : t.length ≤ 999000
  hF : t.length + 61 < F
theorem OkF.hl {F : Nat} {t : Tx} (O : OkF F t) : t.length + 2 ≤ line := by
  have := O.hm
  have : line = 16777216 := Pl.line_eq
  omega
theorem OkF.w {F : Nat} {t : Tx} (O : OkF F t) (p : Nat) : okW (rowWords t p).1 := okW_row O.ok O.hl p
@[simp] theorem pk_closed (r : Pk) : (Pk.d r).closed = true := by simp [Pk.d, Vl.closed]
@[simp] theorem rw_closed (r : Rw) : (Rw.d r).closed = true := by simp [Rw.d, cl_ints]
end Lw
end
section
namespace Lw
open Fw Pl
end Lw
end
section
namespace Lw
open Fw Pl
end Lw
end
section
namespace Lw
open Fw Pl
end Lw
end
section
namespace Lw
open Fw Pl
end Lw
end
section
namespace Lw
open Fw Pl
def rootP : Option (Nat × Nat) → D
  | none => .tup [.str wRoot, .non, .non]
  | some q => .tup [.str wRoot, .int q.1, .int q.2]
end Lw
end
section
namespace Pl
open Fw
def numT (i : Int) : Tx := (PySem.Str.ofString (toString i)).cps.toList
def esc : Tx → Tx
  | [] => []
  | c :: s => if c = 40 ∨ c = 41 ∨ c = 92 then 92 :: c :: esc s else c :: esc s
mutual
def Vl.tx : Vl → Tx
  | .non => [110, 111, 110, 101]
  | .int i => numT i
  | .str s => 40 :: (esc s ++ [41])
  | .name s => 47 :: s
  | .to k e => numT k ++ 58 :: numT e
  | .row vs => 91 :: (joinT [32] (txAll vs) ++ [93])
  | .table es => 60 :: (joinT [32] (txEnt es) ++ [62])
  | .stream es s => 60 :: (joinT [32] (txEnt es) ++ [62]) ++ STREAM ++ numT s.length ++ 10 :: s
def txAll : List Vl → List Tx
  | [] => []
  | v :: vs => v.tx :: txAll vs
def txEnt : List (Tx × Vl) → List Tx
  | [] => []
  | e :: es => (e.1 ++ 32 :: e.2.tx) :: txEnt es
end
def entT (es : Es) : Tx := 60 :: (joinT [32] (txEnt es) ++ [62])
theorem txAll_map (vs : List Vl) : txAll vs = vs.map Vl.tx := by
  induction vs with
  | nil => rfl
  | cons v vs ih => simp [txAll, ih]
theorem esc_len (s : Tx) : (esc s).length ≤ 2 * s.length := by
  induction s with
  | nil => simp [esc]
  | cons c s ih =>
    simp only [esc]
    split <;> simp <;> omega
def small (i : Int) : Prop := -1000000000000000000000000000000 < i ∧ i < 1000000000000000000000000000000
theorem strV_num {i : Int} (h : small i) (hh : Hh) : strV hh (.int i) = some (.str (numT i)) := by
  have q := int_fine h.1 h.2
  simp only [strV]
  rw [if_pos (by simpa [D.neat] using q.1)]
  rfl
theorem num_len {i : Int} (h : small i) : (numT i).length ≤ 31 := by
  have q := (int_fine h.1 h.2).2
  simp only [D.dat, PySem.PyData.leavesShort, decide_eq_true_eq, PySem.PyData.shown] at q
  simpa [PySem.Str.length, numT] using q
theorem joinT_len' : ∀ (sep : Tx) (ts : List Tx), (joinT sep ts).length ≤ (ts.map List.length).sum + ts.length * sep.length
  | sep, [] => by simp [joinT]
  | sep, [t] => by simp [joinT]
  | sep, t :: u :: ts => by
    have := joinT_len' sep (u :: ts)
    simp only [joinT, List.length_append, List.map_cons, List.sum_cons, List.length_cons, Nat.succ_mul] at this ⊢
    omega
end Pl
end
section
namespace Pl
open Fw
theorem numT_nat (n : Nat) : numT (n : Int) = TL.numL n := TL.tl_num n
theorem numT_neg (n : Nat) : numT (Int.negSucc n) = 45 :: TL.numL (n + 1) := by
  have e : toString (Int.negSucc n) = "-" ++ Nat.repr (n + 1) := rfl
  have e2 : toString ((n + 1 : Nat) : Int) = Nat.repr (n + 1) := rfl
  have h2 := numT_nat (n + 1)
  unfold numT at h2 ⊢
  rw [e2] at h2
  rw [e, ← h2]
  have a1 := TL.tl_ofString ("-" ++ Nat.repr (n + 1))
  have a2 := TL.tl_ofString (Nat.repr (n + 1))
  show TL.tl _ = 45 :: TL.tl _
  rw [a1, a2, String.toList_append]
  rfl
theorem numL_head : ∀ n : Nat, 0 < n → ∃ c r, TL.numL n = c :: r ∧ 49 ≤ c := by
  intro n
  induction n using Nat.strongRecOn with
  | _ n ih =>
    intro h
    by_cases h10 : n < 10
    · exact ⟨48 + n, [], TL.numL_lt h10, by omega⟩
    · obtain ⟨c, r, e, hc⟩ := ih (n / 10) (by omega) (by omega)
      rw [TL.numL_step (by omega), e]
      exact ⟨c, r ++ [48 + n % 10], rfl, hc⟩
theorem numL_fig {n c : Nat} (h : c ∈ TL.numL n) : c ∈ FIG := by
  have := TL.numL_digits n c h
  simp
  omega
theorem drop_next {t u w : Tx} {p : Nat} (h : t.drop p = u ++ w) : t.drop (p + u.length) = w := by
  rw [← List.drop_drop, h, List.drop_left]
theorem drop_cons {t w : Tx} {p c : Nat} (h : t.drop p = c :: w) : t[p]? = some c ∧ t.drop (p + 1) = w := by
  constructor
  · have : (t.drop p)[0]? = some c := by rw [h]; rfl
    rwa [List.getElem?_drop, Nat.add_zero] at this
  · rw [← List.drop_drop, h]
    rfl
theorem drop_nil {t : Tx} {p : Nat} (h : t.drop p = []) : t[p]? = none := by
  have : (t.drop p)[0]? = none := by rw [h]; rfl
  rwa [List.getElem?_drop, Nat.add_zero] at this
theorem sub_drop {t u w : Tx} {p : Nat} (h : t.drop p = u ++ w) : sub t p (p + u.length) = u := by
  unfold sub
  rw [h, Nat.add_sub_cancel_left, List.take_left]
def stops (ss w : Tx) : Prop := ∀ c r, w = c :: r → c ∉ ss
theorem stops_nil {ss : Tx} : stops ss [] := fun _ _ h => by cases h
theorem stops_cons {ss w : Tx} {c : Nat} (h : c ∉ ss) : stops ss (c :: w) := fun d r e => by
  cases e
  exact h
theorem tw_app {f : Nat → Bool} {w : Tx} (hw : ∀ c r, w = c :: r → f c = false) : ∀ {u : Tx}, (∀ c ∈ u, f c = true) → (u ++ w).takeWhile f = u
  | [], _ => by
    cases w with
    | nil => rfl
    | cons c w =>
      have := hw c w rfl
      simp [List.takeWhile_cons, this]
  | c :: u, hu => by
    have h1 := hu c List.mem_cons_self
    have ih := tw_app hw (u := u) fun d hd => hu d (List.mem_cons_of_mem _ hd)
    simp [List.takeWhile_cons, h1, ih]
theorem endOf_drop {t u w ss : Tx} {p : Nat} (h : t.drop p = u ++ w) (hu : ∀ c ∈ u, c ∈ ss) (hw : stops ss w) : endOf t p ss = p + u.length := by
  unfold endOf
  rw [h, tw_app (fun c r e => by simpa using hw c r e) (fun c hc => by simpa using hu c hc)]
theorem figs_num {t w : Tx} {p n : Nat} (h : t.drop p = TL.numL n ++ w) (hw : stops FIG w) (hn : n < 10 ^ 30) : figs t p = some ((n : Int), p + (TL.numL n).length) := by
  have e := endOf_drop h (fun c hc => numL_fig hc) hw
  have l1 := TL.numL_len (n := n) (k := 30) (by decide) hn
  have l2 : 0 < (TL.numL n).length := List.length_pos_iff.mpr (TL.numL_ne n)
  unfold figs
  rw [e, sub_drop h, TL.numL_val, if_pos]
  refine ⟨by omega, ?_⟩
  rintro ⟨h48, hlt⟩
  by_cases h0 : n = 0
  · subst h0
    have : (TL.numL 0).length = 1 := by rw [TL.numL_lt (by decide)]; rfl
    omega
  · obtain ⟨c, r, e2, hc⟩ := numL_head n (by omega)
    rw [e2] at h
    have := (drop_cons h).1
    rw [h48] at this
    cases this
    omega
theorem wordAt_drop {t u w : Tx} {p : Nat} (h : t.drop p = u ++ w) (hu : WordOk u) (hw : stops LET w) : wordAt t p = some (u, p + u.length) := by
  have e := endOf_drop h (ss := LET) (fun c hc => by
    have := hu.2.2 c hc
    unfold letter at this
    simp
    omega) hw
  have h1 := hu.1
  have h2 := hu.2.1
  unfold wordAt
  rw [e, sub_drop h, if_pos (by omega)]
theorem strS_drop {t w : Tx} : ∀ {s f : Tx} {p : Nat}, t.drop p = esc s ++ 41 :: w → (∀ c ∈ s, signOk c) → strS t p f = some (f ++ s, p + (esc s).length + 1)
  | [], f, p, h, _ => by
    have := (drop_cons h).1
    rw [strS_some this]
    simp [esc]
  | c :: s, f, p, h, hs => by
    have hc := hs c List.mem_cons_self
    have hs' : ∀ d ∈ s, signOk d := fun d hd => hs d (List.mem_cons_of_mem _ hd)
    simp only [esc] at h ⊢
    split at h
    · rename_i hm
      rw [if_pos hm]
      have h1 := drop_cons h
      have h2 := drop_cons h1.2
      rw [strS_some h1.1, h2.1]
      have hm' : c = 40 ∨ c = 41 ∨ c = 92 := hm
      have ih := strS_drop (f := f ++ [c]) (p := p + 2) h2.2 hs'
      simp [hm', ih]
      omega
    · rename_i hm
      rw [if_neg hm]
      have h1 := drop_cons h
      rw [strS_some h1.1]
      have ih := strS_drop (f := f ++ [c]) (p := p + 1) h1.2 hs'
      have hc' : 32 ≤ c ∧ c ≤ 126 := hc
      have m1 : c ≠ 40 := fun e => hm (.inl e)
      have m2 : c ≠ 41 := fun e => hm (.inr (.inl e))
      have m3 : c ≠ 92 := fun e => hm (.inr (.inr e))
      simp [m1, m2, m3, hc', ih]
      omega
theorem strAt_drop {t w s : Tx} {p : Nat} (h : t.drop p = 40 :: (esc s ++ 41 :: w)) (hs : ∀ c ∈ s, signOk c) (hl : s.length ≤ 200) : strAt t p = some (.str s, p + (esc s).length + 2) := by
  unfold strAt
  rw [strS_drop (f := []) (drop_cons h).2 hs]
  simp [hl]
  omega
end Pl
end
section
namespace Pl
open Fw
mutual
def Vl.nest : Vl → Nat
  | .row vs => nestAll vs + 1
  | .table es => nestEnt es + 1
  | .stream es _ => nestEnt es + 1
  | _ => 0
def nestAll : List Vl → Nat
  | [] => 0
  | v :: vs => max v.nest (nestAll vs)
def nestEnt : List (Tx × Vl) → Nat
  | [] => 0
  | e :: es => max e.2.nest (nestEnt es)
end
mutual
theorem nest_le : ∀ v : Vl, v.nest ≤ v.deep
  | .non => Nat.zero_le _
  | .int _ => Nat.zero_le _
  | .str _ => Nat.zero_le _
  | .name _ => Nat.zero_le _
  | .to _ _ => Nat.zero_le _
  | .row vs => by have := nestAll_le' vs; simp only [Vl.nest, Vl.deep]; omega
  | .table es => by have := nestEnt_le' es; simp only [Vl.nest, Vl.deep]; omega
  | .stream es _ => by have := nestEnt_le' es; simp only [Vl.nest, Vl.deep]; omega
theorem nestAll_le' : ∀ vs : List Vl, nestAll vs ≤ deepAll vs
  | [] => Nat.le_refl _
  | v :: vs => by
    have h1 := nest_le v
    have h2 := nestAll_le' vs
    simp only [nestAll, deepAll]
    omega
theorem nestEnt_le' : ∀ es : List (Tx × Vl), nestEnt es ≤ deepEnt es
  | [] => Nat.le_refl _
  | e :: es => by
    have h1 := nest_le e.2
    have h2 := nestEnt_le' es
    simp only [nestEnt, deepEnt]
    omega
end
theorem nestAll_ge {v : Vl} : ∀ {vs : List Vl}, v ∈ vs → v.nest ≤ nestAll vs
  | [], h => by cases h
  | u :: vs, h => by
    simp only [nestAll]
    rcases List.mem_cons.mp h with rfl | h
    · omega
    · have := nestAll_ge h
      omega
theorem nestEnt_ge {v : Vl} : ∀ {es : List (Tx × Vl)}, v ∈ es.map (·.2) → v.nest ≤ nestEnt es
  | [], h => by cases h
  | e :: es, h => by
    simp only [nestEnt]
    rcases List.mem_cons.mp h with h1 | h
    · have h2 : v = e.2 := h1
      subst h2
      omega
    · have := nestEnt_ge h
      omega
theorem part_nest {v p : Vl} (h : p ∈ v.parts) : p.nest < v.nest := by
  cases v with
  | row vs => have := nestAll_ge (vs := vs) h; simp [Vl.nest]; omega
  | table es => have := nestEnt_ge (es := es) h; simp [Vl.nest]; omega
  | stream es s => have := nestEnt_ge (es := es) h; simp [Vl.nest]; omega
  | _ => cases h
end Pl
end
section
namespace Pl
open Fw
abbrev GOON : Tx := FIG ++ LET ++ [58]
def stopV (w : Tx) : Prop := stops GOON w
theorem stopV_fig {w : Tx} (h : stopV w) : stops FIG w := fun c r e hc => h c r e (by simp only [GOON, List.mem_append]; exact .inl (.inl hc))
theorem stopV_let {w : Tx} (h : stopV w) : stops LET w := fun c r e hc => h c r e (by simp only [GOON, List.mem_append]; exact .inl (.inr hc))
theorem stopV_col {t w : Tx} {p : Nat} (h : stopV w) (e : t.drop p = w) : t[p]? ≠ some 58 := by
  intro q
  cases w with
  | nil => rw [drop_nil e] at q; cases q
  | cons c w =>
    rw [(drop_cons e).1] at q
    cases q
    exact h 58 w rfl (by simp)
def Rd (t : Tx) (P : Nat → Option (Vl × Nat)) (v : Vl) : Prop := ∀ p w, t.drop p = v.tx ++ w → stopV w → P p = some (v, p + v.tx.length)
theorem rowL_rt {t w : Tx} {P : Nat → Option (Vl × Nat)} : ∀ {vs : List Vl} {n a : Nat} {f : List Vl}, (∀ v ∈ vs, Rd t P v) → vs ≠ [] → vs.length ≤ n → t.drop a = joinT [32] (txAll vs) ++ 93 :: w →
    rowL P t n a f = some (f ++ vs, a + (joinT [32] (txAll vs)).length + 1)
  | [], _, _, _, _, h, _, _ => absurd rfl h
  | [v], 0, _, _, _, _, h, _ => by simp at h
  | [v], n + 1, a, f, hr, _, _, h => by
    have e := hr v (by simp) a (93 :: w) (by simpa [txAll, joinT] using h) (stops_cons (by decide))
    have h2 := (drop_cons (drop_next (u := v.tx) (w := 93 :: w) (by simpa [txAll, joinT] using h))).1
    simp [rowL, e, h2, txAll, joinT]
  | v :: u :: vs, 0, _, _, _, _, h, _ => by simp at h
  | v :: u :: vs, n + 1, a, f, hr, _, hn, h => by
    have h' : t.drop a = v.tx ++ 32 :: (joinT [32] (txAll (u :: vs)) ++ 93 :: w) := by simpa [txAll, joinT] using h
    have e := hr v (by simp) a _ h' (stops_cons (by decide))
    have h2 := drop_cons (drop_next h')
    have ih := rowL_rt (f := f ++ [v]) (n := n) (a := a + v.tx.length + 1) (fun x hx => hr x (List.mem_cons_of_mem _ hx)) (by simp) (by simpa using hn) h2.2
    simp only [rowL, e, h2.1]
    have c1 : ¬ (some (32 : Nat) = some 93) := by decide
    rw [if_neg c1, if_pos trivial, ih]
    simp [txAll, joinT]
    omega
theorem entAt_rt {t w : Tx} {P : Nat → Option (Vl × Nat)} {e : Tx × Vl} {p : Nat} (hw : WordOk e.1) (hr : Rd t P e.2) (h : t.drop p = e.1 ++ 32 :: (e.2.tx ++ w)) (hs : stopV w) :
    entAt P t p = some (e, p + (e.1 ++ 32 :: e.2.tx).length) := by
  have e1 := wordAt_drop h hw (stops_cons (by decide))
  have h2 := drop_cons (drop_next h)
  have e2 := hr _ w h2.2 hs
  simp [entAt, e1, h2.1, e2]
  omega
theorem entL_rt {t w : Tx} {P : Nat → Option (Vl × Nat)} : ∀ {es : Es} {n a : Nat} {f : Es}, (∀ e ∈ es, WordOk e.1 ∧ Rd t P e.2) → rises ((f ++ es).map (·.1)) → es ≠ [] → es.length ≤ n → t.drop a = joinT [32] (txEnt es) ++ 62 :: w →
    entL P t n a f = some (f ++ es, a + (joinT [32] (txEnt es)).length + 1) := by
  have notstuck : ∀ {f es : Es} {e : Tx × Vl}, rises ((f ++ e :: es).map (·.1)) → stuck f e.1 = false := by
    intro f es e hr
    unfold stuck
    cases hl : f.getLast? with
    | none => rfl
    | some l =>
      have hm := List.mem_of_getLast? hl
      rw [rises, List.map_append, List.pairwise_append] at hr
      have := hr.2.2 l.1 (List.mem_map.mpr ⟨l, hm, rfl⟩) e.1 (List.mem_map.mpr ⟨e, List.mem_cons_self, rfl⟩)
      simp [this]
  intro es
  induction es with
  | nil => intro _ _ _ _ _ h; exact absurd rfl h
  | cons e es ih =>
    intro n a f hr hrs _ hn h
    cases n with
    | zero => simp at hn
    | succ n =>
      have he := hr e List.mem_cons_self
      have ns := notstuck hrs
      cases es with
      | nil =>
        have h' : t.drop a = e.1 ++ 32 :: (e.2.tx ++ 62 :: w) := by simpa [txEnt, joinT] using h
        have e1 := entAt_rt he.1 he.2 h' (stops_cons (by decide))
        have h2 := (drop_cons (drop_next (t := t) (p := a) (u := e.1 ++ 32 :: e.2.tx) (w := 62 :: w) (by simpa using h'))).1
        simp only [List.length_append, List.length_cons] at h2 e1
        simp [entL, e1, ns, h2, txEnt, joinT]
      | cons d es =>
        have h' : t.drop a = e.1 ++ 32 :: (e.2.tx ++ 32 :: (joinT [32] (txEnt (d :: es)) ++ 62 :: w)) := by simpa [txEnt, joinT] using h
        have e1 := entAt_rt he.1 he.2 h' (stops_cons (by decide))
        have h2 := drop_cons (drop_next (t := t) (p := a) (u := e.1 ++ 32 :: e.2.tx) (w := 32 :: (joinT [32] (txEnt (d :: es)) ++ 62 :: w)) (by simpa using h'))
        have ih := ih (n := n) (a := a + (e.1 ++ 32 :: e.2.tx).length + 1) (f := f ++ [e]) (fun x hx => hr x (List.mem_cons_of_mem _ hx)) (by simpa using hrs) (by simp) (by simpa using hn) h2.2
        simp only [entL, e1, ns, h2.1]
        have c1 : ¬ (some (32 : Nat) = some 62) := by decide
        rw [if_neg (by decide), if_neg c1, if_pos trivial, ih]
        simp [txEnt, joinT]
        omega
theorem isNone_not {t : Tx} {p c : Nat} (h : t[p]? = some c) (hc : c ≠ 110) : isNone t p = false := by
  have : sub t p (p + 4) ≠ [110, 111, 110, 101] := by
    intro e
    have e2 : (sub t p (p + 4))[0]? = some 110 := by rw [e]; rfl
    unfold sub at e2
    rw [List.getElem?_take_of_lt (by omega), List.getElem?_drop, Nat.add_zero, h] at e2
    cases e2
    exact hc rfl
  simp [isNone, this]
theorem num_rt {t w : Tx} {p n : Nat} (h : t.drop p = TL.numL n ++ w) (hn : n < 10 ^ 30) (hs : stopV w) : numAt t p = some (.int (n : Int), p + (TL.numL n).length) := by
  have e := figs_num h (stopV_fig hs) hn
  have c := stopV_col hs (drop_next h)
  simp [numAt, e, c]
theorem to_rt {t w : Tx} {p k e : Nat} (h : t.drop p = TL.numL k ++ 58 :: (TL.numL e ++ w)) (h1 : 1 ≤ k) (h2 : k ≤ 200) (h3 : e ≤ 99) (hs : stopV w) : numAt t p = some (.to k e, p + (TL.numL k ++ 58 :: TL.numL e).length) := by
  have e1 := figs_num h (stops_cons (by decide)) (by omega)
  have c1 := drop_cons (drop_next h)
  have e2 := figs_num c1.2 (stopV_fig hs) (by omega)
  have e3 := endOf_drop c1.2 (fun c hc => numL_fig hc) (stopV_fig hs)
  have l : 0 < (TL.numL e).length := List.length_pos_iff.mpr (TL.numL_ne e)
  have n1 : ¬ (TL.numL e).length = 0 := by omega
  have n2 : ¬ (99 : Int) < (e : Int) := by omega
  have n3 : (1 : Int) ≤ (k : Int) ∧ (k : Int) ≤ 200 := by omega
  simp only [numAt, e1, c1.1, e3, e2]
  have n4 : ¬ (some (58 : Nat) ≠ some 58 ∨ p + (TL.numL k).length + 1 + (TL.numL e).length = p + (TL.numL k).length + 1) := by
    rintro (q | q)
    · exact q rfl
    · omega
  rw [if_neg n4, if_neg (by omega)]
  simp
  omega
theorem numL_fst (n : Nat) : ∃ c r, TL.numL n = c :: r ∧ 48 ≤ c ∧ c ≤ 57 := by
  cases h : TL.numL n with
  | nil => exact absurd h (TL.numL_ne n)
  | cons c r =>
    have := TL.numL_digits n c (by rw [h]; exact List.mem_cons_self)
    exact ⟨c, r, rfl, this.1, this.2⟩
theorem step_num {t w : Tx} {inner : Option (Nat → Option (Vl × Nat))} {p n : Nat} (h : t.drop p = TL.numL n ++ w) : plainStep t inner p = numAt t p := by
  obtain ⟨c, r, e, h1, h2⟩ := numL_fst n
  rw [e] at h
  have h3 := (drop_cons h).1
  have hn := isNone_not h3 (by omega)
  simp only [plainStep, hn, h3]
  have : c ≠ 45 ∧ c ≠ 40 ∧ c ≠ 47 ∧ c ≠ 91 ∧ c ≠ 60 := by omega
  obtain ⟨a1, a2, a3, a4, a5⟩ := this
  simp
  split <;> first | rfl | (rename_i q; cases q; omega)
theorem joinT_fst {sep a : Tx} {ts : List Tx} : ∃ r, joinT sep (a :: ts) = a ++ r := by
  cases ts with
  | nil => exact ⟨[], by simp [joinT]⟩
  | cons b ts => exact ⟨sep ++ joinT sep (b :: ts), by simp [joinT]⟩
def firstOk (c : Nat) : Prop := c = 110 ∨ c = 45 ∨ c = 40 ∨ c = 47 ∨ c = 91 ∨ c = 60 ∨ (48 ≤ c ∧ c ≤ 57)
theorem tx_fst {v : Vl} (h : v.ok) : ∃ c r, v.tx = c :: r ∧ firstOk c := by
  cases v with
  | non => exact ⟨_, _, rfl, .inl rfl⟩
  | int i =>
    cases i with
    | ofNat n =>
      obtain ⟨c, r, e, h1, h2⟩ := numL_fst n
      exact ⟨c, r, (numT_nat n).trans e, by unfold firstOk; omega⟩
    | negSucc n => exact ⟨45, _, numT_neg n, .inr (.inl rfl)⟩
  | str s => exact ⟨_, _, rfl, by unfold firstOk; omega⟩
  | name s => exact ⟨_, _, rfl, by unfold firstOk; omega⟩
  | to k e =>
    have h0 : 1 ≤ k := h.1
    obtain ⟨k, rfl⟩ : ∃ n : Nat, k = n := ⟨k.toNat, by omega⟩
    obtain ⟨c, r, e2, h1, h2⟩ := numL_fst k
    exact ⟨c, r ++ 58 :: numT e, by simp [Vl.tx, numT_nat, e2], by unfold firstOk; omega⟩
  | row vs => exact ⟨_, _, rfl, by unfold firstOk; omega⟩
  | table es => exact ⟨_, _, rfl, by unfold firstOk; omega⟩
  | stream es s => exact ⟨_, _, rfl, by unfold firstOk; omega⟩
def isHold : Vl → Bool
  | .row _ => true
  | .table _ => true
  | _ => false
def holds (t : Tx) (inner : Option (Nat → Option (Vl × Nat))) (v : Vl) : Prop := ∃ P, inner = some P ∧ ∀ u ∈ v.parts, Rd t P u
theorem step_rt {t w : Tx} {inner : Option (Nat → Option (Vl × Nat))} {v : Vl} {p : Nat} (hv : v.pl) (hi : isHold v = true → holds t inner v) (h : t.drop p = v.tx ++ w) (hs : stopV w) : plainStep t inner p = some (v, p + v.tx.length) := by
  cases v with
  | non =>
    have e1 := endOf_drop (t := t) (p := p) (u := [110, 111, 110, 101]) (w := w) (ss := LET) h (by simp) (stopV_let hs)
    have e2 : sub t p (p + 4) = [110, 111, 110, 101] := sub_drop h
    simp at e1
    simp [plainStep, isNone, e1, e2, Vl.tx]
  | int i =>
    cases i with
    | ofNat n =>
      have h' : t.drop p = TL.numL n ++ w := by rw [h]; show numT (n : Int) ++ w = _; rw [numT_nat]
      rw [step_num h', num_rt h' (by have := hv.2; simp at this; omega) hs]
      simp [Vl.tx, numT_nat]
    | negSucc n =>
      have e0 : (Vl.int (Int.negSucc n)).tx = 45 :: TL.numL (n + 1) := numT_neg n
      rw [e0] at h ⊢
      have h1 := drop_cons h
      have hn := isNone_not h1.1 (by decide)
      have e1 := figs_num h1.2 (stopV_fig hs) (by have := hv.1; omega)
      have n0 : ¬ ((n + 1 : Nat) : Int) = 0 := by omega
      simp only [plainStep, hn, h1.1, e1]
      simp only [Bool.false_eq_true, if_false, if_neg n0]
      simp
      omega
  | str s =>
    have h1 : t.drop p = 40 :: (esc s ++ 41 :: w) := by simpa [Vl.tx] using h
    have h2 := drop_cons h1
    have hn := isNone_not h2.1 (by decide)
    have e := strAt_drop h1 hv.2 hv.1
    simp only [plainStep, hn, h2.1, e]
    simp [Vl.tx]
    omega
  | name s =>
    have h1 : t.drop p = 47 :: (s ++ w) := by simpa [Vl.tx] using h
    have h2 := drop_cons h1
    have hn := isNone_not h2.1 (by decide)
    have e := wordAt_drop h2.2 hv (stopV_let hs)
    simp only [plainStep, hn, h2.1, e]
    simp [Vl.tx]
    omega
  | to k e =>
    obtain ⟨a1, a2, a3, a4⟩ := hv
    obtain ⟨k, rfl⟩ : ∃ n : Nat, k = n := ⟨k.toNat, by omega⟩
    obtain ⟨e, rfl⟩ : ∃ n : Nat, e = n := ⟨e.toNat, by omega⟩
    have e0 : (Vl.to (k : Int) (e : Int)).tx = TL.numL k ++ 58 :: TL.numL e := by simp [Vl.tx, numT_nat]
    rw [e0] at h ⊢
    have h1 : t.drop p = TL.numL k ++ 58 :: (TL.numL e ++ w) := by simpa using h
    rw [step_num h1, to_rt h1 (by omega) (by omega) (by omega) hs]
  | row vs =>
    obtain ⟨P, rfl, hP⟩ := hi rfl
    have hP : ∀ u ∈ vs, Rd t P u := hP
    have h1 : t.drop p = 91 :: (joinT [32] (txAll vs) ++ 93 :: w) := by simpa [Vl.tx] using h
    have h2 := drop_cons h1
    have hn := isNone_not h2.1 (by decide)
    simp only [plainStep, hn, h2.1]
    by_cases hv0 : vs = []
    · subst hv0
      have h3 := (drop_cons (by simpa [txAll, joinT] using h2.2 : t.drop (p + 1) = 93 :: w)).1
      simp [rowAt, h3, Vl.tx, txAll, joinT]
    · have h3 : t[p + 1]? ≠ some 93 := by
        intro q
        cases vs with
        | nil => exact hv0 rfl
        | cons v vs =>
          obtain ⟨c, r, e0, hc⟩ := tx_fst (pl_ok (plAll_iff.mp hv.2 v List.mem_cons_self))
          obtain ⟨r2, e1⟩ := joinT_fst (sep := [32]) (a := v.tx) (ts := txAll vs)
          have h4 : t.drop (p + 1) = c :: (r ++ r2 ++ 93 :: w) := by
            rw [h2.2, txAll, e1, e0]
            simp
          rw [(drop_cons h4).1] at q
          cases q
          unfold firstOk at hc
          omega
      have e := rowL_rt (n := 60) (a := p + 1) (f := []) hP hv0 hv.1 h2.2
      simp [rowAt, h3, e, Vl.tx]
      omega
  | table es =>
    obtain ⟨P, rfl, hP⟩ := hi rfl
    have h1 : t.drop p = 60 :: (joinT [32] (txEnt es) ++ 62 :: w) := by simpa [Vl.tx] using h
    have h2 := drop_cons h1
    have hn := isNone_not h2.1 (by decide)
    simp only [plainStep, hn, h2.1]
    by_cases hv0 : es = []
    · subst hv0
      have h3 := (drop_cons (by simpa [txEnt, joinT] using h2.2 : t.drop (p + 1) = 62 :: w)).1
      simp [tabAt, h3, Vl.tx, txEnt, joinT]
    · have he := plEnt_iff.mp hv.2.2
      have h3 : t[p + 1]? ≠ some 62 := by
        intro q
        cases es with
        | nil => exact hv0 rfl
        | cons e es =>
          have hw := (he e List.mem_cons_self).1
          obtain ⟨c, r, e0⟩ : ∃ c r, e.1 = c :: r := by
            cases h : e.1 with
            | nil => rw [h] at hw; have := hw.1; simp at this
            | cons c r => exact ⟨c, r, rfl⟩
          obtain ⟨r2, e1⟩ := joinT_fst (sep := [32]) (a := e.1 ++ 32 :: e.2.tx) (ts := txEnt es)
          have h4 : t.drop (p + 1) = c :: (r ++ 32 :: e.2.tx ++ r2 ++ 62 :: w) := by
            rw [h2.2, txEnt, e1, e0]
            simp
          rw [(drop_cons h4).1] at q
          cases q
          have := hw.2.2 62 (by rw [e0]; exact List.mem_cons_self)
          unfold letter at this
          omega
      have e := entL_rt (n := 30) (a := p + 1) (f := []) (fun e q => ⟨(he e q).1, hP e.2 (List.mem_map.mpr ⟨e, q, rfl⟩)⟩) (by simpa using hv.2.1) hv0 hv.1 h2.2
      simp [tabAt, h3, e, Vl.tx]
      omega
  | stream es s => exact hv.elim
theorem plain_rtN {t : Tx} : ∀ (k : Nat) (v : Vl), v.pl → v.nest ≤ k → Rd t (plainAt t k) v
  | 0, v, hv, hd => fun p w h hs => step_rt hv (fun q => by cases v <;> first | (cases q; done) | (simp [Vl.nest] at hd)) h hs
  | k + 1, v, hv, hd => fun p w h hs => step_rt hv (fun _ => ⟨plainAt t k, rfl, fun u hu => plain_rtN k u (by
      cases v with
      | row vs => exact plAll_iff.mp hv.2 u hu
      | table es =>
        obtain ⟨e, he, rfl⟩ := List.mem_map.mp hu
        exact (plEnt_iff.mp hv.2.2 e he).2
      | stream es s => exact hv.elim
      | _ => cases hu) (by have := part_nest hu; omega)⟩) h hs
theorem value_plainN {t w : Tx} {v : Vl} {p : Nat} (hv : v.pl) (hd : v.nest ≤ 30) (h : t.drop p = v.tx ++ w) (hs : stopV w) (hw : w.take 8 ≠ STREAM) : valueAt t p = some (v, p + v.tx.length) := by
  have e := plain_rtN (t := t) 30 v hv hd p w h hs
  have e2 : sub t (p + v.tx.length) (p + v.tx.length + 8) = w.take 8 := by
    unfold sub
    rw [drop_next h, Nat.add_sub_cancel_left]
  simp only [valueAt, e, e2]
  rw [if_pos (.inr hw)]
theorem value_streamN {t w s : Tx} {es : Es} {p : Nat} (hv : (Vl.stream es s).ok) (hd : (Vl.stream es s).nest ≤ 30) (h : t.drop p = (Vl.stream es s).tx ++ w) : valueAt t p = some (.stream es s, p + (Vl.stream es s).tx.length) := by
  obtain ⟨h1, h2, h3, h4, h5⟩ := hv
  have hp : (Vl.table es).pl := ⟨h1, h2, h3⟩
  have e0 : (Vl.stream es s).tx = (Vl.table es).tx ++ (STREAM ++ (TL.numL s.length ++ 10 :: s)) := by
    simp [Vl.tx, numT_nat]
  have ha : t.drop p = (Vl.table es).tx ++ (STREAM ++ (TL.numL s.length ++ 10 :: (s ++ w))) := by
    rw [h, e0]
    simp
  have e := plain_rtN (t := t) 30 (.table es) hp hd p _ ha (stops_cons (by decide))
  have hb := drop_next ha
  have e2 : sub t (p + (Vl.table es).tx.length) (p + (Vl.table es).tx.length + 8) = STREAM := sub_drop hb
  have hc := drop_next hb
  have e3 := figs_num (n := s.length) hc (stops_cons (by decide)) (by omega)
  have hd2 := drop_cons (drop_next hc)
  have h60 : t[p]? = some 60 := by
    have : t.drop p = 60 :: (joinT [32] (txEnt es) ++ [62] ++ (STREAM ++ (TL.numL s.length ++ 10 :: (s ++ w)))) := by simpa [Vl.tx] using ha
    exact (drop_cons this).1
  have hl : p + (Vl.table es).tx.length + STREAM.length + (TL.numL s.length).length + 1 + s.length ≤ t.length := by
    have e4 := congrArg List.length ha
    simp only [List.length_drop, List.length_append, List.length_cons] at e4
    have : 0 < (Vl.table es).tx.length := by simp [Vl.tx]
    have h8 : STREAM.length = 8 := rfl
    omega
  have e5 := sub_drop hd2.2
  simp only [valueAt, e, e2]
  rw [if_neg (by rintro (q | q); exact q h60; exact q rfl)]
  simp only [show p + (Vl.table es).tx.length + 8 = p + (Vl.table es).tx.length + STREAM.length from rfl, e3, hd2.1]
  have e6 : ((s.length : Int)).toNat = s.length := by omega
  rw [e6, e5, if_neg ?_]
  · rw [e0]
    have h8 : STREAM.length = 8 := rfl
    simp only [List.length_append, List.length_cons, Option.some.injEq, Prod.mk.injEq, true_and]
    omega
  · have h6 : ∀ c ∈ s, (32 ≤ c ∧ c ≤ 126) ∨ c = 10 := h5
    have h8 : STREAM.length = 8 := rfl
    rintro (q | q | q | q)
    · omega
    · exact q rfl
    · omega
    · exact q (by simpa using h6)
theorem value_rtN {t w : Tx} {v : Vl} {p : Nat} (hv : v.ok) (hd : v.nest ≤ 30) (h : t.drop p = v.tx ++ w) (hs : stopV w) (hw : w.take 8 ≠ STREAM) : valueAt t p = some (v, p + v.tx.length) := by
  by_cases q : ∃ es s, v = .stream es s
  · obtain ⟨es, s, rfl⟩ := q
    exact value_streamN hv hd h
  · refine value_plainN ?_ hd h hs hw
    cases v <;> first | exact hv | exact absurd ⟨_, _, rfl⟩ q
end Pl
end
section
namespace Pl
open Fw PySem
theorem value_selfN {v : Vl} (hv : v.ok) (hd : v.nest ≤ 30) : valueAt v.tx 0 = some (v, v.tx.length) := by
  have := value_rtN (t := v.tx) (w := []) (p := 0) hv hd (by simp) stops_nil (by decide)
  simpa using this
end Pl
end
section
namespace Pl
open Fw
def St (t : Tx) (p : Nat) (x : Tx) : Prop := t.drop p = x ++ t.drop (p + x.length)
theorem St.of {t x w : Tx} {p : Nat} (h : t.drop p = x ++ w) : St t p x := by
  unfold St
  rw [drop_next h]
  exact h
theorem St.app {t x y : Tx} {p : Nat} (h1 : St t p x) (h2 : St t (p + x.length) y) : St t p (x ++ y) := by
  unfold St at *
  rw [h1, h2, List.append_assoc, List.length_append, Nat.add_assoc]
theorem St.one {t : Tx} {p c : Nat} (h : t[p]? = some c) : St t p [c] := by
  unfold St
  rw [drop_at h]
  rfl
theorem St.nil {t : Tx} {p : Nat} : St t p [] := by simp [St]
theorem St.cons {t x : Tx} {p c : Nat} (h1 : t[p]? = some c) (h2 : St t (p + 1) x) : St t p (c :: x) := St.app (x := [c]) (St.one h1) h2
theorem St.sub {t x : Tx} {p q : Nat} (h : sub t p q = x) : St t p x := by
  have : t.drop p = (t.drop p).take (q - p) ++ (t.drop p).drop (q - p) := (List.take_append_drop _ _).symm
  exact St.of (w := (t.drop p).drop (q - p)) (by rw [← h]; exact this)
end Pl
end
section
namespace Pl
open Fw
section
variable {P : Nat → Option (Vl × Nat)} {t : Tx} {Q : Vl → Prop}
end
end Pl
end
section
namespace Lw
open Fw Pl
inductive Tr where
  | at_ (n e p : Nat)
  | inp (n e p k : Nat)
  | free (n e : Nat)
def Tr.num : Tr → Nat
  | .at_ n _ _ => n
  | .inp n _ _ _ => n
  | .free n _ => n
def Tr.d : Tr → D
  | .at_ n e p => .tup [.int n, .str wAt, .int e, .int p]
  | .inp n e p k => .tup [.int n, .str wIn, .int e, .int p, .int k]
  | .free n e => .tup [.int n, .str wFree, .int e]
def Tr.ws : Tr → List Tx
  | .at_ n e p => [TL.numL n, wAt, TL.numL e, TL.numL p]
  | .inp n e p k => [TL.numL n, wIn, TL.numL e, TL.numL p, TL.numL k]
  | .free n e => [TL.numL n, wFree, TL.numL e]
def Tr.ok : Tr → Prop
  | .at_ n e p => (1 ≤ n ∧ n ≤ 200) ∧ e ≤ 99 ∧ p ≤ 30000
  | .inp n e p k => (1 ≤ n ∧ n ≤ 200) ∧ e ≤ 99 ∧ p ≤ 30000 ∧ k ≤ 19
  | .free n e => (1 ≤ n ∧ n ≤ 200) ∧ 1 ≤ e ∧ e ≤ 100
def riseN : List Nat → Prop := List.Pairwise (· < ·)
def lineT (ws : List Tx) : Tx := joinT [32] ws ++ [10]
def Pk.tx (r : Pk) : Tx := TL.numL r.1 ++ 32 :: (TL.numL r.2.1 ++ 32 :: (r.2.2.tx ++ [10]))
def Pk.ok (r : Pk) : Prop := (1 ≤ r.1 ∧ r.1 ≤ 200) ∧ r.2.1 ≤ 99 ∧ r.2.2.pl ∧ r.2.2.deep ≤ 31
inductive Pc where
  | thing (n e : Nat) (v : Vl)
  | pack (rows : List Pk)
  | free (n e : Nat)
  | old (n e p : Nat)
  | root (q : Option (Nat × Nat))
  | sl (who kind : Tx) (sum : Nat)
  | table (rows : List Tr) (root : Option (Nat × Nat)) (before : Option Nat) (start : Nat)
def Pc.d : Pc → D
  | .thing n e v => .tup [.str wThing, .int n, .int e, v.d]
  | .pack rows => .tup [.str wPack, .tup (rows.map Pk.d)]
  | .free n e => .tup [.str wFree, .int n, .int e]
  | .old n e p => .tup [.str wOld, .int n, .int e, .int p]
  | .root q => rootP q
  | .sl a b s => .tup [.str wSeal, .str a, .str b, .int s]
  | .table rows q b s => .tup [.str wTable, .tup (rows.map Tr.d), rootD q, numD b, .int s]
def rootW : Option (Nat × Nat) → List Tx
  | none => [wRoot, wNone]
  | some q => [wRoot, TL.numL q.1, TL.numL q.2]
def placeW : Option Nat → Tx
  | none => wNone
  | some n => TL.numL n
def Pc.tx : Pc → Tx
  | .thing n e v => lineT [wThing, TL.numL n, TL.numL e] ++ (v.tx ++ [10])
  | .pack rows => lineT [wPack, TL.numL rows.length] ++ (rows.map Pk.tx).flatten
  | .free n e => lineT [wFree, TL.numL n, TL.numL e]
  | .old n e p => lineT [wOld, TL.numL n, TL.numL e, TL.numL p]
  | .root q => lineT (rootW q)
  | .sl a b s => lineT [wSeal, a, b, TL.numL s]
  | .table rows q b s => lineT [wTable, TL.numL rows.length] ++ ((rows.map fun r => lineT r.ws).flatten ++ (lineT (rootW q) ++ (lineT [wBefore, placeW b] ++ (lineT [wStart, TL.numL s] ++ lineT [wEnd]))))
def rootOk (q : Option (Nat × Nat)) : Prop := ∀ n e, q = some (n, e) → (1 ≤ n ∧ n ≤ 200) ∧ e ≤ 99
def Pc.ok : Pc → Prop
  | .thing n e v => (1 ≤ n ∧ n ≤ 200) ∧ e ≤ 99 ∧ v.ok ∧ v.deep ≤ 31
  | .pack rows => (1 ≤ rows.length ∧ rows.length ≤ 20) ∧ (∀ r ∈ rows, Pk.ok r) ∧ riseN (rows.map (·.1))
  | .free n e => (1 ≤ n ∧ n ≤ 200) ∧ 1 ≤ e ∧ e ≤ 100
  | .old n e p => (1 ≤ n ∧ n ≤ 200) ∧ e ≤ 99 ∧ p ≤ 30000
  | .root q => rootOk q
  | .sl a b s => WordOk a ∧ (b = wNone ∨ b = wAdd ∨ b = wFill) ∧ s ≤ 999982
  | .table rows q b s => rows.length ≤ 200 ∧ (∀ r ∈ rows, Tr.ok r) ∧ riseN (rows.map Tr.num) ∧ rootOk q ∧ (∀ n, b = some n → n ≤ 30000) ∧ s ≤ 30000
def isTabV : Vl → Bool
  | .table _ => true
  | _ => false
def Pc.calm (c : Pc) (w : Tx) : Prop := match c with
  | .thing _ _ v => isTabV v = true → (10 :: w).take 8 ≠ STREAM
  | _ => True
end Lw
end
section
namespace Lw
open Fw Pl
def Rw.ws (r : Rw) : List Tx := TL.numL r.1 :: r.2.1 :: r.2.2.map TL.numL
end Lw
end
section
namespace Lw
open Fw Pl
end Lw
end
section
namespace Lw
open Fw Pl
end Lw
end
section
namespace Lw
open Fw Pl
end Lw
end
section
namespace Lw
open Fw Pl
def Vl.sl : Vl → Nat
  | .stream _ s => s.length
  | _ => 0
end Lw
end
section
namespace Lw
open Fw Pl
end Lw
end
section
namespace Lw
open Fw Pl
end Lw
end
section
namespace Lw
open Fw Pl
def pkR (r : Pk) : Tx := TL.numL r.1 ++ 32 :: (TL.numL r.2.1 ++ 32 :: r.2.2.tx)
def Pc.rs : Pc → List Tx
  | .thing _ _ _ => []
  | .pack rows => joinT [32] [wPack, TL.numL rows.length] :: rows.map pkR
  | .free n e => [joinT [32] [wFree, TL.numL n, TL.numL e]]
  | .old n e p => [joinT [32] [wOld, TL.numL n, TL.numL e, TL.numL p]]
  | .root q => [joinT [32] (rootW q)]
  | .sl a b s => [joinT [32] [wSeal, a, b, TL.numL s]]
  | .table rows q b s => joinT [32] [wTable, TL.numL rows.length] :: (rows.map fun r => joinT [32] r.ws) ++ [joinT [32] (rootW q), joinT [32] [wBefore, placeW b], joinT [32] [wStart, TL.numL s], wEnd]
end Lw
end
section
namespace Lw
open Fw Pl
end Lw
end
section
namespace Lw
open Fw Pl
end Lw
end
section
namespace Lw
open Fw Pl
end Lw
end
section
namespace Lw
open Fw Pl
def Tr.rw : Tr → Rw
  | .at_ n e p => (n, wAt, [e, p])
  | .inp n e p k => (n, wIn, [e, p, k])
  | .free n e => (n, wFree, [e])
def Tb.of (rows : List Tr) (q : Option (Nat × Nat)) (b : Option Nat) (s : Nat) : Tb := ⟨rows.map Tr.rw, q, b, some s⟩
theorem any_nil {t : Tx} {p e : Nat} (h : rowWords t p = ([], e)) : anyAt t p = none := by
  unfold anyAt
  rw [h]
end Lw
end
section
namespace Lw
open Fw Pl PySem
structure RF (d : D) (b k : Nat) : Prop where
  ne : d.neat = true
  lv : d.dat.leavesShort 31 = true
  dp : d.dat.depth ≤ k
  bu : d.dat.bulk ≤ b
structure RFs (ds : List D) (b k : Nat) : Prop where
  ne : neatAll ds = true
  lv : PyData.leavesShortAll 31 (datAll ds) = true
  dp : PyData.depthAll (datAll ds) ≤ k
  bu : PyData.bulkAll (datAll ds) ≤ b
theorem RFs.nil {k : Nat} : RFs [] 0 k := ⟨rfl, rfl, by simp [datAll, PyData.depthAll], Nat.le_refl _⟩
theorem RFs.cons {d : D} {ds : List D} {a b k : Nat} (h1 : RF d a k) (h2 : RFs ds b k) : RFs (d :: ds) (a + 1 + b) k := by
  refine ⟨?_, ?_, ?_, ?_⟩
  · simp only [neatAll, h1.ne, h2.ne, Bool.and_self]
  · simp only [datAll, PyData.leavesShortAll, h1.lv, h2.lv, Bool.and_self]
  · have := h1.dp
    have := h2.dp
    simp only [datAll, PyData.depthAll]
    omega
  · have := h1.bu
    have := h2.bu
    simp only [datAll, PyData.bulkAll]
    omega
theorem RF.tup {ds : List D} {b k : Nat} (h : RFs ds b k) : RF (.tup ds) b (k + 1) := by
  refine ⟨?_, ?_, ?_, ?_⟩
  · simp only [D.neat, h.ne]
  · simp only [D.dat, PyData.leavesShort, h.lv]
  · have := h.dp
    simp only [D.dat, PyData.depth]
    omega
  · have := h.bu
    simp only [D.dat, PyData.bulk]
    omega
theorem RF.int {i : Int} {k : Nat} (h1 : -1000000000000000000000000000000 < i) (h2 : i < 1000000000000000000000000000000) (hk : 1 ≤ k) : RF (.int i) 0 k := by
  have := int_fine h1 h2
  refine ⟨this.1, this.2, ?_, by simp [D.dat, PyData.bulk]⟩
  simp [D.dat, PyData.depth]
  try omega
theorem RF.non {k : Nat} (hk : 1 ≤ k) : RF .non 0 k := ⟨rfl, rfl, by simp [D.dat, PyData.depth]; try omega, by simp [D.dat, PyData.bulk]⟩
theorem RF.str {s : Tx} {b k : Nat} (h : ∀ c ∈ s, c < 1000) (hl : s.length ≤ b) (hk : 1 ≤ k) : RF (.str s) b k := ⟨rfl, str_fine h, by simp [D.dat, PyData.depth]; try omega, by simp [D.dat, PyData.bulk]; try omega⟩
theorem RF.up {d : D} {a b k : Nat} (h : RF d a k) (hb : a ≤ b) : RF d b k := ⟨h.ne, h.lv, h.dp, Nat.le_trans h.bu hb⟩
theorem RFs.up {d : List D} {a b k : Nat} (h : RFs d a k) (hb : a ≤ b) : RFs d b k := ⟨h.ne, h.lv, h.dp, Nat.le_trans h.bu hb⟩
theorem RFs.all {α : Type} {f : α → D} {g : α → Nat} {k : Nat} : ∀ {xs : List α}, (∀ x ∈ xs, RF (f x) (g x) k) → RFs (xs.map f) ((xs.map fun x => g x + 1).sum) k
  | [], _ => RFs.nil
  | x :: xs, h => by
    rw [List.map_cons, List.map_cons, List.sum_cons]
    exact RFs.cons (h x List.mem_cons_self) (RFs.all fun y hy => h y (List.mem_cons_of_mem _ hy))
theorem RF.repr {d : D} {b k : Nat} (h : RF d b k) (hk : k ≤ 170) (hb : b ≤ 508000) (hr : ∀ n, d ≠ .ref n) (hh : Hh) : reprV hh d = some (.str (reprT d)) := by
  have l1 : line = 16777216 := Pl.line_eq
  have q5 : (reprT d).length ≤ line := by
    have := PyData.shown_le_bulk 31 (by decide) _ h.lv
    have e1 : (reprT d).length = d.dat.shown.length := by simp [reprT, Str.length]
    have := h.bu
    rw [e1, l1]
    omega
  have e0 : ownV hh d = some d := by
    cases d <;> first | rfl | exact absurd rfl (hr _)
  simp only [reprV, e0, Option.bind_some]
  rw [if_pos ⟨h.ne, by have := h.dp; omega, q5⟩]
theorem RF.val {v : Vl} (hv : v.ok) (hd : v.nest ≤ 30) : RF v.d (4 * v.tx.length) 100 := by
  obtain ⟨o1, o2, o3, o4, o5⟩ := valueAt_ok (value_selfN hv hd)
  obtain ⟨n1, n2, n3⟩ := ok_fine o1
  refine ⟨n1, n2, by omega, ?_⟩
  have e2 : v.d.dat.bulk = bk v := rfl
  omega
end Lw
end
section
namespace Lw
open Fw Pl
section
variable {α : Type}
end
end Lw
end
section
namespace Lw
open Fw Pl
abbrev T3v := Nat × Nat × Vl
def kv3 (t : T3v) : K1 × D := (.inl (t.1 : Int), .tup [.int t.2.1, t.2.2.d])
def kv2 (q : Nat × Nat) : K1 × D := (.inl (q.1 : Int), .int q.2)
structure BookS where
  th : List T3v
  fr : List (Nat × Nat)
  top : D
structure FineV (v : Vl) : Prop where
  ok : v.ok
  deep : v.deep ≤ 4
  len : v.tx.length ≤ 2000
def topOk (d : D) : Prop := d = .non ∨ ∃ n e : Nat, d = .tup [.str [116, 111], .int n, .int e]
structure BookG (k : Nat) (b : BookS) : Prop where
  th : ∀ t ∈ b.th, (1 ≤ t.1 ∧ t.1 ≤ 200) ∧ t.2.1 ≤ 99 ∧ FineV t.2.2
  fr : ∀ q ∈ b.fr, q.2 ≤ 100
  nd : (b.th.map (·.1)).Nodup
  fn : (b.fr.map (·.1)).Nodup
  lt : b.th.length ≤ k
  lf : b.fr.length ≤ k
  top : topOk b.top
def bookB (b : BookS) : D := .obj 0 [(0, .dct (b.th.map kv3)), (1, .dct (b.fr.map kv2)), (2, b.top)]
theorem look_kv3 : ∀ {l : List T3v} {t : T3v}, (l.map (·.1)).Nodup → t ∈ l → look (.inl (t.1 : Int)) (l.map kv3) = some (.tup [.int t.2.1, t.2.2.d])
  | [], t, _, h => by cases h
  | u :: l, t, hn, h => by
    rw [List.map_cons, List.nodup_cons] at hn
    simp only [List.map_cons, look, kv3]
    rcases List.mem_cons.mp h with h | h
    · subst h
      rw [if_pos rfl]
    · rw [if_neg fun e => hn.1 ?_]
      · exact look_kv3 hn.2 h
      · have : u.1 = t.1 := by simpa [Int.ofNat_inj] using e
        rw [this]
        exact List.mem_map_of_mem (f := (·.1)) h
theorem look_kv2 : ∀ {l : List (Nat × Nat)} {t : Nat × Nat}, (l.map (·.1)).Nodup → t ∈ l → look (.inl (t.1 : Int)) (l.map kv2) = some (.int t.2)
  | [], t, _, h => by cases h
  | u :: l, t, hn, h => by
    rw [List.map_cons, List.nodup_cons] at hn
    simp only [List.map_cons, look, kv2]
    rcases List.mem_cons.mp h with h | h
    · subst h
      rw [if_pos rfl]
    · rw [if_neg fun e => hn.1 ?_]
      · exact look_kv2 hn.2 h
      · have : u.1 = t.1 := by simpa [Int.ofNat_inj] using e
        rw [this]
        exact List.mem_map_of_mem (f := (·.1)) h
theorem cl_kv3 (l : List T3v) : closedK (l.map kv3) = true := by
  induction l with
  | nil => rfl
  | cons t l ih => simp [closedK, kv3, ih]
theorem cl_kv2 (l : List (Nat × Nat)) : closedK (l.map kv2) = true := by
  induction l with
  | nil => rfl
  | cons t l ih => simp [closedK, kv2, ih]
theorem cl_top {d : D} (h : topOk d) : d.closed = true := by rcases h with rfl | ⟨n, e, rfl⟩ <;> rfl
theorem obj_book (h : Hh) (b : BookS) : asObj h (bookB b) = some (0, [(0, .dct (b.th.map kv3)), (1, .dct (b.fr.map kv2)), (2, b.top)]) := (rfl)
theorem v_noref (v : Vl) : ∀ n, v.d ≠ .ref n := fun n => by cases v <;> simp [Vl.d]
section
variable {k : Nat} {b : BookS}
theorem cl_book (G : BookG k b) : (bookB b).closed = true := by
  simp [bookB, D.closed, closedF, cl_kv3, cl_kv2, cl_top G.top]
theorem r_root (F n : Nat) (h : Hh) (G : BookG k b) : run F (n + 1) ix_Book_root [bookB b] h = .ok b.top h := by
  rw [run_Book_root, own_closed (np := 1) (by simp [cl_book G]) rfl]
  simp [b_Book_root, startD, obj_book, List.lookup, cl_top G.top]
def mem3 (n : Nat) (l : List T3v) : Bool := decide (n ∈ l.map (·.1))
theorem any_kv3 (n : Nat) (l : List T3v) : ((l.map kv3).any fun q => decide (q.1 = .inl (n : Int))) = mem3 n l := by
  unfold mem3
  induction l with
  | nil => rfl
  | cons q l ih =>
    rw [List.map_cons, List.any_cons, ih]
    by_cases h : q.1 = n
    · simp [h, kv3]
    · have h' : ¬ n = q.1 := fun e => h e.symm
      simp [h, h', kv3, Int.ofNat_inj]
def edOf (n : Nat) : List T3v → D
  | [] => .non
  | t :: l => if t.1 = n then .int t.2.1 else edOf n l
theorem edOf_mem {l : List T3v} {t : T3v} (hn : (l.map (·.1)).Nodup) (ht : t ∈ l) : edOf t.1 l = .int t.2.1 := by
  induction l with
  | nil => cases ht
  | cons u l ih =>
    rw [List.map_cons, List.nodup_cons] at hn
    simp only [edOf]
    rcases List.mem_cons.mp ht with rfl | ht
    · rw [if_pos rfl]
    · rw [if_neg fun e => hn.1 (by rw [e]; exact List.mem_map_of_mem (f := (·.1)) ht), ih hn.2 ht]
theorem edOf_no {l : List T3v} {n : Nat} (h : n ∉ l.map (·.1)) : edOf n l = .non := by
  induction l with
  | nil => rfl
  | cons u l ih =>
    simp only [edOf]
    rw [if_neg fun e => h (by simp [e]), ih fun e => h (by simp at e ⊢; exact .inr e)]
theorem r_edB (F n : Nat) (h : Hh) (G : BookG k b) {m : Nat} (hm : 1 ≤ m ∧ m ≤ 200) : run F (n + 4) ix_Book_edition [bookB b, .int m] h = .ok (edOf m b.th) h := by
  rw [run_Book_edition, own_closed (np := 2) (by simp [cl_book G]) rfl]
  have e1 := fun hh => r_number F n (.int (m : Int)) hh rfl
  have e2 : fromD 1 200 (.int (m : Int)) = true := by simp [fromD]; omega
  by_cases hq : m ∈ b.th.map (·.1)
  · obtain ⟨t, ht, rfl⟩ := List.mem_map.mp hq
    have lk := look_kv3 G.nd ht
    have e3 : ∀ hh : Hh, cmpop hh .notin (.int (t.1 : Int)) (.dct (b.th.map kv3)) = some false := fun hh => by
      simp only [cmpop, isMem, asDct, key1, any_kv3, Option.map_some]
      simp [mem3]
      exact ⟨_, _, ht⟩
    have e4 : ∀ hh : Hh, index hh (.dct (b.th.map kv3)) (.int (t.1 : Int)) = some (.tup [.int t.2.1, t.2.2.d]) := fun hh => by
      simp [index, asSeq, asDct, lk]
    have x20 : ixn 2 0 = some 0 := rfl
    have := edOf_mem G.nd ht
    simp [b_Book_edition, startD, obj_book, List.lookup, e1, e2, e3, e4, x20, this]
  · have e3 : ∀ hh : Hh, cmpop hh .notin (.int (m : Int)) (.dct (b.th.map kv3)) = some true := fun hh => by
      simp only [cmpop, isMem, asDct, key1, any_kv3, Option.map_some]
      simp [mem3]
      intro x y hx
      exact hq (List.mem_map.mpr ⟨(m, x, y), hx, rfl⟩)
    have := edOf_no hq
    simp [b_Book_edition, startD, obj_book, List.lookup, e1, e2, e3, this]
theorem r_leadsB (F n : Nat) (h : Hh) (G : BookG k b) {m e : Nat} (hm : 1 ≤ m ∧ m ≤ 200) (he : e ≤ 99) : ∃ q, run F (n + 6) ix_Book_leads [bookB b, .tup [.str [116, 111], .int m, .int e]] h = .ok (.bl q) h ∧ eqD [] (edOf m b.th) (.int e) = some q := by
  rw [run_Book_leads, own_closed (np := 2) (by simp [cl_book G]) rfl]
  have e1 := fun hh => r_isref F (n + 1) (.tup [.str [116, 111], .int m, .int e]) hh rfl
  have e2 : isTo (.tup [.str [116, 111], .int (m : Int), .int (e : Int)]) = true := by simp [isTo, kindD, wTo, fromD]; omega
  have e3 := fun hh => r_edB F (n + 1) hh G hm
  have x31 : ixn 3 1 = some 1 := rfl
  have x32 : ixn 3 2 = some 2 := rfl
  by_cases hq : m ∈ b.th.map (·.1)
  · obtain ⟨t, ht, rfl⟩ := List.mem_map.mp hq
    have ed := edOf_mem G.nd ht
    rw [ed] at e3 ⊢
    refine ⟨decide (t.2.1 = e), ?_, ?_⟩
    · have e4 : ∀ hh : Hh, eqD hh (.int (t.2.1 : Int)) (.int (e : Int)) = some (decide (t.2.1 = e)) := fun hh => by
        simp [eqD, scalPair, scalar, D.eqv]
        by_cases q : t.2.1 = e
        · simp [q]
        · simp [q, Int.ofNat_inj]
      simp [b_Book_leads, startD, e1, e2, e3, e4, x31, x32, obj_book, List.lookup]
    · simp [eqD, scalPair, scalar, D.eqv]
      by_cases q : t.2.1 = e
      · simp [q]
      · simp [q, Int.ofNat_inj]
  · have ed := edOf_no hq
    rw [ed] at e3 ⊢
    refine ⟨false, ?_, rfl⟩
    have e4 : ∀ hh : Hh, eqD hh .non (.int (e : Int)) = some false := fun hh => rfl
    simp [b_Book_leads, startD, e1, e2, e3, e4, x31, x32, obj_book, List.lookup]
def valOf (m e : Nat) : List T3v → D
  | [] => .non
  | t :: l => if t.1 = m then (if t.2.1 = e then t.2.2.d else .non) else valOf m e l
theorem valOf_mem {l : List T3v} {t : T3v} (hn : (l.map (·.1)).Nodup) (ht : t ∈ l) (e : Nat) : valOf t.1 e l = if t.2.1 = e then t.2.2.d else .non := by
  induction l with
  | nil => cases ht
  | cons u l ih =>
    rw [List.map_cons, List.nodup_cons] at hn
    simp only [valOf]
    rcases List.mem_cons.mp ht with rfl | ht
    · rw [if_pos rfl]
    · rw [if_neg fun e => hn.1 (by rw [e]; exact List.mem_map_of_mem (f := (·.1)) ht), ih hn.2 ht]
theorem valOf_no {l : List T3v} {n : Nat} (h : n ∉ l.map (·.1)) (e : Nat) : valOf n e l = .non := by
  induction l with
  | nil => rfl
  | cons u l ih =>
    simp only [valOf]
    rw [if_neg fun e => h (by simp [e]), ih fun e => h (by simp at e ⊢; exact .inr e)]
theorem r_atB (F n : Nat) (h : Hh) (G : BookG k b) {m e : Nat} (hm : 1 ≤ m ∧ m ≤ 200) (he : e ≤ 99) : run F (n + 7) ix_Book_at [bookB b, .tup [.str [116, 111], .int m, .int e]] h = .ok (valOf m e b.th) h := by
  rw [run_Book_at, own_closed (np := 2) (by simp [cl_book G]) rfl]
  have x31 : ixn 3 1 = some 1 := rfl
  have x21 : ixn 2 1 = some 1 := rfl
  by_cases hq : m ∈ b.th.map (·.1)
  · obtain ⟨t, ht, rfl⟩ := List.mem_map.mp hq
    have ed := edOf_mem G.nd ht
    have e4 : ∀ hh : Hh, index hh (.dct (b.th.map kv3)) (.int (t.1 : Int)) = some (.tup [.int t.2.1, t.2.2.d]) := fun hh => by
      simp [index, asSeq, asDct, look_kv3 G.nd ht]
    rw [valOf_mem G.nd ht]
    by_cases q : t.2.1 = e
    · have e3 : ∀ hh, run F (n + 6) ix_Book_leads [bookB b, .tup [.str [116, 111], .int t.1, .int e]] hh = .ok (.bl true) hh := fun hh => by
        obtain ⟨q', h1, h2⟩ := r_leadsB F n hh G hm he
        rw [ed] at h2
        simp [eqD, scalPair, scalar, D.eqv, q] at h2
        rw [h1, ← h2]
      simp [b_Book_at, startD, obj_book, List.lookup, e3, q, e4, x31, x21]
    · have e3 : ∀ hh, run F (n + 6) ix_Book_leads [bookB b, .tup [.str [116, 111], .int t.1, .int e]] hh = .ok (.bl false) hh := fun hh => by
        obtain ⟨q', h1, h2⟩ := r_leadsB F n hh G hm he
        rw [ed] at h2
        have q2 : ¬ (t.2.1 : Int) = (e : Int) := by simpa [Int.ofNat_inj] using q
        simp [eqD, scalPair, scalar, D.eqv, q2] at h2
        rw [h1, ← h2]
        simp [q2]
      simp [b_Book_at, startD, obj_book, List.lookup, e3, q]
  · have ed := edOf_no hq
    have e3 : ∀ hh, run F (n + 6) ix_Book_leads [bookB b, .tup [.str [116, 111], .int m, .int e]] hh = .ok (.bl false) hh := fun hh => by
      obtain ⟨q', h1, h2⟩ := r_leadsB F n hh G hm he
      rw [ed] at h2
      have : q' = false := by
        have h3 : eqD [] .non (.int (e : Int)) = some false := rfl
        rw [h3] at h2
        exact (Option.some.inj h2).symm
      rw [h1, this]
    simp [b_Book_at, startD, obj_book, List.lookup, e3, valOf_no hq]
end
end Lw
end
section
namespace Lw
open Fw Pl
inductive Nd where
  | leaf (k e : Nat) (es : Es)
  | node (k e : Nat) (es : Es) (ks : List Nd)
def Nd.k : Nd → Nat
  | .leaf k _ _ => k
  | .node k _ _ _ => k
def Nd.e : Nd → Nat
  | .leaf _ e _ => e
  | .node _ e _ _ => e
def Nd.es : Nd → Es
  | .leaf _ _ es => es
  | .node _ _ es _ => es
mutual
def Nd.nums : Nd → List Nat
  | .leaf k _ _ => [k]
  | .node k _ _ ks => k :: numsAll ks
def numsAll : List Nd → List Nat
  | [] => []
  | x :: xs => x.nums ++ numsAll xs
end
def rowOk (b : BookS) (k e : Nat) (es : Es) : Prop := 1 ≤ k ∧ k ≤ 200 ∧ e ≤ 99 ∧ (k, e, Vl.table es) ∈ b.th ∧ (es.map (·.1)).Nodup ∧ es.length ≤ 20
mutual
def Nd.inB (b : BookS) : Nd → Prop
  | .leaf k e es => rowOk b k e es ∧ kidsD es none
  | .node k e es ks => rowOk b k e es ∧ kidsD es (some (ks.map fun x => (x.k, x.e))) ∧ inBAll b ks
def inBAll (b : BookS) : List Nd → Prop
  | [] => True
  | x :: xs => x.inB b ∧ inBAll b xs
end
theorem inBAll_iff {b : BookS} : ∀ {xs : List Nd}, inBAll b xs ↔ ∀ x ∈ xs, x.inB b
  | [] => by simp [inBAll]
  | x :: xs => by simp [inBAll, inBAll_iff (xs := xs)]
theorem Nd.row {b : BookS} {x : Nd} (h : x.inB b) : rowOk b x.k x.e x.es := by
  cases x with
  | leaf k e es => exact h.1
  | node k e es ks => exact h.1
mutual
def Nd.walk (acc : Es) : Nd → List D
  | .leaf k _ es => [.tup [.int k, .non, .tup (dEnt (withE acc es))]]
  | .node k _ es ks => .tup [.int k, .lst (ks.map fun x => .int (x.k : Int)), .tup (dEnt (handE acc es))] :: walkAll (handE acc es) ks
def walkAll (acc : Es) : List Nd → List D
  | [] => []
  | x :: xs => x.walk acc ++ walkAll acc xs
end
def stD (q : Es × Nd) : D := .tup [.int q.2.k, .tup (dEnt q.1)]
def stWalk : List (Es × Nd) → List D
  | [] => []
  | q :: r => q.2.walk q.1 ++ stWalk r
theorem stWalk_app : ∀ (xs : List Nd) (acc : Es) (r : List (Es × Nd)), stWalk (xs.map (fun x => (acc, x)) ++ r) = walkAll acc xs ++ stWalk r
  | [], acc, r => rfl
  | x :: xs, acc, r => by
    have := stWalk_app xs acc r
    simp [stWalk, walkAll, this]
def stNums : List (Es × Nd) → List Nat
  | [] => []
  | q :: r => q.2.nums ++ stNums r
theorem stNums_app : ∀ (xs : List Nd) (acc : Es) (r : List (Es × Nd)), stNums (xs.map (fun x => (acc, x)) ++ r) = numsAll xs ++ stNums r
  | [], acc, r => rfl
  | x :: xs, acc, r => by
    have := stNums_app xs acc r
    simp [stNums, numsAll, this]
theorem handE_nodup {es0 es : Es} (n0 : (es0.map (·.1)).Nodup) : ((handE es0 es).map (·.1)).Nodup := by
  have := sortE_rises (mergeE_nodup (es.filter fun e => !ownW e.1) es0 n0)
  exact this.imp fun q => fun e => List.lt_irrefl _ (e ▸ q)
theorem handE_len {es0 es : Es} : (handE es0 es).length ≤ es0.length + es.length := by
  have h1 := mergeE_len (es.filter fun e => !ownW e.1) es0
  have h2 : (es.filter fun e => !ownW e.1).length ≤ es.length := List.length_filter_le _ _
  simp only [handE, sortE, List.length_map, sortT_len]
  omega
structure Wk1 where
  stack : List (Es × Nd)
  met : List Nat
  found : List D
  s5 : Option D
  s6 : Option D
  s7 : Option D
  s8 : Option D
def Wk1.enc (bk first : D) (a : Wk1) : Sg := [some bk, some (.ref 0), some (.ref 1), some first, some (.ref 2), a.s5, a.s6, a.s7, a.s8, none]
def Wk1.hh (a : Wk1) : Hh := [.lst a.found, .lst (a.met.map fun (k : Nat) => D.int (k : Int)), .lst (a.stack.map stD).reverse]
structure Wk1.Ok (b : BookS) (m : Nat) (a : Wk1) : Prop where
  inB : ∀ q ∈ a.stack, q.2.inB b
  nd : (a.met ++ stNums a.stack).Nodup
  acc : ∀ q ∈ a.stack, (q.1.map (·.1)).Nodup ∧ q.1.length + 20 * (stNums a.stack).length ≤ m
  fl : a.found.length + (stNums a.stack).length ≤ m
  ml : a.met.length + (stNums a.stack).length ≤ m
end Lw
end
section
namespace Pl
open Fw
section
variable {elt : TM} {g : G} {it : It} {cond : BM} {own : List Nat} {F n : Nat} {σ : Sg} {h : Hh} {x : Exn} {r : R D} {src : TM} {b : SM}
def kLcJ (b : Bool) (r : R (List D)) : R D := if b then kLcE (noX r) else .bad
@[simp] theorem kLcJ_t {r : R (List D)} : kLcJ true r = kLcE (noX r) := (rfl)
def kLcI (elt : TM) (g : G) (it : It) (cond : BM) (own : List Nat) (F : Nat) (σ : Sg) (r : R D) : R D := r.bind fun d h => match d with
  | .ref n => kLcJ (isOwnL h n) (lcLI n it (lcStep elt g cond own σ) F 0 [] h)
  | _ => .bad
@[simp] theorem eLcI_eq : eLcI elt g it src cond own F σ h = kLcI elt g it cond own F σ (src σ h) := (rfl)
@[simp] theorem kLcI_ok : kLcI elt g it cond own F σ (.ok (.ref n) h) = kLcJ (isOwnL h n) (lcLI n it (lcStep elt g cond own σ) F 0 [] h) := (rfl)
@[simp] theorem kLcI_xn : kLcI elt g it cond own F σ (.xn x h) = .xn x h := (rfl)
@[simp] theorem kLcI_bad : kLcI elt g it cond own F σ .bad = .bad := (rfl)
def kForJ (b : Bool) (r : SR) : SR := if b then r else .bad
@[simp] theorem kForJ_t {r : SR} : kForJ true r = r := (rfl)
def kForI (g : G) (it : It) (b : SM) (F : Nat) (σ : Sg) (r : R D) : SR := SR.of σ r fun d h => match d with
  | .ref n => kForJ (isOwnL h n) (forLI n it (forB g b) F 0 σ h)
  | _ => .bad
@[simp] theorem sForI_eq : sForI g it src b F σ h = kForI g it b F σ (src σ h) := (rfl)
@[simp] theorem kForI_ok : kForI g it b F σ (.ok (.ref n) h) = kForJ (isOwnL h n) (forLI n it (forB g b) F 0 σ h) := (rfl)
@[simp] theorem kForI_xn : kForI g it b F σ (.xn x h) = .xn x σ h := (rfl)
@[simp] theorem kForI_bad : kForI g it b F σ .bad = .bad := (rfl)
end
theorem isOwn_of {h : Hh} {n : Nat} {ys : List D} (e : h[n]? = some (.lst ys)) : isOwnL h n = true := by simp [isOwnL, e]
def itms : It → List D → List D
  | .enum, ys => enumD ys
  | _, ys => ys
@[simp] theorem itms_e (ys : List D) : itms .e ys = ys := rfl
@[simp] theorem itms_enum (ys : List D) : itms .enum ys = enumD ys := rfl
theorem itms_get {it : It} {ys : List D} {i : Nat} : (itms it ys)[i]? = (ys[i]?).map fun y => itmI it i y := by
  cases it <;> simp [itms, itmI, enumD, List.getElem?_zipIdx] <;> (cases ys[i]? <;> simp)
@[simp] theorem itms_len {it : It} {ys : List D} : (itms it ys).length = ys.length := by
  cases it <;> simp [itms, enumD]
theorem lcLI_go {n : Nat} {it : It} {step : D → Hh → R (Option D)} {h : Hh} {ys : List D} (hn : h[n]? = some (.lst ys)) (hs : ∀ x ∈ itms it ys, ∃ o, step x h = .ok o h) :
    ∀ (F i : Nat) (acc : List D), ys.length - i < F → lcLI n it step F i acc h = lcL step ((itms it ys).drop i) acc h := by
  intro F
  induction F with
  | zero => intro i acc hF; omega
  | succ F ih =>
    intro i acc hF
    rw [lcLI, hn]
    dsimp only
    cases e : ys[i]? with
    | none =>
      have : ys.length ≤ i := List.getElem?_eq_none_iff.mp e
      rw [List.drop_of_length_le (by simpa using this)]
      rfl
    | some y =>
      have hi : i < ys.length := (List.getElem?_eq_some_iff.mp e).1
      have e2 : (itms it ys)[i]? = some (itmI it i y) := by rw [itms_get, e]; rfl
      have e3 : (itms it ys).drop i = itmI it i y :: (itms it ys).drop (i + 1) := by
        have hl : i < (itms it ys).length := by simpa using hi
        rw [List.drop_eq_getElem_cons hl]
        congr 1
        rw [List.getElem?_eq_getElem hl] at e2
        exact Option.some.inj e2
      obtain ⟨o, eo⟩ := hs _ (List.mem_of_getElem? e2)
      rw [e3]
      simp only [lcL, eo, R.bind_ok]
      cases o with
      | none => exact ih (i + 1) acc (by omega)
      | some d =>
        dsimp only
        split
        · exact ih (i + 1) _ (by omega)
        · rfl
theorem lc_mapM {α : Type} {g : α → D} {f : α → D} {step : D → Hh → R (Option D)} {h : Hh} {rr : R (List D)} {xs : List α} (hR : lcL step (xs.map g) [] h = rr) (hs : ∀ x ∈ xs, step (g x) h = .ok (some (f x)) h) (hl : xs.length ≤ line) : rr = .ok (xs.map f) h := by
  subst hR
  have : ∀ (xs : List α) (acc : List D), (∀ x ∈ xs, step (g x) h = .ok (some (f x)) h) → acc.length + xs.length ≤ line → lcL step (xs.map g) acc h = .ok (acc ++ xs.map f) h := by
    intro xs
    induction xs with
    | nil => intro acc _ _; simp
    | cons x xs ih =>
      intro acc hs hl
      simp only [List.length_cons] at hl
      rw [List.map_cons, lcL_cons, hs x List.mem_cons_self, lcK_some, if_pos (by omega), ih _ (fun y hy => hs y (List.mem_cons_of_mem _ hy)) (by simp only [List.length_append, List.length_cons, List.length_nil]; omega)]
      simp
  rw [this xs [] hs (by simpa using hl)]
  rfl
theorem lc_filterM {α : Type} {g : α → D} {f : α → Option D} {step : D → Hh → R (Option D)} {h : Hh} {rr : R (List D)} {xs : List α} (hR : lcL step (xs.map g) [] h = rr) (hs : ∀ x ∈ xs, step (g x) h = .ok (f x) h) (hl : xs.length ≤ line) : rr = .ok (xs.filterMap f) h := by
  subst hR
  have : ∀ (xs : List α) (acc : List D), (∀ x ∈ xs, step (g x) h = .ok (f x) h) → acc.length + xs.length ≤ line → lcL step (xs.map g) acc h = .ok (acc ++ xs.filterMap f) h := by
    intro xs
    induction xs with
    | nil => intro acc _ _; simp
    | cons x xs ih =>
      intro acc hs hl
      simp only [List.length_cons] at hl
      rw [List.map_cons, lcL_cons, hs x List.mem_cons_self]
      cases e : f x with
      | none =>
        rw [lcK_none, ih _ (fun y hy => hs y (List.mem_cons_of_mem _ hy)) (by omega)]
        simp [List.filterMap_cons, e]
      | some d =>
        rw [lcK_some, if_pos (by omega), ih _ (fun y hy => hs y (List.mem_cons_of_mem _ hy)) (by simp only [List.length_append, List.length_cons, List.length_nil]; omega)]
        simp [List.filterMap_cons, e]
  rw [this xs [] hs (by simpa using hl)]
  rfl
theorem lcI_filterM {α : Type} {n F : Nat} {it : It} {g : α → D} {f : α → Option D} {step : D → Hh → R (Option D)} {h : Hh} {rr : R (List D)} {xs : List α} (hR : lcLI n it step F 0 [] h = rr) {ys : List D} (hn : h[n]? = some (.lst ys)) (hi : itms it ys = xs.map g)
    (hs : ∀ x ∈ xs, step (g x) h = .ok (f x) h) (hF : ys.length < F) (hl : xs.length ≤ line) : rr = .ok (xs.filterMap f) h := by
  rw [lcLI_go hn (fun y hy => by
    rw [hi] at hy
    obtain ⟨x, hx, rfl⟩ := List.mem_map.mp hy
    exact ⟨_, hs x hx⟩) F 0 [] (by omega), List.drop_zero, hi] at hR
  exact lc_filterM hR hs hl
theorem forI_go {n : Nat} {it : It} {body : D → Sg → Hh → SR} {ys : List D} {I : Nat → Sg → Hh → Prop} (hk : ∀ i σ h, I i σ h → h[n]? = some (.lst ys))
    (hs : ∀ i x σ h, ys[i]? = some x → I i σ h → ∃ σ' h', body (itmI it i x) σ h = .nx σ' h' ∧ I (i + 1) σ' h') :
    ∀ (F i : Nat) (σ : Sg) (h : Hh), I i σ h → i ≤ ys.length → ys.length - i < F → ∃ σ' h', forLI n it body F i σ h = .nx σ' h' ∧ I ys.length σ' h' := by
  intro F
  induction F with
  | zero => intro i σ h _ _ hF; omega
  | succ F ih =>
    intro i σ h hI hi hF
    rw [forLI, hk i σ h hI]
    dsimp only
    cases e : ys[i]? with
    | none =>
      have : ys.length ≤ i := List.getElem?_eq_none_iff.mp e
      have : i = ys.length := by omega
      subst this
      exact ⟨σ, h, rfl, hI⟩
    | some y =>
      have hi : i < ys.length := (List.getElem?_eq_some_iff.mp e).1
      obtain ⟨σ1, h1, e1, I1⟩ := hs i y σ h e hI
      simp only [e1]
      exact ih (i + 1) σ1 h1 I1 (by omega) (by omega)
theorem forI_invR {n F : Nat} {it : It} {body : D → Sg → Hh → SR} {σ : Sg} {h : Hh} {rr : SR} (hR : forLI n it body F 0 σ h = rr) {ys : List D} (I : Nat → Sg → Hh → Prop) (hk : ∀ i σ h, I i σ h → h[n]? = some (.lst ys))
    (hs : ∀ i x σ h, ys[i]? = some x → I i σ h → ∃ σ' h', body (itmI it i x) σ h = .nx σ' h' ∧ I (i + 1) σ' h') (i : I 0 σ h) (hF : ys.length < F) : ∃ σ' h', rr = .nx σ' h' ∧ I ys.length σ' h' := by
  subst hR
  exact forI_go hk hs F 0 σ h i (Nat.zero_le _) (by omega)
end Pl
end
section
namespace Lw
open Fw Pl
theorem pop_2 {a b : O} {xs : List D} {x : D} : pop0D [a, b, .lst (xs ++ [x])] (.ref 2) = some (x, some (2, .lst xs)) := by
  simp [pop0D]
theorem mem_nat (k : Nat) (ms : List Nat) : (ms.map fun (k : Nat) => D.int (k : Int)).any (fun y => y.eqv (.int (k : Int))) = decide (k ∈ ms) := by
  induction ms with
  | nil => rfl
  | cons m ms ih =>
    simp only [List.map_cons, List.any_cons, ih, D.eqv]
    by_cases h : m = k
    · subst h; simp
    · have h1 : ((m : Int) == (k : Int)) = false := beq_eq_false_iff_ne.mpr fun z => h (by omega)
      have h2 : ¬ k = m := fun z => h z.symm
      simp [h1, h2]
theorem r_val (F n : Nat) {b : BookS} {k : Nat} (G : BookG k b) {x : Nd} (hx : rowOk b x.k x.e x.es) (h : Hh) :
    run F (n + 7) ix_Book_edition [bookB b, .int (x.k : Int)] h = .ok (.int (x.e : Int)) h ∧ run F (n + 7) ix_Book_at [bookB b, .tup [.str [116, 111], .int (x.k : Int), .int (x.e : Int)]] h = .ok (Vl.table x.es).d h := by
  obtain ⟨h1, h2, h3, h4, h5, h6⟩ := hx
  refine ⟨?_, ?_⟩
  · have := r_edB F (n + 3) h G (m := x.k) ⟨h1, h2⟩
    rw [this, edOf_mem G.nd h4]
  · have := r_atB F n h G (m := x.k) (e := x.e) ⟨h1, h2⟩ h3
    rw [this, valOf_mem G.nd h4]
    simp
theorem any_isMem {ms : List Nat} {k : Nat} {a c : O} : isMem [a, .lst (ms.map fun (k : Nat) => D.int (k : Int)), c] (.int (k : Int)) (.ref 1) = some (decide (k ∈ ms)) := by
  have hs : (ms.map fun (k : Nat) => D.int (k : Int)).all scalar = true := by simp [scalar]
  have := mem_nat k ms
  simp only [isMem, asDct, asSeq, List.getElem?_cons_succ, List.getElem?_cons_zero]
  rw [if_pos (by rw [hs]; rfl), this]
theorem ext_2 {a b : O} {xs ys : List D} (hl : xs.length + ys.length ≤ 16777216) : extD [a, b, .lst xs] (.ref 2) (.lst ys) = some (.non, some (2, .lst (xs ++ ys))) := by
  have l1 : line = 16777216 := Pl.line_eq
  show (if xs.length + ys.length ≤ line then some (D.non, some (2, O.lst (xs ++ ys))) else none) = _
  rw [if_pos (by omega)]
theorem st_len : ∀ r : List (Es × Nd), r.length ≤ (stNums r).length
  | [] => Nat.le_refl _
  | q :: r => by
    have h1 := st_len r
    have h2 : 0 < q.2.nums.length := by cases q.2 <;> simp [Nd.nums]
    simp only [stNums, List.length_append, List.length_cons]
    omega
theorem r_walkLoop (F n : Nat) {b : BookS} {k m : Nat} (G : BookG k b) (first : D) (hm : m ≤ 1000) {rr : SR} {a : Wk1} (hF : (stNums a.stack).length < F) (ok : a.Ok b m)
    (hR : whL (bCmp .ne (eV 4) (eLst aNil)) (sCons (sAsg (.tp [(.nm 7), (.nm 8)]) (eM0 pop0D (eV 4)))
 (sCons (sIf (bCmp .in_ (eV 7) (eV 2)) (sCons sBad
 sNil) sNil)
 (sCons (sEx (eM isLst appD (eV 2) (eV 7)))
 (sCons (sSet 5 (eMeth (fun ds h => run F (n + 9) ix_Book_at ds h) 0 (eV 0) (aCons (eTup (aCons (eC (.str [116, 111])) (aCons (eV 7) (aCons (eMeth (fun ds h => run F (n + 9) ix_Book_edition ds h) 0 (eV 0) (aCons (eV 7) aNil)) aNil)))) aNil)))
 (sCons (sSet 6 (eCall (fun ds h => run F (n + 9) ix_kids_of ds h) (aCons (eV 7) (aCons (eV 5) aNil))))
 (sCons (sIf (bCmp .is_ (eV 6) (eC .non)) (sCons (sEx (eM isLst appD (eV 1) (eTup (aCons (eV 7) (aCons (eC .non) (aCons (eCall (fun ds h => run F (n + 9) ix_with_own ds h) (aCons (eV 8) (aCons (eV 5) aNil))) aNil))))))
 sNil) (sCons (sIf (bNot (bT (eU allD (eLc (eCall (fun ds h => run F (n + 9) ix_is_table ds h) (aCons (eMeth (fun ds h => run F (n + 9) ix_Book_at ds h) 0 (eV 0) (aCons (eV 9) aNil)) aNil)) (.nm 9) .e (aCons (eV 6) aNil) bYes [9])))) (sCons sBad
 sNil) (sCons (sSet 8 (eCall (fun ds h => run F (n + 9) ix_handed ds h) (aCons (eV 8) (aCons (eV 5) aNil))))
 (sCons (sEx (eM isLst appD (eV 1) (eTup (aCons (eV 7) (aCons (eLc (eIx (eV 9) (eC (.int 1))) (.nm 9) .e (aCons (eV 6) aNil) bYes [9]) (aCons (eV 8) aNil))))))
 (sCons (sEx (eM isLst extD (eV 4) (eLc (eTup (aCons (eIx (eV 9) (eC (.int 1))) (aCons (eV 8) aNil))) (.nm 9) .e (aCons (eU revD (eV 6)) aNil) bYes [9])))
 sNil))))
 sNil))
 sNil)))))) F (a.enc (bookB b) first) a.hh = rr) : ∃ b' : Wk1, rr = .nx (b'.enc (bookB b) first) b'.hh ∧ b'.found = a.found ++ stWalk a.stack := by
  have l1 : line = 16777216 := Pl.line_eq
  have ob := obj_book
  refine wh_rel hR (Wk1.enc (bookB b) first) Wk1.hh (fun a r => ∃ b' : Wk1, r = .nx (b'.enc (bookB b) first) b'.hh ∧ b'.found = a.found ++ stWalk a.stack) (Wk1.Ok b m) (fun a => (stNums a.stack).length) (fun a ok => ?_) a rfl rfl ok hF
  cases hst : a.stack with
  | nil =>
    refine .stop ?_ ⟨a, rfl, by rw [hst]; simp [stWalk]⟩
    simp [Wk1.enc, Wk1.hh, hst]
  | cons q r =>
    obtain ⟨acc, x⟩ := q
    have hx : x.inB b := ok.inB (acc, x) (by simp [hst])
    have hrow := x.row hx
    have nd := ok.nd
    rw [hst] at nd
    have hkn : x.k ∈ x.nums := by cases x <;> simp [Nd.k, Nd.nums]
    have hnm : x.k ∉ a.met := fun hm => (List.nodup_append.mp nd).2.2 _ hm x.k (by simp [stNums, hkn]) rfl
    obtain ⟨e1, e2⟩ := r_val F (n + 2) G hrow []
    have hh := r_val F (n + 2) G hrow
    have pp := pop_2 (a := .lst a.found) (b := .lst (a.met.map fun (k : Nat) => D.int (k : Int))) (xs := (r.map stD).reverse) (x := stD (acc, x))
    have im := any_isMem (ms := a.met) (k := x.k) (a := .lst a.found) (c := .lst ((r.map stD).reverse))
    rw [decide_eq_false hnm] at im
    have cs := cl_dEnt acc
    have fl := ok.fl
    have ml := ok.ml
    have lp : 0 < (stNums a.stack).length := by rw [hst]; cases x <;> simp [stNums, Nd.nums]
    have lm : a.met.length < 16777216 := by omega
    have lf : a.found.length < 16777216 := by omega
    obtain ⟨ac1, ac2⟩ := ok.acc (acc, x) (by simp [hst])
    dsimp only at ac1 ac2
    cases x with
    | leaf k e es =>
      have kk : ∀ h, run F (n + 9) ix_kids_of [.int (k : Int), (Vl.table es).d] h = .ok .non h := fun h => r_kids_of F (n + 4) es k h (ks := none) hx.2
      have hw : ∀ h, run F (n + 9) ix_with_own [.tup (dEnt acc), (Vl.table es).d] h = .ok (.tup (dEnt (withE acc es))) h := fun h => r_with_own F (n + 7) h ac1 hrow.2.2.2.2.1 (by omega) (by have := hrow.2.2.2.2.2; show es.length ≤ 1000; have h3 : (Nd.leaf k e es).es.length ≤ 20 := this; simp only [Nd.es] at h3; omega)
      have q1 : ∀ h, run F (n + 9) ix_Book_edition [bookB b, .int (k : Int)] h = .ok (.int (e : Int)) h := fun h => (r_val F (n + 2) G hrow h).1
      have q2 : ∀ h, run F (n + 9) ix_Book_at [bookB b, .tup [.str [116, 111], .int (k : Int), .int (e : Int)]] h = .ok (Vl.table es).d h := fun h => (r_val F (n + 2) G hrow h).2
      refine .next ⟨r, a.met ++ [k], a.found ++ [.tup [.int k, .non, .tup (dEnt (withE acc es))]], some (Vl.table es).d, some .non, some (.int k), some (.tup (dEnt acc))⟩ ?_ ?_ ?_ ?_ ?_
      · simp [Wk1.enc, Wk1.hh, hst]
      · simp [Wk1.enc, Wk1.hh, hst]
        simp only [pp]
        have im' : isMem [O.lst a.found, .lst (a.met.map fun (k : Nat) => D.int (k : Int)), .lst (r.map stD).reverse] (.int (k : Int)) (.ref 1) = some false := im
        have cb := cl_book G
        simp [stD, Nd.k, im', lm, lf, q1, q2, kk, hw, obj_book]
      · rw [hst] at lp fl ml
        simp only [stNums, Nd.nums, List.length_append, List.length_cons, List.length_nil] at lp fl ml
        refine ⟨fun q hq => ok.inB q (by rw [hst]; exact List.mem_cons_of_mem _ hq), ?_, fun q hq => ?_, ?_, ?_⟩
        · simpa [stNums, Nd.nums] using nd
        · obtain ⟨a1, a2⟩ := ok.acc q (by rw [hst]; exact List.mem_cons_of_mem _ hq)
          rw [hst] at a2
          simp only [stNums, Nd.nums, List.length_append, List.length_cons, List.length_nil] at a2
          exact ⟨a1, by dsimp only; omega⟩
        · simp only [List.length_append, List.length_cons, List.length_nil]; omega
        · simp only [List.length_append, List.length_cons, List.length_nil]; omega
      · simp [hst, stNums, Nd.nums]
      · rintro rr ⟨b', h1, h2⟩
        exact ⟨b', h1, by rw [h2, hst]; simp [stWalk, Nd.walk]⟩
    | node k e es ks =>
      obtain ⟨_, hkid, hall⟩ := hx
      have hall := inBAll_iff.mp hall
      have lk : ks.length ≤ 60 := by have := hkid.2.1; simpa using this
      have hes : es.length ≤ 20 := hrow.2.2.2.2.2
      have hesn : (es.map (·.1)).Nodup := hrow.2.2.2.2.1
      have kk : ∀ h, run F (n + 9) ix_kids_of [.int (k : Int), (Vl.table es).d] h = .ok (.lst (ks.map fun x => (Vl.to x.k x.e).d)) h := fun h => by
        have := r_kids_of F (n + 4) es k h (ks := some (ks.map fun x => (x.k, x.e))) hkid
        rw [this, kidsT, List.map_map]
        rfl
      have hw : ∀ h, run F (n + 9) ix_handed [.tup (dEnt acc), (Vl.table es).d] h = .ok (.tup (dEnt (handE acc es))) h := fun h => r_handed F (n + 7) h ac1 hesn (by omega) (by omega)
      have q1 : ∀ h, run F (n + 9) ix_Book_edition [bookB b, .int (k : Int)] h = .ok (.int (e : Int)) h := fun h => (r_val F (n + 2) G hrow h).1
      have q2 : ∀ h, run F (n + 9) ix_Book_at [bookB b, .tup [.str [116, 111], .int (k : Int), .int (e : Int)]] h = .ok (Vl.table es).d h := fun h => (r_val F (n + 2) G hrow h).2
      have q3 : ∀ x ∈ ks, ∀ h, run F (n + 9) ix_Book_at [bookB b, (Vl.to x.k x.e).d] h = .ok (Vl.table x.es).d h := fun x hx h => (r_val F (n + 2) G (Nd.row (hall x hx)) h).2
      have q4 : ∀ es h, run F (n + 9) ix_is_table [(Vl.table es).d] h = .ok (.bl true) h := fun es h => r_is_table F (n + 8) (.table es) h
      refine .next ⟨ks.map (fun x => (handE acc es, x)) ++ r, a.met ++ [k], a.found ++ [.tup [.int k, .lst (ks.map fun x => .int (x.k : Int)), .tup (dEnt (handE acc es))]], some (Vl.table es).d, some (.lst (ks.map fun x => (Vl.to x.k x.e).d)), some (.int k), some (.tup (dEnt (handE acc es)))⟩ ?_ ?_ ?_ ?_ ?_
      · simp [Wk1.enc, Wk1.hh, hst]
      · simp [Wk1.enc, Wk1.hh, hst]
        simp only [pp]
        have im' : isMem [O.lst a.found, .lst (a.met.map fun (k : Nat) => D.int (k : Int)), .lst (r.map stD).reverse] (.int (k : Int)) (.ref 1) = some false := im
        have cb := cl_book G
        have hkk : (Nd.node k e es ks).k = k := rfl
        simp [stD, hkk, im', lm, lf, q1, q2, kk, hw, obj_book]
        generalize hR : lcL _ _ _ _ = r1
        have e4 := lc_mapM (g := fun x : Nd => (Vl.to x.k x.e).d) (f := fun _ => .bl true) (hR := hR) (by
          intro x hx
          have := q3 x hx
          simp [this, q4, obj_book]) (by omega)
        subst e4
        have ad : ∀ h, allD h (.lst (ks.map fun _ => D.bl true)) = some (.bl true) := fun h => by
          have := allD_map (h := h) (fun _ : Nd => true) ks
          rw [this]
          simp
        have x31 : ixn 3 1 = some 1 := rfl
        have rv : ∀ h, revD h (.lst (ks.map fun x => (Vl.to x.k x.e).d)) = some (.lst (ks.reverse.map fun x => (Vl.to x.k x.e).d)) := fun h => by
          show some (D.lst (ks.map fun x => (Vl.to x.k x.e).d).reverse) = _
          rw [List.map_reverse]
        simp [-List.map_reverse, ad, hw]
        generalize hR : lcL _ _ _ _ = r1
        have e5 := lc_mapM (g := fun x : Nd => (Vl.to x.k x.e).d) (f := fun x => .int (x.k : Int)) (hR := hR) (by
          intro x hx
          simp [Vl.d, x31]) (by omega)
        subst e5
        simp [-List.map_reverse, lf, rv]
        generalize hR : lcL _ _ _ _ = r1
        have e6 := lc_mapM (g := fun x : Nd => (Vl.to x.k x.e).d) (f := fun x => .tup [.int (x.k : Int), .tup (dEnt (handE acc es))]) (hR := hR) (by
          intro x hx
          simp [Vl.d, x31]) (by rw [List.length_reverse]; omega)
        subst e6
        have hx2 : ∀ f m, extD [f, m, .lst (r.map stD).reverse] (.ref 2) (.lst (ks.reverse.map fun x : Nd => D.tup [.int (x.k : Int), .tup (dEnt (handE acc es))])) = some (.non, some (2, .lst ((r.map stD).reverse ++ ks.reverse.map fun x : Nd => D.tup [.int (x.k : Int), .tup (dEnt (handE acc es))]))) := fun f m => ext_2 (by
          have := st_len r
          rw [hst] at ml
          simp only [stNums, List.length_append] at ml
          simp only [List.length_reverse, List.length_map]
          omega)
        simp [-List.map_reverse, hx2]
        simp [List.map_reverse, stD, Function.comp_def]
      · rw [hst] at lp fl ml ac2
        simp only [stNums, Nd.nums, List.length_append, List.length_cons] at lp fl ml ac2
        have sn := stNums_app ks (handE acc es) r
        refine ⟨fun q hq => ?_, ?_, fun q hq => ?_, ?_, ?_⟩
        · rcases List.mem_append.mp hq with hq | hq
          · obtain ⟨x, hx, rfl⟩ := List.mem_map.mp hq
            exact hall x hx
          · exact ok.inB q (by rw [hst]; exact List.mem_cons_of_mem _ hq)
        · dsimp only
          rw [sn]
          simpa [stNums, Nd.nums] using nd
        · dsimp only
          rw [sn, List.length_append]
          rcases List.mem_append.mp hq with hq | hq
          · obtain ⟨x, hx, rfl⟩ := List.mem_map.mp hq
            have := handE_len (es0 := acc) (es := es)
            exact ⟨handE_nodup ac1, by dsimp only; omega⟩
          · obtain ⟨a1, a2⟩ := ok.acc q (by rw [hst]; exact List.mem_cons_of_mem _ hq)
            rw [hst] at a2
            simp only [stNums, Nd.nums, List.length_append, List.length_cons] at a2
            exact ⟨a1, by omega⟩
        · dsimp only
          rw [sn]
          simp only [List.length_append, List.length_cons, List.length_nil]; omega
        · dsimp only
          rw [sn]
          simp only [List.length_append, List.length_cons, List.length_nil]; omega
      · dsimp only
        rw [stNums_app, hst]
        simp [stNums, Nd.nums]
      · rintro rr ⟨b', h1, h2⟩
        exact ⟨b', h1, by rw [h2, hst]; simp [stWalk, Nd.walk, stWalk_app]⟩
end Lw
end
section
namespace Lw
open Fw Pl
structure TreeB (b : BookS) (m : Nat) (x : Nd) : Prop where
  top : b.top = .tup [.str [116, 111], .int 1, .int 0]
  root : ∃ es, (1, 0, Vl.table es) ∈ b.th ∧ getE [112, 97, 103, 101, 115] es = some (.to (x.k : Int) (x.e : Int))
  inB : x.inB b
  nd : x.nums.Nodup
  len : 20 * x.nums.length ≤ m
  m1 : m ≤ 1000
mutual
theorem walk_closed : ∀ (x : Nd) (acc : Es), closedAll (x.walk acc) = true
  | .leaf k e es, acc => by simp [Nd.walk, cl_dEnt]
  | .node k e es ks, acc => by
    have h1 := walkAll_closed ks (handE acc es)
    have h2 : closedAll (ks.map fun x => D.int (x.k : Int)) = true := Pl.cl_all.mpr fun d hd => by
      obtain ⟨q, _, rfl⟩ := List.mem_map.mp hd
      rfl
    simp [Nd.walk, cl_dEnt, h1, h2]
theorem walkAll_closed : ∀ (xs : List Nd) (acc : Es), closedAll (walkAll acc xs) = true
  | [], acc => rfl
  | x :: xs, acc => by
    have h1 := walk_closed x acc
    have h2 := walkAll_closed xs acc
    rw [walkAll, Pl.cl_all]
    intro d hd
    rcases List.mem_append.mp hd with hd | hd
    · exact Pl.cl_all.mp h1 d hd
    · exact Pl.cl_all.mp h2 d hd
end
theorem r_walked (F n : Nat) {b : BookS} {k m : Nat} (G : BookG k b) {x : Nd} (T : TreeB b m x) (hF : 1000 < F) (h : Hh) : run F (n + 10) ix_walked [bookB b] h = .ok (.lst (x.walk [])) h := by
  rw [show n + 10 = n + 9 + 1 by omega, run_walked, own_closed (np := 1) (by simp [cl_book G]) rfl]
  obtain ⟨es, r1, r2⟩ := T.root
  obtain ⟨h1, h2, h3, h4, h5, h6⟩ := (Nd.row T.inB)
  have hb := cl_book G
  have e1 : ∀ h, run F (n + 9) ix_Book_root [bookB b] h = .ok (.tup [.str [116, 111], .int 1, .int 0]) h := fun h => by
    have := r_root F (n + 8) h G
    rwa [T.top] at this
  have e2 : ∀ h, run F (n + 9) ix_Book_at [bookB b, .tup [.str [116, 111], .int 1, .int 0]] h = .ok (Vl.table es).d h := fun h => by
    have := r_atB F (n + 2) h G (m := 1) (e := 0) (by omega) (by omega)
    have v := valOf_mem G.nd r1 0
    dsimp only at v
    rw [v] at this
    simpa using this
  have e3 : ∀ h, run F (n + 9) ix_first_node [(Vl.table es).d] h = .ok (Vl.to x.k x.e).d h := fun h => r_first_node F (n + 4) es h ⟨h1, h2⟩ h3 r2
  have e4 : ∀ h, run F (n + 9) ix_Book_at [bookB b, (Vl.to x.k x.e).d] h = .ok (Vl.table x.es).d h := fun h => (r_val F (n + 2) G (Nd.row T.inB) h).2
  have e5 : ∀ h, run F (n + 9) ix_is_table [(Vl.table x.es).d] h = .ok (.bl true) h := fun h => r_is_table F (n + 8) (.table x.es) h
  have x31 : ixn 3 1 = some 1 := rfl
  have ix : ∀ h, index h (Vl.to (x.k : Int) (x.e : Int)).d (.int 1) = some (.int (x.k : Int)) := fun h => by simp [Vl.d, x31]
  simp [b_walked, startD, e1, e2, e3, e4, e5, obj_book, ix, sWh_eq]
  generalize hR : whL _ _ _ _ _ = rr
  have hl : (stNums [(([] : Es), x)]).length = x.nums.length := by simp [stNums]
  have tl := T.len
  have tm := T.m1
  obtain ⟨b', rfl, hb'⟩ := r_walkLoop F n G (Vl.to x.k x.e).d T.m1 (a := ⟨[([], x)], [], [], none, none, none, none⟩) (by rw [hl]; omega) ⟨fun q hq => by
      rw [List.mem_singleton.mp hq]; exact T.inB, by simpa [stNums] using T.nd, fun q hq => by
      rw [List.mem_singleton.mp hq]
      exact ⟨List.nodup_nil, by simp only [hl, List.length_nil]; omega⟩, by simp only [hl, List.length_nil]; omega, by simp only [hl, List.length_nil]; omega⟩ hR
  have hf : b'.found = x.walk [] := by rw [hb']; simp [stWalk]
  simp [Wk1.enc, Wk1.hh, hf]
  simp [back, tell, frz, mapAll_closed _ (walk_closed x []), giveBack]
def pageOf : D → Option D
  | .tup [k, .non, e] => some (.tup [k, e])
  | _ => none
mutual
theorem walk_shape : ∀ (x : Nd) (acc : Es), ∀ d ∈ x.walk acc, ∃ (k : Nat) (l : D) (es : Es), d = .tup [.int (k : Int), l, .tup (dEnt es)] ∧ (l = .non ∨ ∃ ks, l = .lst ks)
  | .leaf k e es, acc, d, hd => by
    simp only [Nd.walk, List.mem_singleton] at hd
    exact ⟨k, .non, _, hd, .inl rfl⟩
  | .node k e es ks, acc, d, hd => by
    simp only [Nd.walk, List.mem_cons] at hd
    rcases hd with rfl | hd
    · exact ⟨k, _, _, rfl, .inr ⟨_, rfl⟩⟩
    · exact walkAll_shape ks _ d hd
theorem walkAll_shape : ∀ (xs : List Nd) (acc : Es), ∀ d ∈ walkAll acc xs, ∃ (k : Nat) (l : D) (es : Es), d = .tup [.int (k : Int), l, .tup (dEnt es)] ∧ (l = .non ∨ ∃ ks, l = .lst ks)
  | [], acc, d, hd => by simp [walkAll] at hd
  | x :: xs, acc, d, hd => by
    rw [walkAll] at hd
    rcases List.mem_append.mp hd with hd | hd
    · exact walk_shape x acc d hd
    · exact walkAll_shape xs acc d hd
end
end Lw
end
section
namespace Lw
open Fw Pl
mutual
theorem walk_len : ∀ (x : Nd) (acc : Es), (x.walk acc).length = x.nums.length
  | .leaf k e es, acc => rfl
  | .node k e es ks, acc => by
    have := walkAll_len ks (handE acc es)
    simp [Nd.walk, Nd.nums, this]
theorem walkAll_len : ∀ (xs : List Nd) (acc : Es), (walkAll acc xs).length = (numsAll xs).length
  | [], acc => rfl
  | x :: xs, acc => by
    have h1 := walk_len x acc
    have h2 := walkAll_len xs acc
    simp [walkAll, numsAll, h1, h2]
end
def pagesL (x : Nd) : List D := (x.walk []).filterMap pageOf
theorem pages_closed (x : Nd) : closedAll (pagesL x) = true := Pl.cl_all.mpr fun d hd => by
  obtain ⟨y, hy, hp⟩ := List.mem_filterMap.mp hd
  obtain ⟨k, l, es, rfl, hl⟩ := walk_shape x [] y hy
  rcases hl with rfl | ⟨ks, rfl⟩
  · cases hp
    simp [cl_dEnt]
  · cases hp
theorem pages_body (F n : Nat) {b : BookS} {k m : Nat} (G : BookG k b) {x : Nd} (T : TreeB b m x) (hF : 1000 < F) (h : Hh) :
    b_pages (run F (n + 10)) F [some (bookB b), none, none, none] h = .rt (.ref h.length) (h ++ [.lst (pagesL x)]) := by
  have l1 : line = 16777216 := Pl.line_eq
  have e1 : ∀ h, run F (n + 10) ix_walked [bookB b] h = .ok (.lst (x.walk [])) h := fun h => r_walked F n G T hF h
  have tl := T.len
  have tm := T.m1
  simp [b_pages, e1]
  generalize hR : lcL _ _ _ _ = rr
  have e3 := lc_filterR hR pageOf (by
    intro d hd
    obtain ⟨k, l, es, rfl, hl⟩ := walk_shape x [] d hd
    rcases hl with rfl | ⟨ks, rfl⟩
    · simp [pageOf, D.isNon]
    · simp [pageOf, D.isNon]) (by rw [walk_len]; simp; omega)
  subst e3
  simp [pagesL]
theorem r_pages (F n : Nat) {b : BookS} {k m : Nat} (G : BookG k b) {x : Nd} (T : TreeB b m x) (hF : 1000 < F) (h : Hh) : run F (n + 11) ix_pages [bookB b] h = .ok (.lst (pagesL x)) h := by
  rw [show n + 11 = n + 10 + 1 by omega, run_pages, own_closed (np := 1) (by simp [cl_book G]) rfl]
  have := pages_body F n G T hF []
  show back [] h (b_pages (run F (n + 10)) F [some (bookB b), none, none, none] []) = _
  rw [this]
  simp [back, tell, frz, mapAll_closed _ (pages_closed x), giveBack]
theorem r_pages_full (F n : Nat) {b : BookS} {k m : Nat} (G : BookG k b) {x : Nd} (T : TreeB b m x) (hF : 1000 < F) (h : Hh) : run F (n + 11) ix_pages_full [bookB b] h = .ok (.ref h.length) (h ++ [.lst (pagesL x)]) := by
  rw [show n + 11 = n + 10 + 1 by omega, run_pages_full]
  have := pages_body F n G T hF h
  show (b_pages (run F (n + 10)) F [some (bookB b), none, none, none] h).out = _
  rw [this]
  rfl
end Lw
end
section
namespace Lw
open Fw Pl
inductive FThru (body : D → Sg → Hh → SR) : List D → Sg → Hh → Sg → Hh → Prop
  | nil {σ : Sg} {h : Hh} : FThru body [] σ h σ h
  | cons {x : D} {xs : List D} {σ σ1 σ2 : Sg} {h h1 h2 : Hh} : body x σ h = .nx σ1 h1 → FThru body xs σ1 h1 σ2 h2 → FThru body (x :: xs) σ h σ2 h2
inductive FStop (body : D → Sg → Hh → SR) : List D → Sg → Hh → D → Hh → Prop
  | here {x d : D} {xs : List D} {σ : Sg} {h h1 : Hh} : body x σ h = .rt d h1 → FStop body (x :: xs) σ h d h1
  | next {x d : D} {xs : List D} {σ σ1 : Sg} {h h1 h2 : Hh} : body x σ h = .nx σ1 h1 → FStop body xs σ1 h1 d h2 → FStop body (x :: xs) σ h d h2
section
variable {body : D → Sg → Hh → SR}
theorem FThru.app {xs ys : List D} {σ σ1 σ2 : Sg} {h h1 h2 : Hh} (a : FThru body xs σ h σ1 h1) (b : FThru body ys σ1 h1 σ2 h2) : FThru body (xs ++ ys) σ h σ2 h2 := by
  induction a with
  | nil => exact b
  | cons e _ ih => exact .cons e (ih b)
theorem FThru.stop {xs ys : List D} {σ σ1 : Sg} {h h1 h2 : Hh} {d : D} (a : FThru body xs σ h σ1 h1) (b : FStop body ys σ1 h1 d h2) : FStop body (xs ++ ys) σ h d h2 := by
  induction a with
  | nil => exact b
  | cons e _ ih => exact .next e (ih b)
theorem FStop.app {xs : List D} (ys : List D) {σ : Sg} {h h2 : Hh} {d : D} (a : FStop body xs σ h d h2) : FStop body (xs ++ ys) σ h d h2 := by
  induction a with
  | here e => exact .here e
  | next e _ ih => exact .next e ih
theorem FThru.forL {xs : List D} {σ σ1 : Sg} {h h1 : Hh} (a : FThru body xs σ h σ1 h1) : Fw.forL body xs σ h = .nx σ1 h1 := by
  induction a with
  | nil => rfl
  | cons e _ ih => simp only [Fw.forL, e]; exact ih
theorem FStop.forL {xs : List D} {σ : Sg} {h h1 : Hh} {d : D} (a : FStop body xs σ h d h1) : Fw.forL body xs σ h = .rt d h1 := by
  induction a with
  | here e => simp only [Fw.forL, e]
  | next e _ ih => simp only [Fw.forL, e]; exact ih
end
mutual
def Nd.cnt : Nd → Nat
  | .leaf _ _ _ => 1
  | .node _ _ _ ks => cntAll ks
def cntAll : List Nd → Nat
  | [] => 0
  | x :: xs => x.cnt + cntAll xs
end
def rightC (es : Es) (n : Nat) : Bool := match getE [99, 111, 117, 110, 116] es with
  | some (.int i) => decide (i = (n : Int))
  | _ => false
mutual
def Nd.good : Nd → Bool
  | .leaf _ _ _ => true
  | .node _ _ es ks => goodAll ks && rightC es (cntAll ks)
def goodAll : List Nd → Bool
  | [] => true
  | x :: xs => x.good && goodAll xs
end
mutual
def Nd.ord : Nd → List (Nat × Nat)
  | .leaf k _ _ => [(k, 1)]
  | .node k _ _ ks => ordAll ks ++ [(k, cntAll ks)]
def ordAll : List Nd → List (Nat × Nat)
  | [] => []
  | x :: xs => ordAll xs ++ x.ord
end
end Lw
end
section
namespace Lw
open Fw Pl
def bodyC (c : Nat → List D → Hh → R D) : D → Sg → Hh → SR := forB (.tp [(.nm 2), (.nm 3), (.nm 4)]) (sCons (sIf (bCmp .is_ (eV 3) (eC .non)) (sCons (sSetI (eV 1) (eV 2) (eC (.int 1)))
 sNil) (sCons (sSetI (eV 1) (eV 2) (eU sumD (eLc (eIx (eV 1) (eV 7)) (.nm 7) .e (aCons (eV 3) aNil) bYes [7])))
 (sCons (sAsg (.tp [(.nm 5), (.nm 6)]) (eCall (fun ds h => c ix_entry_of (ds ++ []) h) (aCons (eMeth (fun ds h => c ix_Book_at (ds ++ []) h) 0 (eV 0) (aCons (eTup (aCons (eC (.str [116, 111])) (aCons (eV 2) (aCons (eMeth (fun ds h => c ix_Book_edition (ds ++ []) h) 0 (eV 0) (aCons (eV 2) aNil)) aNil)))) aNil)) (aCons (eC (.str [99, 111, 117, 110, 116])) aNil))))
 (sCons (sIf (bOr (bNot (bT (eV 5))) (bOr (bNot (bT (eU (isT (isOf .int)) (eV 6)))) (bCmp .ne (eV 6) (eIx (eV 1) (eV 2))))) (sCons (sRet (eC (.bl false)))
 sNil) sNil)
 sNil))))
 sNil)
theorem are_counted_eq (c : Nat → List D → Hh → R D) (F : Nat) : b_are_counted c F = (sCons (sSet 1 eNewD) (sCons (sFor (.tp [(.nm 2), (.nm 3), (.nm 4)]) .e (aCons (eU revD (eCall (fun ds h => c ix_walked (ds ++ []) h) (aCons (eV 0) aNil))) aNil) (sCons (sIf (bCmp .is_ (eV 3) (eC .non)) (sCons (sSetI (eV 1) (eV 2) (eC (.int 1)))
 sNil) (sCons (sSetI (eV 1) (eV 2) (eU sumD (eLc (eIx (eV 1) (eV 7)) (.nm 7) .e (aCons (eV 3) aNil) bYes [7])))
 (sCons (sAsg (.tp [(.nm 5), (.nm 6)]) (eCall (fun ds h => c ix_entry_of (ds ++ []) h) (aCons (eMeth (fun ds h => c ix_Book_at (ds ++ []) h) 0 (eV 0) (aCons (eTup (aCons (eC (.str [116, 111])) (aCons (eV 2) (aCons (eMeth (fun ds h => c ix_Book_edition (ds ++ []) h) 0 (eV 0) (aCons (eV 2) aNil)) aNil)))) aNil)) (aCons (eC (.str [99, 111, 117, 110, 116])) aNil))))
 (sCons (sIf (bOr (bNot (bT (eV 5))) (bOr (bNot (bT (eU (isT (isOf .int)) (eV 6)))) (bCmp .ne (eV 6) (eIx (eV 1) (eV 2))))) (sCons (sRet (eC (.bl false)))
 sNil) sNil)
 sNil))))
 sNil)) (sCons (sRet (eC (.bl true))) sNil))) := rfl
def sgC (bk : D) (a : Option D × Option D × Option D × Option D × Option D) : Sg := [some bk, some (.ref 0), a.1, a.2.1, a.2.2.1, a.2.2.2.1, a.2.2.2.2, none]
theorem leaf_stepC {c : Nat → List D → Hh → R D} {bk : D} {a : Option D × Option D × Option D × Option D × Option D} {L : List (Nat × Nat)} {k : Nat} {e : D} (hL : L.length ≤ 1000) :
    bodyC c (.tup [.int (k : Int), .non, e]) (sgC bk a) [.dct (L.map kv2)] = .nx (sgC bk (some (.int k), some .non, some e, a.2.2.2.1, a.2.2.2.2)) [.dct (put (.inl (k : Int)) (.int 1) (L.map kv2))] := by
  have l1 : line = 16777216 := Pl.line_eq
  have hl : L.length < 16777216 := by omega
  simp [bodyC, sgC, D.isNon, hl]
end Lw
end
section
namespace Lw
open Fw Pl
theorem put_fresh {k : K1} {d : D} {l : List (K1 × D)} (h : k ∉ l.map (·.1)) : Fw.put k d l = l ++ [(k, d)] := by
  unfold Fw.put
  rw [if_neg]
  intro hm
  obtain ⟨q, hq, e⟩ := List.any_eq_true.mp hm
  exact h (List.mem_map.mpr ⟨q, hq, of_decide_eq_true e⟩)
theorem keys_kv2 (L : List (Nat × Nat)) {k : Nat} (h : k ∉ L.map (·.1)) : (Sum.inl (k : Int) : K1) ∉ (L.map kv2).map (·.1) := by
  intro hm
  simp only [List.map_map, List.mem_map] at hm
  obtain ⟨q, hq, e⟩ := hm
  have e2 : (q.1 : Int) = (k : Int) := by simpa [kv2] using e
  exact h (List.mem_map.mpr ⟨q, hq, by omega⟩)
theorem put_app {k n : Nat} {L : List (Nat × Nat)} (h : k ∉ L.map (·.1)) : Fw.put (.inl (k : Int)) (.int (n : Int)) (L.map kv2) = (L ++ [(k, n)]).map kv2 := by
  rw [put_fresh (keys_kv2 L h)]
  simp [kv2]
theorem asInts_nat {α : Type} (f : α → Int) : ∀ xs : List α, asInts (xs.map fun x => D.int (f x)) = some (xs.map f)
  | [] => rfl
  | x :: xs => by simp [asInts, asInts_nat f xs]
theorem cnt_sum : ∀ ks : List Nd, (ks.map fun x => (x.cnt : Int)).sum = (cntAll ks : Int)
  | [] => rfl
  | x :: xs => by
    have := cnt_sum xs
    simp [cntAll, this]
theorem node_stepC {F n : Nat} {b : BookS} {kk k e : Nat} {es acc : Es} (G : BookG kk b) (hr : rowOk b k e es) {ks : List Nd} (lk : ks.length ≤ 60) {a : Option D × Option D × Option D × Option D × Option D} {L : List (Nat × Nat)} (hL : L.length ≤ 1000)
    (nL : (L.map (·.1)).Nodup) (hk : k ∉ L.map (·.1)) (hks : ∀ x ∈ ks, (x.k, x.cnt) ∈ L) :
    ∃ a', if rightC es (cntAll ks) then bodyC (run F (n + 9)) (.tup [.int (k : Int), .lst (ks.map fun x => .int (x.k : Int)), .tup (dEnt acc)]) (sgC (bookB b) a) [.dct (L.map kv2)] = .nx (sgC (bookB b) a') [.dct ((L ++ [(k, cntAll ks)]).map kv2)]
      else ∃ hc, bodyC (run F (n + 9)) (.tup [.int (k : Int), .lst (ks.map fun x => .int (x.k : Int)), .tup (dEnt acc)]) (sgC (bookB b) a) [.dct (L.map kv2)] = .rt (.bl false) hc := by
  have l1 : line = 16777216 := Pl.line_eq
  have hl : L.length < 16777216 := by omega
  obtain ⟨h1, h2, h3, h4, h5, h6⟩ := hr
  have q1 : ∀ h, run F (n + 9) ix_Book_edition [bookB b, .int (k : Int)] h = .ok (.int (e : Int)) h := fun h => by
    have := r_edB F (n + 5) h G (m := k) ⟨h1, h2⟩
    rw [this, edOf_mem G.nd h4]
  have q2 : ∀ h, run F (n + 9) ix_Book_at [bookB b, .tup [.str [116, 111], .int (k : Int), .int (e : Int)]] h = .ok (Vl.table es).d h := fun h => by
    have := r_atB F (n + 2) h G (m := k) (e := e) ⟨h1, h2⟩ h3
    rw [this, valOf_mem G.nd h4]
    simp
  have q3 : ∀ h, run F (n + 9) ix_entry_of [(Vl.table es).d, .str [99, 111, 117, 110, 116]] h = .ok (entT [99, 111, 117, 110, 116] es) h := fun h => r_entry F (n + 8) es [99, 111, 117, 110, 116] (.str wTable) h (by simp)
  have sm : ∀ h, sumD h (.lst (ks.map fun x => D.int (x.cnt : Int))) = some (.int (cntAll ks : Int)) := fun h => by
    simp only [sumD, asLst, Option.bind_some]
    rw [asInts_nat (fun x : Nd => (x.cnt : Int)), Option.map_some, cnt_sum]
  have pa := put_app (n := cntAll ks) hk
  have lk2 : look (.inl (k : Int)) ((L ++ [(k, cntAll ks)]).map kv2) = some (.int (cntAll ks : Int)) := by
    have := look_kv2 (l := L ++ [(k, cntAll ks)]) (t := (k, cntAll ks)) (by
      rw [List.map_append, List.nodup_append]
      exact ⟨nL, by simp, fun x hx y hy => by simp at hy; subst hy; intro e; subst e; exact hk hx⟩) (by simp)
    exact this
  have x2 : ∀ (x y : D), index [O.dct ((L ++ [(k, cntAll ks)]).map kv2)] (.ref 0) (.int (k : Int)) = some (.int (cntAll ks : Int)) := fun _ _ => by rw [index_refdi (by rfl)]; exact lk2
  have x2 := x2 .non .non
  simp only [List.map_append, List.map_cons, List.map_nil] at x2
  have vi : ∀ i, (Vl.int i).d = .int i := fun i => rfl
  have comp : ∀ (σ : Sg) {rr : R (List D)}, lcL (lcStep (eIx (eV 1) (eV 7)) (.nm 7) bYes [7] (some (bookB b) :: some (.ref 0) :: σ)) (ks.map fun x => .int (x.k : Int)) [] [.dct (L.map kv2)] = rr → σ.length = 6 → rr = .ok (ks.map fun x => .int (x.cnt : Int)) [.dct (L.map kv2)] := by
    intro σ rr hR hσ
    obtain ⟨s2, s3, s4, s5, s6, s7, rfl⟩ : ∃ a b c d e f, σ = [a, b, c, d, e, f] := by
      match σ, hσ with
      | [a, b, c, d, e, f], _ => exact ⟨a, b, c, d, e, f, rfl⟩
    refine lc_mapM (g := fun x : Nd => .int (x.k : Int)) (f := fun x => .int (x.cnt : Int)) hR (fun x hx => ?_) (by omega)
    have lx := look_kv2 nL (hks x hx)
    dsimp only at lx
    simp [index_refdi (h := [O.dct (L.map kv2)]) (n := 0) (kvs := L.map kv2) rfl, lx]
  cases hg : getE [99, 111, 117, 110, 116] es with
  | none =>
    refine ⟨a, ?_⟩
    have hrc : rightC es (cntAll ks) = false := by simp [rightC, hg]
    rw [entT, hg] at q3
    dsimp only at q3
    rw [hrc]
    simp [bodyC, sgC, D.isNon]
    generalize hR : lcL _ _ _ _ = rr
    have e3 := comp _ hR rfl
    subst e3
    simp [sm, hl, pa, q1, q2, q3, obj_book]
  | some v =>
    rw [entT, hg] at q3
    dsimp only at q3
    refine ⟨(some (.int k), some (.lst (ks.map fun x => .int (x.k : Int))), some (.tup (dEnt acc)), some (.bl true), some v.d), ?_⟩
    by_cases hi : ∃ i, v = .int i
    · obtain ⟨i, rfl⟩ := hi
      have hrc : rightC es (cntAll ks) = decide (i = (cntAll ks : Int)) := by simp [rightC, hg]
      rw [hrc]
      by_cases hic : i = (cntAll ks : Int)
      · subst hic
        simp [bodyC, sgC, D.isNon]
        generalize hR : lcL _ _ _ _ = rr
        have e3 := comp _ hR rfl
        subst e3
        simp [sm, hl, pa, q1, q2, q3, obj_book, vi, isT, ty1, isOf, x2]
      · simp [bodyC, sgC, D.isNon, hic]
        generalize hR : lcL _ _ _ _ = rr
        have e3 := comp _ hR rfl
        subst e3
        simp [sm, hl, pa, q1, q2, q3, obj_book, vi, isT, ty1, isOf, x2, hic]
    · have hrc : rightC es (cntAll ks) = false := by
        unfold rightC
        rw [hg]
        cases v <;> first | rfl | exact absurd ⟨_, rfl⟩ hi
      have it : ∀ h, isT (isOf .int) h v.d = some (.bl false) := fun h => by
        cases v <;> first | rfl | exact absurd ⟨_, rfl⟩ hi
      rw [hrc]
      simp [bodyC, sgC, D.isNon]
      generalize hR : lcL _ _ _ _ = rr
      have e3 := comp _ hR rfl
      subst e3
      simp [sm, hl, pa, q1, q2, q3, obj_book, it]
end Lw
end
section
namespace Lw
open Fw Pl
mutual
theorem ord_perm : ∀ x : Nd, (x.ord.map (·.1)).Perm x.nums
  | .leaf k e es => by simp [Nd.ord, Nd.nums]
  | .node k e es ks => by
    have := ordAll_perm ks
    simp only [Nd.ord, Nd.nums, List.map_append, List.map_cons, List.map_nil]
    exact (List.perm_append_singleton _ _).trans (this.cons _)
theorem ordAll_perm : ∀ xs : List Nd, ((ordAll xs).map (·.1)).Perm (numsAll xs)
  | [] => by simp [ordAll, numsAll]
  | x :: xs => by
    have h1 := ord_perm x
    have h2 := ordAll_perm xs
    simp only [ordAll, numsAll, List.map_append]
    exact (h2.append h1).trans List.perm_append_comm
end
theorem ord_self (x : Nd) : (x.k, x.cnt) ∈ x.ord := by cases x <;> simp [Nd.ord, Nd.k, Nd.cnt]
theorem ordAll_self : ∀ {xs : List Nd} {x : Nd}, x ∈ xs → (x.k, x.cnt) ∈ ordAll xs
  | y :: ys, x, h => by
    rcases List.mem_cons.mp h with rfl | h
    · exact List.mem_append_right _ (ord_self _)
    · exact List.mem_append_left _ (ordAll_self h)
section
variable {F n kk : Nat} {b : BookS}
mutual
theorem thruC (G : BookG kk b) : ∀ (x : Nd) (acc : Es) (a : Option D × Option D × Option D × Option D × Option D) (L : List (Nat × Nat)), x.inB b → (L.map (·.1) ++ x.nums).Nodup → L.length + x.nums.length ≤ 1000 →
    (x.good = true → ∃ a', FThru (bodyC (run F (n + 9))) (x.walk acc).reverse (sgC (bookB b) a) [.dct (L.map kv2)] (sgC (bookB b) a') [.dct ((L ++ x.ord).map kv2)]) ∧
    (x.good = false → ∃ hc, FStop (bodyC (run F (n + 9))) (x.walk acc).reverse (sgC (bookB b) a) [.dct (L.map kv2)] (.bl false) hc)
  | .leaf k e es, acc, a, L, hi, hn, hl => by
    have hk : k ∉ L.map (·.1) := fun hm => (List.nodup_append.mp hn).2.2 _ hm k (by simp [Nd.nums]) rfl
    refine ⟨fun _ => ⟨(some (.int k), some .non, some (.tup (dEnt (withE acc es))), a.2.2.2.1, a.2.2.2.2), ?_⟩, fun h => by simp [Nd.good] at h⟩
    have := leaf_stepC (c := run F (n + 9)) (bk := bookB b) (a := a) (L := L) (k := k) (e := .tup (dEnt (withE acc es))) (by omega)
    rw [show (1 : Int) = ((1 : Nat) : Int) from rfl, put_app hk] at this
    exact .cons this .nil
  | .node k e es ks, acc, a, L, hi, hn, hl => by
    obtain ⟨hr, hkid, hall⟩ := hi
    have lk : ks.length ≤ 60 := by have := hkid.2.1; simpa using this
    simp only [Nd.nums, List.length_cons] at hn hl
    have hn2 : (L.map (·.1) ++ numsAll ks).Nodup := hn.sublist (List.Sublist.append_left (List.sublist_cons_self _ _) _)
    have ih := thruAllC G ks (handE acc es) a L hall hn2 (by omega)
    have pm := ordAll_perm ks
    have e1 : (Nd.walk acc (.node k e es ks)).reverse = (walkAll (handE acc es) ks).reverse ++ [.tup [.int k, .lst (ks.map fun x => .int (x.k : Int)), .tup (dEnt (handE acc es))]] := by simp [Nd.walk]
    rw [e1]
    have hkn : k ∉ (L ++ ordAll ks).map (·.1) := by
      rw [List.map_append, List.mem_append]
      rintro (hm | hm)
      · exact (List.nodup_append.mp hn).2.2 _ hm k (by simp) rfl
      · have := (List.nodup_append.mp hn).2.1
        rw [List.nodup_cons] at this
        exact this.1 (pm.mem_iff.mp hm)
    have nd2 : ((L ++ ordAll ks).map (·.1)).Nodup := by
      rw [List.map_append]
      exact (pm.append_left _).nodup_iff.mpr hn2
    have ll : (L ++ ordAll ks).length ≤ 1000 := by
      have := pm.length_eq
      simp only [List.length_map] at this
      rw [List.length_append]
      omega
    cases hg : goodAll ks with
    | false =>
      refine ⟨fun h => by simp [Nd.good, hg] at h, fun _ => ?_⟩
      obtain ⟨hc, s⟩ := ih.2 hg
      exact ⟨hc, s.app _⟩
    | true =>
      obtain ⟨a1, t⟩ := ih.1 hg
      obtain ⟨a2, st⟩ := node_stepC (F := F) (n := n) (acc := handE acc es) G hr lk (a := a1) ll nd2 hkn (fun x hx => List.mem_append_right _ (ordAll_self hx))
      cases hrc : rightC es (cntAll ks) with
      | true =>
        rw [hrc, if_pos rfl] at st
        refine ⟨fun _ => ⟨a2, ?_⟩, fun h => by simp [Nd.good, hg, hrc] at h⟩
        rw [Nd.ord, ← List.append_assoc]
        exact t.app (.cons st .nil)
      | false =>
        rw [hrc] at st
        obtain ⟨hc, st⟩ := st
        exact ⟨fun h => by simp [Nd.good, hg, hrc] at h, fun _ => ⟨hc, t.stop (.here st)⟩⟩
theorem thruAllC (G : BookG kk b) : ∀ (xs : List Nd) (acc : Es) (a : Option D × Option D × Option D × Option D × Option D) (L : List (Nat × Nat)), inBAll b xs → (L.map (·.1) ++ numsAll xs).Nodup → L.length + (numsAll xs).length ≤ 1000 →
    (goodAll xs = true → ∃ a', FThru (bodyC (run F (n + 9))) (walkAll acc xs).reverse (sgC (bookB b) a) [.dct (L.map kv2)] (sgC (bookB b) a') [.dct ((L ++ ordAll xs).map kv2)]) ∧
    (goodAll xs = false → ∃ hc, FStop (bodyC (run F (n + 9))) (walkAll acc xs).reverse (sgC (bookB b) a) [.dct (L.map kv2)] (.bl false) hc)
  | [], acc, a, L, hi, hn, hl => ⟨fun _ => ⟨a, by simpa [walkAll, ordAll] using FThru.nil⟩, fun h => by cases h⟩
  | x :: xs, acc, a, L, hi, hn, hl => by
    simp only [numsAll, List.length_append] at hn hl
    have pm := ordAll_perm xs
    have hn1 : (L.map (·.1) ++ numsAll xs).Nodup := hn.sublist (List.Sublist.append_left (List.sublist_append_right _ _) _)
    have ih2 := thruAllC G xs acc a L hi.2 hn1 (by omega)
    have hn2 : ((L ++ ordAll xs).map (·.1) ++ x.nums).Nodup := by
      rw [List.map_append, List.append_assoc]
      refine List.Perm.nodup_iff (List.Perm.append_left _ ?_) |>.mpr hn
      exact (pm.append_right _).trans List.perm_append_comm
    have ll : (L ++ ordAll xs).length + x.nums.length ≤ 1000 := by
      have := pm.length_eq
      simp only [List.length_map] at this
      rw [List.length_append]
      omega
    rw [walkAll, List.reverse_append, ordAll, ← List.append_assoc]
    cases hg : goodAll xs with
    | false =>
      refine ⟨fun h => by simp [goodAll, hg] at h, fun _ => ?_⟩
      obtain ⟨hc, s⟩ := ih2.2 hg
      exact ⟨hc, s.app _⟩
    | true =>
      obtain ⟨a1, t⟩ := ih2.1 hg
      have ih1 := thruC G x acc a1 (L ++ ordAll xs) hi.1 hn2 ll
      cases hx : x.good with
      | true =>
        obtain ⟨a2, t2⟩ := ih1.1 hx
        exact ⟨fun _ => ⟨a2, t.app t2⟩, fun h => by simp [goodAll, hg, hx] at h⟩
      | false =>
        obtain ⟨hc, s2⟩ := ih1.2 hx
        exact ⟨fun h => by simp [goodAll, hg, hx] at h, fun _ => ⟨hc, t.stop s2⟩⟩
end
theorem r_are_counted (G : BookG kk b) {m : Nat} {x : Nd} (T : TreeB b m x) (hF : 1000 < F) (h : Hh) : run F (n + 11) ix_are_counted [bookB b] h = .ok (.bl x.good) h := by
  rw [show n + 11 = n + 10 + 1 by omega, run_are_counted, own_closed (np := 1) (by simp [cl_book G]) rfl, are_counted_eq]
  have e1 : ∀ h, run F (n + 10) ix_walked [bookB b] h = .ok (.lst (x.walk [])) h := fun h => r_walked F n G T hF h
  have rv : ∀ h, revD h (.lst (x.walk [])) = some (.lst (x.walk []).reverse) := fun h => rfl
  have tl := T.len
  have tm := T.m1
  have key := thruC (F := F) (n := n + 1) G x [] (none, none, none, none, none) [] T.inB (by simpa using T.nd) (by simp only [List.length_nil]; omega)
  cases hg : x.good with
  | true =>
    obtain ⟨a', t⟩ := key.1 hg
    have := t.forL
    simp only [bodyC, sgC, List.append_nil, List.map_nil, show n + 1 + 9 = n + 10 by omega] at this
    simp [startD, e1, rv, this]
  | false =>
    obtain ⟨hc, t⟩ := key.2 hg
    have := t.forL
    simp only [bodyC, sgC, List.append_nil, List.map_nil, show n + 1 + 9 = n + 10 by omega] at this
    simp [startD, e1, rv, this]
end
end Lw
end
section
namespace Lw
open Fw Pl
inductive Gt where
  | leaf (k e f : Nat) (es : Es)
  | node (k e f : Nat) (es : Es) (ks : List Gt)
def Gt.k : Gt → Nat
  | .leaf k _ _ _ => k
  | .node k _ _ _ _ => k
def Gt.e : Gt → Nat
  | .leaf _ e _ _ => e
  | .node _ e _ _ _ => e
def Gt.f : Gt → Nat
  | .leaf _ _ f _ => f
  | .node _ _ f _ _ => f
def Gt.es : Gt → Es
  | .leaf _ _ _ es => es
  | .node _ _ _ es _ => es
mutual
def Gt.nd : Gt → Nd
  | .leaf k e _ es => .leaf k e (sortE es)
  | .node k e _ es ks => .node k e (sortE es) (ndAll ks)
def ndAll : List Gt → List Nd
  | [] => []
  | x :: xs => x.nd :: ndAll xs
end
mutual
def Gt.post : Gt → List Gt
  | .leaf k e f es => [.leaf k e f es]
  | .node k e f es ks => postAll ks ++ [.node k e f es ks]
def postAll : List Gt → List Gt
  | [] => []
  | x :: xs => x.post ++ postAll xs
end
def tdat (k e f : Nat) (ks : List D) (n : Nat) : D := .dct [(.inr [115, 112, 111, 116], .int (k : Int)), (.inr [116, 117, 114, 110], .int (e : Int)), (.inr [107, 105, 100, 115], .lst ks), (.inr [102, 111, 117, 110, 100], .ref f), (.inr [108, 101, 97, 118, 101, 115], .int (n : Int))]
mutual
def Gt.dat : Gt → D
  | .leaf k e f _ => tdat k e f [] 1
  | .node k e f _ ks => tdat k e f (datG ks) (cntAll (ndAll ks))
def datG : List Gt → List D
  | [] => []
  | x :: xs => x.dat :: datG xs
end
theorem ndAll_map : ∀ ks : List Gt, ndAll ks = ks.map Gt.nd
  | [] => rfl
  | x :: xs => by simp [ndAll, ndAll_map xs]
theorem datG_map : ∀ ks : List Gt, datG ks = ks.map Gt.dat
  | [] => rfl
  | x :: xs => by simp [datG, datG_map xs]
theorem postAll_map : ∀ ks : List Gt, postAll ks = ks.flatMap Gt.post
  | [] => rfl
  | x :: xs => by simp [postAll, postAll_map xs]
theorem postAll_app : ∀ xs ys : List Gt, postAll (xs ++ ys) = postAll xs ++ postAll ys
  | [], ys => rfl
  | x :: xs, ys => by simp [postAll, postAll_app xs ys]
theorem numsAll_app : ∀ xs ys : List Nd, numsAll (xs ++ ys) = numsAll xs ++ numsAll ys
  | [], ys => rfl
  | x :: xs, ys => by simp [numsAll, numsAll_app xs ys]
theorem nd_k (x : Gt) : x.nd.k = x.k := by cases x <;> rfl
theorem nd_e (x : Gt) : x.nd.e = x.e := by cases x <;> rfl
theorem dat_is (x : Gt) : ∃ ks : List Gt, x.dat = tdat x.k x.e x.f (datG ks) x.nd.cnt := by
  cases x with
  | leaf k e f es => exact ⟨[], rfl⟩
  | node k e f es ks => exact ⟨ks, rfl⟩
theorem index_dw {h : Hh} {kvs : List (K1 × D)} {s : Tx} : index h (.dct kvs) (.str s) = look (.inr s) kvs := (rfl)
section
variable {h : Hh} (k e f n : Nat) (ks : List D)
theorem td_spot : index h (tdat k e f ks n) (.str [115, 112, 111, 116]) = some (.int (k : Int)) := by simp [tdat, index_dw, look]
theorem td_turn : index h (tdat k e f ks n) (.str [116, 117, 114, 110]) = some (.int (e : Int)) := by simp [tdat, index_dw, look]
theorem td_kids : index h (tdat k e f ks n) (.str [107, 105, 100, 115]) = some (.lst ks) := by simp [tdat, index_dw, look]
theorem td_found : index h (tdat k e f ks n) (.str [102, 111, 117, 110, 100]) = some (.ref f) := by simp [tdat, index_dw, look]
theorem td_leaves : index h (tdat k e f ks n) (.str [108, 101, 97, 118, 101, 115]) = some (.int (n : Int)) := by simp [tdat, index_dw, look]
end
theorem dat_spot (x : Gt) (h : Hh) : index h x.dat (.str [115, 112, 111, 116]) = some (.int (x.k : Int)) := by
  obtain ⟨ks, e⟩ := dat_is x
  rw [e, td_spot]
theorem dat_turn (x : Gt) (h : Hh) : index h x.dat (.str [116, 117, 114, 110]) = some (.int (x.e : Int)) := by
  obtain ⟨ks, e⟩ := dat_is x
  rw [e, td_turn]
theorem dat_found (x : Gt) (h : Hh) : index h x.dat (.str [102, 111, 117, 110, 100]) = some (.ref x.f) := by
  obtain ⟨ks, e⟩ := dat_is x
  rw [e, td_found]
theorem dat_leaves (x : Gt) (h : Hh) : index h x.dat (.str [108, 101, 97, 118, 101, 115]) = some (.int (x.nd.cnt : Int)) := by
  obtain ⟨ks, e⟩ := dat_is x
  rw [e, td_leaves]
def wKids : Tx := [107, 105, 100, 115]
def wCount : Tx := [99, 111, 117, 110, 116]
structure RowG (es : Es) : Prop where
  nd : (es.map (·.1)).Nodup
  len : es.length ≤ 5
  cell : ∀ e ∈ es, e.1 ∈ wKids :: words6 ∧ e.2.pl ∧ e.2.deep ≤ 2 ∧ e.2.tx.length ≤ 250
def toG (x : Gt) : Vl := .to (x.k : Int) (x.e : Int)
def Gt.ok : Gt → Prop
  | .leaf k e _ es => (2 ≤ k ∧ k < 40) ∧ e ≤ 1 ∧ RowG es ∧ getE wKids es = none
  | .node k e _ es ks => (2 ≤ k ∧ k < 40) ∧ e ≤ 1 ∧ RowG es ∧ getE wKids es = some (.row (ks.map toG)) ∧ ks.length ≤ 3
def Gt.cok : Gt → Prop
  | .leaf _ _ _ _ => True
  | .node _ _ _ es ks => getE wCount es = some (.int (cntAll (ndAll ks) : Int))
def natD (k : Nat) : D := .int (k : Int)
structure Grew (h h' : Hh) (r s w : Nat) (xs : List Gt) (sp sp' : List Nat) (ns : List D) : Prop where
  ro : ∃ o, h'[r]? = some o ∧ RoomOk o
  hsp : h'[s]? = some (.lst (sp'.map natD))
  hns : h'[w]? = some (.lst (ns ++ (postAll xs).map Gt.dat))
  len : h.length ≤ h'.length
  old : ∀ i, i < h.length → i ≠ r → i ≠ s → i ≠ w → h'[i]? = h[i]?
  inH : ∀ y ∈ postAll xs, h.length ≤ y.f ∧ h'[y.f]? = some (.dct (kvE y.es))
  nums : (numsAll (ndAll xs) ++ sp').Perm sp
  ok : ∀ y ∈ postAll xs, y.ok ∧ y.cok
  fn : ((postAll xs).map Gt.f).Nodup
theorem Grew.trans {h h1 h2 : Hh} {r s w : Nat} {xs ys : List Gt} {sp sp1 sp2 : List Nat} {ns : List D} (hr : r < h.length) (hs : s < h.length) (hw : w < h.length)
    (a : Grew h h1 r s w xs sp sp1 ns) (b : Grew h1 h2 r s w ys sp1 sp2 (ns ++ (postAll xs).map Gt.dat)) : Grew h h2 r s w (xs ++ ys) sp sp2 ns := by
  have l1 := a.len
  refine ⟨b.ro, b.hsp, ?_, by have := b.len; omega, fun i hi h1 h2 h3 => ?_, fun y hy => ?_, ?_, fun y hy => ?_, ?_⟩
  · rw [b.hns, postAll_app]
    simp
  · rw [b.old i (by omega) h1 h2 h3, a.old i hi h1 h2 h3]
  · rw [postAll_app, List.mem_append] at hy
    rcases hy with hy | hy
    · obtain ⟨q1, q2⟩ := a.inH y hy
      refine ⟨q1, ?_⟩
      have := (List.getElem?_eq_some_iff.mp q2).1
      rw [b.old y.f this (by omega) (by omega) (by omega), q2]
    · obtain ⟨q1, q2⟩ := b.inH y hy
      exact ⟨by omega, q2⟩
  · rw [ndAll_map, List.map_append, ← ndAll_map, ← ndAll_map, numsAll_app, List.append_assoc]
    exact (List.Perm.append_left _ b.nums).trans a.nums
  · rw [postAll_app, List.mem_append] at hy
    rcases hy with hy | hy
    · exact a.ok y hy
    · exact b.ok y hy
  · rw [postAll_app, List.map_append, List.nodup_append]
    refine ⟨a.fn, b.fn, fun i hi j hj e => ?_⟩
    obtain ⟨y, hy, rfl⟩ := List.mem_map.mp hi
    obtain ⟨z, hz, rfl⟩ := List.mem_map.mp hj
    have h1 := (List.getElem?_eq_some_iff.mp (a.inH y hy).2).1
    have h2 := (b.inH z hz).1
    omega
end Lw
end
section
namespace Lw
open Fw Pl
theorem lc_acc {step : D → Hh → R (Option D)} {I : List D → Hh → List D → Prop} (hs : ∀ x xs h acc, I (x :: xs) h acc → ∃ d h', step x h = .ok (some d) h' ∧ I xs h' (acc ++ [d])) :
    ∀ (xs acc : List D) (h : Hh), I xs h acc → acc.length + xs.length ≤ line → ∃ ds h', lcL step xs acc h = .ok ds h' ∧ I [] h' ds := by
  intro xs
  induction xs with
  | nil => intro acc h i _; exact ⟨acc, h, rfl, i⟩
  | cons x xs ih =>
    intro acc h i hl
    simp only [List.length_cons] at hl
    obtain ⟨d, h1, e, i1⟩ := hs x xs h acc i
    obtain ⟨ds, h2, e2, i2⟩ := ih (acc ++ [d]) h1 i1 (by simp only [List.length_append, List.length_cons, List.length_nil]; omega)
    refine ⟨ds, h2, ?_, i2⟩
    rw [lcL_cons, e, lcK_some, if_pos (by omega), e2]
theorem ixn_k {n i : Nat} (h : i < n) : ixn n (i : Int) = some i := by
  have h1 : ¬ (i : Int) < 0 := by omega
  simp [ixn, h1, h]
theorem appD_at {h : Hh} {n : Nat} {xs : List D} {d : D} (e : h[n]? = some (.lst xs)) (hl : xs.length < 16777216) : appD h (.ref n) d = some (.non, some (n, .lst (xs ++ [d]))) := by
  have l1 : line = 16777216 := Pl.line_eq
  simp [appD, e, l1, hl]
theorem map_eraseN (sp : List Nat) : ∀ j : Nat, (sp.map natD).eraseIdx j = (sp.eraseIdx j).map natD := by
  induction sp with
  | nil => intro j; rfl
  | cons a sp ih =>
    intro j
    cases j with
    | zero => rfl
    | succ j => simp [List.eraseIdx_cons_succ, ih j]
theorem post_nums : ∀ x : Gt, x.post.length = x.nd.nums.length := by
  intro x
  exact Gt.rec (motive_1 := fun x => x.post.length = x.nd.nums.length) (motive_2 := fun xs => (postAll xs).length = (numsAll (ndAll xs)).length)
    (fun k e f es => rfl) (fun k e f es ks ih => by simp [Gt.post, Gt.nd, Nd.nums, ih]) rfl (fun x xs h1 h2 => by simp [postAll, ndAll, numsAll, h1, h2]) x
theorem postAll_nums : ∀ xs : List Gt, (postAll xs).length = (numsAll (ndAll xs)).length
  | [] => rfl
  | x :: xs => by simp [postAll, ndAll, numsAll, post_nums x, postAll_nums xs]
def stg (s w : Nat) : D := .dct [(.inr [115, 112, 111, 116, 115], .ref s), (.inr [110, 111, 100, 101, 115], .ref w), (.inr [102, 97, 114], .int 9)]
theorem sg_spots (h : Hh) (s w : Nat) : index h (stg s w) (.str [115, 112, 111, 116, 115]) = some (.ref s) := by simp [stg, index_dw, look]
theorem sg_nodes (h : Hh) (s w : Nat) : index h (stg s w) (.str [110, 111, 100, 101, 115]) = some (.ref w) := by simp [stg, index_dw, look]
theorem sg_far (h : Hh) (s w : Nat) : index h (stg s w) (.str [102, 97, 114]) = some (.int 9) := by simp [stg, index_dw, look]
def sumN : TM := (eU sumD (eLc (eIx (eV 10) (eC (.str [108, 101, 97, 118, 101, 115]))) (.nm 10) .e (aCons (eV 6) aNil) bYes [10]))
def rowN : TM := (eTup (aCons (eC (.str [114, 111, 119])) (aCons (eU tupleD (eLc (eTup (aCons (eC (.str [116, 111])) (aCons (eIx (eV 10) (eC (.str [115, 112, 111, 116]))) (aCons (eIx (eV 10) (eC (.str [116, 117, 114, 110]))) aNil)))) (.nm 10) .e (aCons (eV 6) aNil) bYes [10])) aNil)))
def midN (c : Nat → List D → Hh → R D) : SM := (sIf (bAnd (bCmp .gt (eV 2) (eC (.int 0))) (bAnd (bCmp .gt (eU lenD (eV 3)) (eC (.int 12))) (bCmp .gt (eCall (fun ds h => c ix__law_take (ds ++ []) h) (aCons (eV 0) (aCons (eC (.int 5)) aNil))) (eC (.int 0))))) (sCons (sSet 6 (eLc (eCall (fun ds h => c ix__law_node (ds ++ []) h) (aCons (eV 0) (aCons (eV 1) (aCons (eBin .sub (eV 2) (eC (.int 1))) aNil)))) (.nm 8) .range (aCons (eCall (fun ds h => c ix__law_take (ds ++ []) h) (aCons (eV 0) (aCons (eC (.int 4)) aNil))) aNil) bYes [8]))
 (sCons (sSetI (eV 5) (eC (.str [107, 105, 100, 115])) rowN)
 (sCons (sSetI (eV 5) (eC (.str [99, 111, 117, 110, 116])) sumN)
 sNil))) sNil)
def tailN (c : Nat → List D → Hh → R D) : SM :=
 (sCons (sSet 7 (eIx (eLst (aCons (eC (.int 1)) (aCons sumN aNil))) (eU intV (eCmp .in_ (eC (.str [107, 105, 100, 115])) (eV 5)))))
 (sCons (sSet 8 (eBin .mul (eCall (fun ds h => c ix__law_take (ds ++ []) h) (aCons (eV 0) (aCons (eC (.int 2)) aNil))) (eU intV (eCmp .gt (eIx (eV 1) (eC (.str [102, 97, 114]))) (eC (.int 1))))))
 (sCons (sSet 9 (eDisp [((eC (.str [115, 112, 111, 116])), (eV 4)), ((eC (.str [116, 117, 114, 110])), (eV 8)), ((eC (.str [107, 105, 100, 115])), (eV 6)), ((eC (.str [102, 111, 117, 110, 100])), (eV 5)), ((eC (.str [108, 101, 97, 118, 101, 115])), (eV 7))]))
 (sCons (sEx (eM isLst appD (eIx (eV 1) (eC (.str [110, 111, 100, 101, 115]))) (eV 9)))
 (sCons (sRet (eV 9))
 sNil)))))
theorem node_eq (c : Nat → List D → Hh → R D) (F : Nat) : b__law_node c F = (sCons (sSet 3 (eIx (eV 1) (eC (.str [115, 112, 111, 116, 115]))))
 (sCons (sSet 4 (eM isLst popD (eV 3) (eCall (fun ds h => c ix__law_take (ds ++ []) h) (aCons (eV 0) (aCons (eU2 minD (eIx (eV 1) (eC (.str [102, 97, 114]))) (eU lenD (eV 3))) aNil)))))
 (sCons (sSet 5 (eCall (fun ds h => c ix__law_page_entries (ds ++ []) h) (aCons (eV 0) aNil)))
 (sCons (sSet 6 (eLst aNil))
 (sCons (midN c) (tailN c)))))) := rfl
theorem sg_self {σ : Sg} {i : Nat} {d : D} (h : i < σ.length) : sget (σ.set i (some d)) i = some d := by simp [sget, h]
theorem sum_ok {h : Hh} {ks : List Gt} (hk : ks.length ≤ 3) {σ : Sg} (h6 : sget σ 6 = some (.lst (datG ks))) (hl : σ.length = 11) : sumN σ h = .ok (.int (cntAll (ndAll ks) : Int)) h := by
  have l1 : line = 16777216 := Pl.line_eq
  simp [sumN, h6]
  generalize hR : lcL _ _ _ _ = rr
  rw [datG_map] at hR
  have e := lc_mapM (g := fun x : Gt => x.dat) (f := fun x => .int (x.nd.cnt : Int)) hR (fun x hx => by
    have q := sg_self (σ := σ) (i := 10) (d := x.dat) (by omega)
    simp [dat_leaves, hl, q]) (by simp; omega)
  subst e
  have : sumD h (.lst (ks.map fun x => D.int (x.nd.cnt : Int))) = some (.int (cntAll (ndAll ks) : Int)) := by
    simp only [sumD, asLst, Option.bind_some]
    rw [asInts_nat (fun x : Gt => (x.nd.cnt : Int)), Option.map_some]
    have := cnt_sum (ndAll ks)
    rw [ndAll_map, List.map_map] at this
    rw [ndAll_map, ← this]
    rfl
  simp [this]
theorem row_ok {h : Hh} {ks : List Gt} (hk : ks.length ≤ 3) {σ : Sg} (h6 : sget σ 6 = some (.lst (datG ks))) (hl : σ.length = 11) : rowN σ h = .ok (Vl.row (ks.map toG)).d h := by
  have l1 : line = 16777216 := Pl.line_eq
  simp [rowN, h6]
  generalize hR : lcL _ _ _ _ = rr
  rw [datG_map] at hR
  have e := lc_mapM (g := fun x : Gt => x.dat) (f := fun x => (toG x).d) hR (fun x hx => by
    have q := sg_self (σ := σ) (i := 10) (d := x.dat) (by omega)
    simp [dat_spot, dat_turn, hl, toG, Vl.d, wTo, q]) (by simp; omega)
  subst e
  simp [Vl.d, wRow, dAll_map, Function.comp_def]
end Lw
end
section
namespace Lw
open Fw Pl
def NodeSpec (F d : Nat) : Prop := ∀ (n : Nat) {h : Hh} {r s w : Nat} {o : O} {sp : List Nat} {ns : List D}, h[r]? = some o → RoomOk o → h[s]? = some (.lst (sp.map natD)) → h[w]? = some (.lst ns) → r ≠ s → r ≠ w → s ≠ w →
    sp ≠ [] → (∀ k ∈ sp, 2 ≤ k ∧ k < 40) → ns.length + sp.length ≤ 1000 →
    ∃ (x : Gt) (h' : Hh) (sp' : List Nat), Grew h h' r s w [x] sp sp' ns ∧ (sp.length ≤ sp'.length + 1 ∨ 12 ≤ sp'.length + 2 * d) ∧ run F (n + d + 3) ix__law_node [.ref r, stg s w, .int (d : Int)] h = .ok x.dat h'
theorem Grew.self {h : Hh} {r s w : Nat} {o : O} {sp : List Nat} {ns : List D} (hr : h[r]? = some o) (ho : RoomOk o) (hs : h[s]? = some (.lst (sp.map natD))) (hw : h[w]? = some (.lst ns)) : Grew h h r s w [] sp sp ns :=
  ⟨⟨o, hr, ho⟩, hs, by simpa [postAll] using hw, Nat.le_refl _, fun _ _ _ _ _ => rfl, fun y hy => by simp [postAll] at hy, by simp [ndAll, numsAll], fun y hy => by simp [postAll] at hy, by simp [postAll]⟩
theorem gt_of {h : Hh} {i : Nat} {o : O} (e : h[i]? = some o) : i < h.length := (List.getElem?_eq_some_iff.mp e).1
theorem kids_grow {F d n : Nat} (IH : NodeSpec F d) (hd : d ≤ 3) {h : Hh} {r s w : Nat} {o : O} {sp : List Nat} {ns : List D} (hr : h[r]? = some o) (ho : RoomOk o) (hs : h[s]? = some (.lst (sp.map natD))) (hw : h[w]? = some (.lst ns))
    (n1 : r ≠ s) (n2 : r ≠ w) (n3 : s ≠ w) (hsp : 13 ≤ sp.length) (hk : ∀ k ∈ sp, 2 ≤ k ∧ k < 40) (hl : ns.length + sp.length ≤ 1000) {step : D → Hh → R (Option D)}
    (hst : ∀ x hh, step x hh = lcS2 (run F (n + d + 3) ix__law_node [.ref r, stg s w, .int (d : Int)] hh)) {xs : List D} (hx : xs.length ≤ 3) {rr : R (List D)} (hR : lcL step xs [] h = rr) :
    ∃ (ks : List Gt) (h' : Hh) (sp' : List Nat), rr = .ok (datG ks) h' ∧ Grew h h' r s w ks sp sp' ns ∧ ks.length ≤ 3 ∧ 10 ≤ sp'.length + 2 * d := by
  have l1 : line = 16777216 := Pl.line_eq
  obtain ⟨ds, h', e, ks, sp', rfl, G, b1, b2⟩ := lc_acc (I := fun xs hh acc => ∃ (ks : List Gt) (sp' : List Nat), acc = ks.map Gt.dat ∧ Grew h hh r s w ks sp sp' ns ∧ ks.length + xs.length ≤ 3 ∧ 13 ≤ sp'.length + 2 * d + ks.length) (step := step) (by
    rintro x xs hh acc ⟨ks, sp1, rfl, G, b1, b2⟩
    simp only [List.length_cons] at b1
    obtain ⟨o1, q1, q2⟩ := G.ro
    have pl := G.nums.length_eq
    rw [List.length_append, ← postAll_nums] at pl
    obtain ⟨y, h2, sp2, G2, b3, e2⟩ := IH n q1 q2 G.hsp G.hns n1 n2 n3 (fun e => by rw [e, List.length_nil] at b2; omega) (fun k hk2 => hk k (G.nums.mem_iff.mp (List.mem_append_right _ hk2))) (by simp only [List.length_append, List.length_map]; omega)
    refine ⟨y.dat, h2, by rw [hst, e2]; rfl, ks ++ [y], sp2, by simp, G.trans (gt_of hr) (gt_of hs) (gt_of hw) G2, by simp only [List.length_append, List.length_cons, List.length_nil]; omega, ?_⟩
    simp only [List.length_append, List.length_cons, List.length_nil]
    omega) xs [] h ⟨[], sp, rfl, Grew.self hr ho hs hw, by simpa using hx, by simp; omega⟩ (by simp only [List.length_nil]; omega)
  simp only [List.length_nil] at b1
  exact ⟨ks, h', sp', by rw [← hR, e, datG_map], G, by omega, by omega⟩
theorem index_refdw {h : Hh} {kvs : List (K1 × D)} {n : Nat} {u : Tx} (e : h[n]? = some (.dct kvs)) : index h (.ref n) (.str u) = look (.inr u) kvs := by simp [e]
theorem setIx_w {h : Hh} {es : Es} {f : Nat} {u : Tx} {v : Vl} (e : h[f]? = some (.dct (kvE es))) (hl : es.length < 16777216) : setIx h (.ref f) (.str u) v.d = some (h.set f (.dct (kvE (putE u v es)))) := by
  have l1 : line = 16777216 := Pl.line_eq
  rw [setIx_dcts e, if_pos (by simpa [kvE, l1] using hl), put_kvE]
def midR (d : Nat) (sp sp' : List Nat) (es es' : Es) : Option (List Gt) → Prop
  | none => es' = es ∧ sp' = sp
  | some ks => es' = putE wCount (.int (cntAll (ndAll ks) : Int)) (putE wKids (.row (ks.map toG)) es) ∧ ks.length ≤ 3 ∧ 12 ≤ sp'.length + 2 * d
theorem mid_ok {F n d : Nat} (IH : ∀ d', d = d' + 1 → NodeSpec F d') (hd : d ≤ 4) {h : Hh} {r s w f : Nat} {o : O} {sp : List Nat} {ns : List D} {es : Es} {a : D} (hr : h[r]? = some o) (ho : RoomOk o) (hs : h[s]? = some (.lst (sp.map natD))) (hw : h[w]? = some (.lst ns)) (hf : h[f]? = some (.dct (kvE es)))
    (n1 : r ≠ s) (n2 : r ≠ w) (n3 : s ≠ w) (nf1 : f ≠ r) (nf2 : f ≠ s) (nf3 : f ≠ w) (hk : ∀ k ∈ sp, 2 ≤ k ∧ k < 40) (hl : ns.length + sp.length ≤ 1000) (he : es.length ≤ 3) :
    ∃ (kq : Option (List Gt)) (h' : Hh) (sp' : List Nat) (es' : Es), midN (run F (n + d + 2)) [some (.ref r), some (stg s w), some (.int (d : Int)), some (.ref s), some a, some (.ref f), some (.lst []), none, none, none, none] h
        = .nx [some (.ref r), some (stg s w), some (.int (d : Int)), some (.ref s), some a, some (.ref f), some (.lst (datG (kq.getD []))), none, none, none, none] (h'.set f (.dct (kvE es'))) ∧
      Grew h h' r s w (kq.getD []) sp sp' ns ∧ midR d sp sp' es es' kq := by
  have l1 : line = 16777216 := Pl.line_eq
  have lh := gt_of hf
  by_cases hd0 : d = 0
  · subst hd0
    refine ⟨none, h, sp, es, ?_, Grew.self hr ho hs hw, rfl, rfl⟩
    rw [set_same hf]
    simp [midN, datG]
  obtain ⟨d', rfl⟩ : ∃ d', d = d' + 1 := ⟨d - 1, by omega⟩
  by_cases h12 : (12 : Int) < (sp.length : Int)
  · obtain ⟨x, o1, ho1, x0, x1, e1⟩ := r_take F (n + (d' + 1) + 1) (h := h) (r := r) (m := 5) hr ho (by decide) (by decide)
    have hr1 : (h.set r o1)[r]? = some o1 := gS hr
    have ne : ∀ {i : Nat} {z y : O}, i ≠ r → h[i]? = some y → (h.set r z)[i]? = some y := fun {i z y} hi e => by
      rw [List.getElem?_set_ne (fun q => hi q.symm)]
      exact e
    have gr : ∀ z : O, RoomOk z → Grew h (h.set r z) r s w [] sp sp ns := fun z hz =>
      ⟨⟨z, gS hr, hz⟩, ne n1.symm hs, by simpa [postAll] using ne n2.symm hw, by simp, fun i _ q _ _ => by rw [List.getElem?_set_ne (fun q' => q q'.symm)], fun y hy => by simp [postAll] at hy, by simp [ndAll, numsAll], fun y hy => by simp [postAll] at hy, by simp [postAll]⟩
    have hd1 : (0 : Int) < (d' : Int) + 1 := by omega
    by_cases hx : 0 < x
    · obtain ⟨y, o2, ho2, y0, y1, e2⟩ := r_take F (n + (d' + 1) + 1) (h := h.set r o1) (r := r) (m := 4) hr1 ho1 (by decide) (by decide)
      rw [List.set_set] at e2
      have sub1 : ((d' : Int) + 1 - 1) = (d' : Int) := by omega
      simp [midN, hs, h12, e1, hx, e2, hd1]
      rw [if_pos (by omega)]
      simp [sub1]
      generalize hR : lcL _ _ _ _ = rr
      obtain ⟨ks, h3, sp3, rfl, G, k3, b3⟩ := kids_grow (IH d' rfl) (n := n) (by omega) (gS hr) ho2 (ne n1.symm hs) (ne n2.symm hw) n1 n2 n3 (by omega) hk hl (fun x hh => by simp [sub1, show n + (d' + 1) + 2 = n + d' + 3 by omega]) (by simp; omega) hR
      have G2 := (gr o2 ho2).trans (gt_of hr) (gt_of hs) (gt_of hw) (by simpa [postAll] using G)
      simp only [List.nil_append] at G2
      have hf3 : h3[f]? = some (.dct (kvE es)) := by rw [G2.old f lh nf1 nf2 nf3, hf]
      have f3 := gt_of hf3
      have s1 := setIx_w (u := [107, 105, 100, 115]) (v := .row (ks.map toG)) hf3 (by omega)
      have hf4 : (h3.set f (.dct (kvE (putE wKids (.row (ks.map toG)) es))))[f]? = some (.dct (kvE (putE wKids (.row (ks.map toG)) es))) := gS hf3
      have pl := putE_len (w := wKids) (v := .row (ks.map toG)) (es := es)
      have s2 := setIx_w (u := [99, 111, 117, 110, 116]) (v := .int (cntAll (ndAll ks) : Int)) hf4 (by omega)
      rw [List.set_set] at s2
      refine ⟨some ks, h3, sp3, putE wCount (.int (cntAll (ndAll ks) : Int)) (putE wKids (.row (ks.map toG)) es), ?_, G2, rfl, k3, by omega⟩
      have q1 := fun h => row_ok (h := h) k3 (σ := [some (.ref r), some (stg s w), some (.int ((d' : Int) + 1)), some (.ref s), some a, some (.ref f), some (.lst (datG ks)), none, none, none, none]) rfl rfl
      have q2 := fun h => sum_ok (h := h) k3 (σ := [some (.ref r), some (stg s w), some (.int ((d' : Int) + 1)), some (.ref s), some a, some (.ref f), some (.lst (datG ks)), none, none, none, none]) rfl rfl
      have s2' : setIx (h3.set f (.dct (kvE (putE wKids (.row (ks.map toG)) es)))) (.ref f) (.str [99, 111, 117, 110, 116]) (.int (cntAll (ndAll ks) : Int)) = _ := s2
      have s1' : setIx h3 (.ref f) (.str [107, 105, 100, 115]) (Vl.row (ks.map toG)).d = some (h3.set f (.dct (kvE (putE wKids (.row (ks.map toG)) es)))) := s1
      simp [q1, q2, s1', s2', wCount]
    · have hx0 : x = 0 := by omega
      subst hx0
      refine ⟨none, h.set r o1, sp, es, ?_, gr o1 ho1, rfl, rfl⟩
      rw [set_same (ne nf1 hf)]
      simp [midN, hs, h12, e1, hd1, datG]
  · refine ⟨none, h, sp, es, ?_, Grew.self hr ho hs hw, rfl, rfl⟩
    rw [set_same hf]
    simp [midN, hs, h12, datG]
end Lw
end
section
namespace Lw
open Fw Pl
theorem getE_app (w : Tx) (a b : Es) : getE w (a ++ b) = match getE w a with
    | some v => some v
    | none => getE w b := by
  induction a with
  | nil => simp [getE]
  | cons e a ih =>
    rw [List.cons_append, getE_cons, getE_cons]
    split
    · rfl
    · exact ih
theorem getE_none {w : Tx} {es : Es} : getE w es = none ↔ w ∉ es.map (·.1) := by
  constructor
  · intro h hm
    obtain ⟨v, e, _⟩ := getE_mem hm
    rw [h] at e
    cases e
  · intro h
    cases e : getE w es with
    | none => rfl
    | some v =>
      refine absurd ?_ h
      simp only [getE, Option.map_eq_some_iff] at e
      obtain ⟨q, e1, e2⟩ := e
      have h1 := List.mem_of_find?_eq_some e1
      have h2 := List.find?_some e1
      simp at h2
      exact List.mem_map.mpr ⟨q, h1, h2⟩
theorem getE_mapP (w u : Tx) (v : Vl) : ∀ es : Es, getE u (es.map fun e => if e.1 = w then (e.1, v) else e) = (getE u es).map fun x => if u = w then v else x
  | [] => rfl
  | e :: es => by
    have ih := getE_mapP w u v es
    rw [List.map_cons, getE_cons, getE_cons]
    by_cases h : e.1 = w
    · simp only [h, if_true]
      by_cases h2 : w = u
      · simp [h2]
      · simp only [h2, if_false]
        exact ih
    · simp only [h, if_false]
      by_cases h2 : e.1 = u
      · have : ¬ u = w := fun q => h (h2.trans q)
        simp [h2, this]
      · simp only [h2, if_false]
        exact ih
theorem getE_put (w u : Tx) (v : Vl) (es : Es) : getE u (putE w v es) = if u = w then some v else getE u es := by
  unfold putE
  split
  · rename_i hm
    rw [getE_mapP]
    split
    · rename_i e
      subst e
      obtain ⟨x, e1, _⟩ := getE_mem hm
      simp [e1]
    · simp
  · rename_i hm
    rw [getE_app]
    by_cases h : u = w
    · subst h
      rw [getE_none.mpr hm]
      simp [getE]
    · have : ¬ w = u := fun q => h q.symm
      cases getE u es <;> simp [getE, h, this]
theorem getE_sort (w : Tx) (es : Es) : getE w (sortE es) = getE w es := by
  cases h : getE w es with
  | none =>
    rw [getE_none] at h ⊢
    intro hm
    apply h
    simp only [sortE, List.map_map, List.mem_map] at hm
    obtain ⟨u, hu, rfl⟩ := hm
    exact sortT_mem.mp hu
  | some v =>
    have hw : w ∈ es.map (·.1) := by
      false_or_by_contra
      rename_i q
      rw [getE_none.mpr q] at h
      cases h
    have hw2 := sortT_mem.mpr hw
    have key : ∀ ts : List Tx, w ∈ ts → getE w (ts.map fun w => (w, (getE w es).getD .non)) = some v := by
      intro ts
      induction ts with
      | nil => intro h; cases h
      | cons t ts ih =>
        intro hm
        rw [List.map_cons, getE_cons]
        by_cases e : t = w
        · subst e
          simp [h]
        · rw [if_neg e]
          rcases List.mem_cons.mp hm with hm | hm
          · exact absurd hm.symm e
          · exact ih hm
    exact key _ hw2
theorem num1 {i : Int} (h0 : -2 < i) (h1 : i < 300) : (numT i).length ≤ 31 := num_len ⟨by omega, by omega⟩
theorem EvOk.cell {v : Vl} (h : EvOk v) : v.pl ∧ v.deep ≤ 2 ∧ v.tx.length ≤ 250 := by
  rcases h with ⟨i, rfl, h0, h1⟩ | rfl | rfl | rfl
  · refine ⟨⟨by omega, by omega⟩, by simp [Vl.deep], ?_⟩
    have := num1 (i := i) (by omega) (by omega)
    simp only [Vl.tx]
    omega
  · exact ⟨trivial, by decide, by decide⟩
  · exact ⟨⟨by decide, by decide, by simp [letter]⟩, by decide, by decide⟩
  · exact ⟨⟨by omega, by omega, by omega, by omega⟩, by decide, by decide +kernel⟩
theorem EnOk.row {es : Es} (h : EnOk es) (hl : es.length ≤ 3) : RowG es :=
  ⟨h.nd, by omega, fun e he => ⟨List.mem_cons_of_mem _ (h.mem e he).1, (h.mem e he).2.cell⟩⟩
theorem RowG.put {es : Es} (h : RowG es) {w : Tx} {v : Vl} (hl : (putE w v es).length ≤ 5) (hw : w ∈ wKids :: words6) (hv : v.pl ∧ v.deep ≤ 2 ∧ v.tx.length ≤ 250) : RowG (putE w v es) :=
  ⟨putE_nodup h.nd, hl, fun e he => by
    rcases putE_mem he with rfl | he
    · exact ⟨hw, hv⟩
    · exact h.cell e he⟩
theorem EnOk.noKids {es : Es} (h : EnOk es) : getE wKids es = none := by
  rw [getE_none]
  intro hm
  obtain ⟨e, he, q⟩ := List.mem_map.mp hm
  have := (h.mem e he).1
  rw [q] at this
  revert this
  decide
theorem Gt.ok_k {x : Gt} (h : x.ok) : (2 ≤ x.k ∧ x.k < 40) ∧ x.e ≤ 1 := by
  cases x with
  | leaf k e f es => exact ⟨h.1, h.2.1⟩
  | node k e f es ks => exact ⟨h.1, h.2.1⟩
theorem Gt.ok_row {x : Gt} (h : x.ok) : RowG x.es := by
  cases x with
  | leaf k e f es => exact h.2.2.1
  | node k e f es ks => exact h.2.2.1
theorem self_post (x : Gt) : x ∈ x.post := by cases x <;> simp [Gt.post]
theorem mem_postAll {xs : List Gt} {x : Gt} (h : x ∈ xs) : x ∈ postAll xs := by
  rw [postAll_map, List.mem_flatMap]
  exact ⟨x, h, self_post x⟩
theorem kidsV {ks : List Gt} (hk : ∀ y ∈ ks, y.ok) (hl : ks.length ≤ 3) : (Vl.row (ks.map toG)).pl ∧ (Vl.row (ks.map toG)).deep ≤ 2 ∧ (Vl.row (ks.map toG)).tx.length ≤ 250 := by
  refine ⟨⟨by simp; omega, plAll_iff.mpr fun v hv => ?_⟩, ?_, ?_⟩
  · obtain ⟨y, hy, rfl⟩ := List.mem_map.mp hv
    have := Gt.ok_k (hk y hy)
    exact ⟨by omega, by omega, by omega, by omega⟩
  · have : deepAll (ks.map toG) ≤ 1 := deepAll_le fun v hv => by
      obtain ⟨y, hy, rfl⟩ := List.mem_map.mp hv
      simp [toG, Vl.deep]
    simp only [Vl.deep]
    omega
  · have h1 : ∀ y ∈ ks, (toG y).tx.length ≤ 63 := fun y hy => by
      have := Gt.ok_k (hk y hy)
      have a := num1 (i := (y.k : Int)) (by omega) (by omega)
      have b := num1 (i := (y.e : Int)) (by omega) (by omega)
      simp only [toG, Vl.tx, List.length_append, List.length_cons]
      omega
    have h2 := joinT_len' [32] (txAll (ks.map toG))
    have h3 : ∀ ks : List Gt, (∀ y ∈ ks, (toG y).tx.length ≤ 63) → ((txAll (ks.map toG)).map List.length).sum ≤ 63 * ks.length := fun ks => by
      induction ks with
      | nil => intro _; simp [txAll]
      | cons y ys ih =>
        intro h
        have a := h y (by simp)
        have b := ih fun z hz => h z (by simp [hz])
        simp only [List.map_cons, txAll, List.sum_cons, List.length_cons]
        omega
    have h4 := h3 ks h1
    have h5 : (txAll (ks.map toG)).length = ks.length := by rw [txAll_map]; simp
    simp only [Vl.tx, List.length_cons, List.length_append, List.length_nil] at h2 ⊢
    rw [h5] at h2
    omega
end Lw
end
section
namespace Lw
open Fw Pl
def mkG (k e f : Nat) (es : Es) : Option (List Gt) → Gt
  | none => .leaf k e f es
  | some ks => .node k e f es ks
theorem mkG_dat (k e f : Nat) (es : Es) (kq : Option (List Gt)) : (mkG k e f es kq).dat = tdat k e f (datG (kq.getD [])) (match kq with
    | none => 1
    | some ks => cntAll (ndAll ks)) := by cases kq <;> rfl
theorem any_kvE (w : Tx) : ∀ es : Es, ((kvE es).any fun q => decide (q.1 = .inr w)) = (getE w es).isSome
  | [] => rfl
  | e :: es => by
    have ih := any_kvE w es
    rw [getE_cons]
    have e1 : kvE (e :: es) = (.inr e.1, e.2.d) :: kvE es := rfl
    rw [e1, List.any_cons, ih]
    by_cases h : e.1 = w <;> simp [h]
theorem mem_kids {h : Hh} {f : Nat} {es : Es} (e : h[f]? = some (.dct (kvE es))) : isMem h (.str [107, 105, 100, 115]) (.ref f) = some (getE [107, 105, 100, 115] es).isSome := by
  simp only [isMem, asDct_ref e]
  rw [← any_kvE]
  rfl
theorem tail_ok (F n : Nat) {h : Hh} {r s w f k d : Nat} {o : O} {es : Es} {kq : Option (List Gt)} {L : List D} (hr : h[r]? = some o) (ho : RoomOk o) (hw : h[w]? = some (.lst L)) (hf : h[f]? = some (.dct (kvE es))) (n2 : r ≠ w) (hL : L.length < 2000)
    (hk : (kq.getD []).length ≤ 3) (hq : (getE wKids es).isSome = kq.isSome) :
    ∃ (e : Nat) (o' : O), e ≤ 1 ∧ RoomOk o' ∧ tailN (run F (n + 1)) [some (.ref r), some (stg s w), some (.int (d : Int)), some (.ref s), some (.int (k : Int)), some (.ref f), some (.lst (datG (kq.getD []))), none, none, none, none] h
      = .rt (mkG k e f es kq).dat ((h.set r o').set w (.lst (L ++ [(mkG k e f es kq).dat]))) := by
  have l1 : line = 16777216 := Pl.line_eq
  obtain ⟨x, o1, ho1, x0, x1, e1⟩ := r_take F n (h := h) (r := r) (m := 2) hr ho (by decide) (by decide)
  obtain ⟨e, rfl⟩ : ∃ e : Nat, x = (e : Int) := ⟨x.toNat, by omega⟩
  have q2 := fun h => sum_ok (h := h) hk (σ := [some (.ref r), some (stg s w), some (.int (d : Int)), some (.ref s), some (.int (k : Int)), some (.ref f), some (.lst (datG (kq.getD []))), none, none, none, none]) rfl rfl
  have mk := mem_kids hf
  have hw1 : (h.set r o1)[w]? = some (.lst L) := by rw [List.getElem?_set_ne n2]; exact hw
  have hq' : (getE [107, 105, 100, 115] es).isSome = kq.isSome := hq
  rw [hq'] at mk
  refine ⟨e, o1, by omega, ho1, ?_⟩
  have ap : ∀ d, appD (h.set r o1) (.ref w) d = some (.non, some (w, .lst (L ++ [d]))) := fun d => appD_at hw1 (by omega)
  rw [mkG_dat]
  cases kq with
  | none =>
    simp only [Option.getD_none] at q2
    simp [tailN, q2, mk, e1, sg_far, sg_nodes, eDisp, dPairs, key1, mergeP, put, ap, hw1, ixn, tdat]
  | some ks =>
    simp only [Option.getD_some] at q2
    simp [tailN, q2, mk, e1, sg_far, sg_nodes, eDisp, dPairs, key1, mergeP, put, ap, hw1, ixn, tdat]
mutual
theorem cnt_le : ∀ x : Nd, x.cnt ≤ x.nums.length
  | .leaf k e es => by simp [Nd.cnt, Nd.nums]
  | .node k e es ks => by
    have := cntAll_le ks
    simp only [Nd.cnt, Nd.nums, List.length_cons]
    omega
theorem cntAll_le : ∀ xs : List Nd, cntAll xs ≤ (numsAll xs).length
  | [] => Nat.le_refl _
  | x :: xs => by
    have a := cnt_le x
    have b := cntAll_le xs
    simp only [cntAll, numsAll, List.length_append]
    omega
end
theorem erase_perm {α : Type} : ∀ {l : List α} {i : Nat} (h : i < l.length), (l[i] :: l.eraseIdx i).Perm l
  | [], i, h => absurd h (by simp)
  | a :: l, 0, h => List.Perm.refl _
  | a :: l, i + 1, h => by
    have ih := erase_perm (l := l) (i := i) (by simpa using h)
    rw [List.eraseIdx_cons_succ, List.getElem_cons_succ]
    exact (List.Perm.swap _ _ _).trans (List.Perm.cons a ih)
theorem grew_node {h H h' : Hh} {r s w k e d : Nat} {o5 : O} {sp sp1 sp' : List Nat} {ns : List D} {es es' : Es} {kq : Option (List Gt)} (hr : r < h.length) (hs : s < h.length) (hw : w < h.length) (n1 : r ≠ s) (n2 : r ≠ w) (n3 : s ≠ w)
    (hH : ∀ i, i < h.length → i ≠ r → i ≠ s → i ≠ w → H[i]? = h[i]?) (lH : H.length = h.length + 1) (ho : RoomOk o5) (hp : (k :: sp1).Perm sp) (hk : ∀ k ∈ sp, 2 ≤ k ∧ k < 40) (he : e ≤ 1) (hsl : sp.length ≤ 1000)
    (G : Grew H h' r s w (kq.getD []) sp1 sp' ns) (E : EnOk es) (el : es.length ≤ 3) (hm : midR d sp1 sp' es es' kq) :
    Grew h (((h'.set h.length (.dct (kvE es'))).set r o5).set w (.lst ((ns ++ (postAll (kq.getD [])).map Gt.dat) ++ [(mkG k e h.length es' kq).dat]))) r s w [mkG k e h.length es' kq] sp sp' ns ∧ (sp.length ≤ sp'.length + 1 ∨ 12 ≤ sp'.length + 2 * d) := by
  have lG := G.len
  have pk : postAll [mkG k e h.length es' kq] = postAll (kq.getD []) ++ [mkG k e h.length es' kq] := by cases kq <;> simp [postAll, mkG, Gt.post]
  have nk : numsAll (ndAll [mkG k e h.length es' kq]) = k :: numsAll (ndAll (kq.getD [])) := by cases kq <;> simp [ndAll, numsAll, mkG, Gt.nd, Nd.nums]
  have hf : (mkG k e h.length es' kq).f = h.length := by cases kq <;> rfl
  have hes : (mkG k e h.length es' kq).es = es' := by cases kq <;> rfl
  obtain ⟨q1, q2⟩ := hk k (hp.mem_iff.mp List.mem_cons_self)
  have gg : ∀ (i : Nat) {x : O}, i ≠ w → i ≠ r → i ≠ h.length → h'[i]? = some x → (((h'.set h.length (.dct (kvE es'))).set r o5).set w (.lst ((ns ++ (postAll (kq.getD [])).map Gt.dat) ++ [(mkG k e h.length es' kq).dat])))[i]? = some x := fun i x a b c e => by
    rw [List.getElem?_set_ne (fun q => a q.symm), List.getElem?_set_ne (fun q => b q.symm), List.getElem?_set_ne (fun q => c q.symm), e]
  have kok : ∀ y ∈ kq.getD [], y.ok := fun y hy => (G.ok y (mem_postAll hy)).1
  refine ⟨⟨⟨o5, ?_, ho⟩, gg s n3 n1.symm (by omega) G.hsp, ?_, by simp; omega, fun i hi a b c => ?_, fun y hy => ?_, ?_, fun y hy => ?_, ?_⟩, ?_⟩
  · rw [List.getElem?_set_ne (fun q => n2 q.symm)]
    exact List.getElem?_set_self (by simp; omega)
  · rw [pk]
    rw [List.getElem?_set_self (by simp; omega)]
    simp
  · rw [List.getElem?_set_ne (fun q => c q.symm), List.getElem?_set_ne (fun q => a q.symm), List.getElem?_set_ne (by omega), G.old i (by omega) a b c, hH i hi a b c]
  · rw [pk, List.mem_append, List.mem_singleton] at hy
    rcases hy with hy | rfl
    · obtain ⟨a, b⟩ := G.inH y hy
      exact ⟨by omega, gg y.f (by omega) (by omega) (by omega) b⟩
    · rw [hf, hes]
      refine ⟨Nat.le_refl _, ?_⟩
      rw [List.getElem?_set_ne (by omega), List.getElem?_set_ne (by omega)]
      exact List.getElem?_set_self (by omega)
  · rw [nk]
    exact (List.Perm.cons k G.nums).trans hp
  · rw [pk, List.mem_append, List.mem_singleton] at hy
    rcases hy with hy | rfl
    · exact G.ok y hy
    · cases kq with
      | none =>
        obtain ⟨rfl, _⟩ := hm
        exact ⟨⟨⟨q1, q2⟩, he, E.row el, E.noKids⟩, trivial⟩
      | some ks =>
        obtain ⟨rfl, k3, _⟩ := hm
        simp only [Option.getD_some] at kok
        have p1 := putE_len (w := wKids) (v := .row (ks.map toG)) (es := es)
        have p2 := putE_len (w := wCount) (v := .int (cntAll (ndAll ks) : Int)) (es := putE wKids (.row (ks.map toG)) es)
        have cl : cntAll (ndAll ks) ≤ 1000 := by
          have a := cntAll_le (ndAll ks)
          have b := G.nums.length_eq
          have c := hp.length_eq
          simp only [Option.getD_some, List.length_append, List.length_cons] at b c
          omega
        have R1 := (E.row el).put (w := wKids) (v := .row (ks.map toG)) (by omega) (by decide) (kidsV kok k3)
        have R2 := R1.put (w := wCount) (v := .int (cntAll (ndAll ks) : Int)) (by omega) (by decide) ⟨⟨by omega, by omega⟩, by simp [Vl.deep], by
          have := num_len (i := (cntAll (ndAll ks) : Int)) ⟨by omega, by omega⟩
          simp only [Vl.tx]
          omega⟩
        refine ⟨⟨⟨q1, q2⟩, he, R2, ?_, k3⟩, ?_⟩
        · rw [getE_put, if_neg (by decide), getE_put, if_pos rfl]
        · show getE wCount (putE wCount _ _) = _
          rw [getE_put, if_pos rfl]
  · rw [pk, List.map_append, List.nodup_append]
    refine ⟨G.fn, by simp, fun i hi j hj e => ?_⟩
    obtain ⟨y, hy, rfl⟩ := List.mem_map.mp hi
    simp only [List.map_cons, List.map_nil, List.mem_singleton] at hj
    have h1 := (G.inH y hy).1
    rw [hf] at hj
    omega
  · have pl := hp.length_eq
    simp only [List.length_cons] at pl
    cases kq with
    | none =>
      obtain ⟨_, rfl⟩ := hm
      exact .inl (by omega)
    | some ks => exact .inr hm.2.2
theorem node_step {F d : Nat} (hd : d ≤ 4) (IH : ∀ d', d = d' + 1 → NodeSpec F d') : NodeSpec F d := by
  intro n h r s w o sp ns hr ho hs hw n1 n2 n3 hne hk hl
  have l1 : line = 16777216 := Pl.line_eq
  have lr := gt_of hr
  have ls := gt_of hs
  have lw := gt_of hw
  have spos : 0 < sp.length := List.length_pos_iff.mpr hne
  rw [show n + d + 3 = n + d + 2 + 1 by omega, run__law_node]
  obtain ⟨x, o1, ho1, x0, x1, e1⟩ := r_take F (n + d + 1) (h := h) (r := r) (m := if (sp.length : Int) < 9 then (sp.length : Int) else 9) hr ho (by split <;> omega) (by split <;> omega)
  obtain ⟨j, rfl⟩ : ∃ j : Nat, x = (j : Int) := ⟨x.toNat, by omega⟩
  have hj : j < sp.length := by split at x1 <;> omega
  have hs1 : (h.set r o1)[s]? = some (.lst (sp.map natD)) := by rw [List.getElem?_set_ne n1]; exact hs
  have pp : popD (h.set r o1) (.ref s) (.int (j : Int)) = some (natD sp[j], some (s, .lst ((sp.eraseIdx j).map natD))) := by
    rw [popD_ref hs1, ixn_k (by simpa using hj)]
    simp [hj, map_eraseN]
  have hr2 : ((h.set r o1).set s (.lst ((sp.eraseIdx j).map natD)))[r]? = some o1 := by
    rw [List.getElem?_set_ne n1.symm]
    exact gS hr
  obtain ⟨es, o2, ho2, E, el, e2⟩ := r_entries F (n + d) hr2 ho1
  have hcm : ((h.set r o1).set s (.lst ((sp.eraseIdx j).map natD))).set r o2 = (h.set r o2).set s (.lst ((sp.eraseIdx j).map natD)) := by
    rw [List.set_comm _ _ n1.symm, List.set_set]
  rw [hcm] at e2
  simp only [List.length_set] at e2
  have sl : ((h.set r o2).set s (.lst ((sp.eraseIdx j).map natD))).length = h.length := by simp
  generalize hH : (h.set r o2).set s (.lst ((sp.eraseIdx j).map natD)) ++ [O.dct (kvE es)] = H at e2
  have gH : ∀ {i : Nat} {y : O}, ((h.set r o2).set s (.lst ((sp.eraseIdx j).map natD)))[i]? = some y → H[i]? = some y := fun e => by rw [← hH]; exact gA e
  have Hr : H[r]? = some o2 := gH (by rw [List.getElem?_set_ne n1.symm]; exact gS hr)
  have Hs : H[s]? = some (.lst ((sp.eraseIdx j).map natD)) := gH (List.getElem?_set_self (by simpa using ls))
  have Hw : H[w]? = some (.lst ns) := gH (by rw [List.getElem?_set_ne n3, List.getElem?_set_ne n2]; exact hw)
  have Hf : H[h.length]? = some (.dct (kvE es)) := by rw [← hH, ← sl]; simp
  have lH : H.length = h.length + 1 := by rw [← hH]; simp
  have hold : ∀ i, i < h.length → i ≠ r → i ≠ s → i ≠ w → H[i]? = h[i]? := fun i hi a b c => by
    rw [← hH, List.getElem?_append_left (by simpa using hi), List.getElem?_set_ne (fun q => b q.symm), List.getElem?_set_ne (fun q => a q.symm)]
  have hperm : (sp[j] :: sp.eraseIdx j).Perm sp := erase_perm hj
  have hk1 : ∀ k ∈ sp.eraseIdx j, 2 ≤ k ∧ k < 40 := fun k q => hk k (List.mem_of_mem_eraseIdx q)
  have el1 : (sp.eraseIdx j).length + 1 = sp.length := by
    have := hperm.length_eq
    simpa using this
  obtain ⟨kq, h', sp', es', em, G, hm⟩ := mid_ok IH (n := n) hd (a := .int (sp[j] : Int)) Hr ho2 Hs Hw Hf n1 n2 n3 (by omega) (by omega) (by omega) hk1 (by omega) el
  have G' := G
  obtain ⟨o3, g1, g2⟩ := G'.ro
  have lG := G'.len
  have k3 : (kq.getD []).length ≤ 3 := by
    cases kq with
    | none => simp
    | some ks => exact hm.2.1
  have hq : (getE wKids es').isSome = kq.isSome := by
    cases kq with
    | none => rw [hm.1, E.noKids]; rfl
    | some ks =>
      rw [hm.1, getE_put, if_neg (by decide), getE_put, if_pos rfl]
      rfl
  have pl := G'.nums.length_eq
  rw [List.length_append, ← postAll_nums] at pl
  obtain ⟨e, o5, he, ho5, et⟩ := tail_ok F (n + d + 1) (h := h'.set h.length (.dct (kvE es'))) (s := s) (f := h.length) (k := sp[j]) (d := d) (es := es') (kq := kq) (L := ns ++ (postAll (kq.getD [])).map Gt.dat) (by rw [List.getElem?_set_ne (by omega)]; exact g1) g2
    (by rw [List.getElem?_set_ne (by omega)]; exact G'.hns) (List.getElem?_set_self (by omega)) n2 (by simp only [List.length_append, List.length_map]; omega) k3 hq
  obtain ⟨R1, R2⟩ := grew_node lr ls lw n1 n2 n3 hold lH ho5 hperm hk he (by omega) G E el hm
  refine ⟨_, _, _, R1, R2, ?_⟩
  have e0 : ∀ hh, index hh (stg s w) (.str [102, 97, 114]) = some (.int 9) := fun hh => sg_far hh s w
  simp [full, node_eq, startD, sg_spots, sg_far, hs, e1, pp, e2, natD, em, et, SR.out, hs1]
theorem node_spec (F : Nat) : ∀ d, d ≤ 4 → NodeSpec F d := by
  intro d
  induction d with
  | zero => exact fun h => node_step h fun d' e => by omega
  | succ d ih =>
    exact fun h => node_step h fun d' e => by
      obtain rfl : d = d' := by omega
      exact ih (by omega)
end Lw
end
section
namespace Lw
open Fw Pl
structure Tree (h : Hh) (w : Nat) (x : Gt) : Prop where
  ns : h[w]? = some (.lst (x.post.map Gt.dat))
  inH : ∀ y ∈ x.post, h[y.f]? = some (.dct (kvE y.es))
  nd : x.nd.nums.Nodup
  len : x.nd.nums.length ≤ 38
  ok : ∀ y ∈ x.post, y.ok
  fn : (x.post.map Gt.f).Nodup
theorem range_nat : rangeD 2 38 = (List.range' 2 38).map natD := rfl
theorem r_grown (F n : Nat) {h : Hh} {r : Nat} {o : O} (hr : h[r]? = some o) (ho : RoomOk o) :
    ∃ (x : Gt) (h' : Hh) (o' : O), run F (n + 8) ix__law_grown [.ref r, .int 9] h = .ok (.lst [x.dat, .ref (h.length + 1)]) h' ∧ Tree h' (h.length + 1) x ∧ (∀ y ∈ x.post, y.cok) ∧ h'[r]? = some o' ∧ RoomOk o' ∧
      (∀ y ∈ x.post, h.length ≤ y.f ∧ y.f ≠ h.length + 1) ∧ h.length ≤ h'.length := by
  have l1 : line = 16777216 := Pl.line_eq
  have lr := gt_of hr
  rw [show n + 8 = n + 7 + 1 by omega, run__law_grown]
  have hr0 : (h ++ [O.lst ((List.range' 2 38).map natD), .lst []])[r]? = some o := gA hr
  obtain ⟨t, o1, ho1, t0, t1, e1⟩ := r_take F (n + 6) (h := h ++ [O.lst ((List.range' 2 38).map natD), .lst []]) (r := r) (m := 4) hr0 ho (by decide) (by decide)
  rw [sA hr] at e1
  obtain ⟨d, hd, e4⟩ := ix_in (ds := [.int 0, .int 1, .int 3, .int 4]) (n := 4) rfl t0 (by omega)
  obtain ⟨dp, rfl, hdp⟩ : ∃ dp : Nat, d = .int (dp : Int) ∧ dp ≤ 4 := by
    simp at hd
    rcases hd with rfl | rfl | rfl | rfl
    · exact ⟨0, rfl, by omega⟩
    · exact ⟨1, rfl, by omega⟩
    · exact ⟨3, rfl, by omega⟩
    · exact ⟨4, rfl, by omega⟩
  have g0 : (h.set r o1 ++ [O.lst ((List.range' 2 38).map natD), .lst []])[h.length]? = some (.lst ((List.range' 2 38).map natD)) := gN h _ _ r o1
  have g1 : (h.set r o1 ++ [O.lst ((List.range' 2 38).map natD), .lst []])[h.length + 1]? = some (.lst []) := by
    have := app_get1 (h.set r o1) [] (O.lst ((List.range' 2 38).map natD)) (O.lst [])
    simpa using this
  obtain ⟨x, h', sp', G, _, e2⟩ := node_spec F dp hdp (n + 7 - dp - 3) (h := h.set r o1 ++ [O.lst ((List.range' 2 38).map natD), .lst []]) (r := r) (s := h.length) (w := h.length + 1) (o := o1) (sp := List.range' 2 38) (ns := []) (gA (gS hr)) ho1 g0 g1 (by omega) (by omega) (by omega) (by decide) (by
    intro k hk
    rw [List.mem_range'] at hk
    obtain ⟨i, hi, rfl⟩ := hk
    omega) (by decide)
  rw [show n + 7 - dp - 3 + dp + 3 = n + 7 by omega] at e2
  obtain ⟨o2, q1, q2⟩ := G.ro
  have pa : postAll [x] = x.post := by simp [postAll]
  have na : numsAll (ndAll [x]) = x.nd.nums := by simp [numsAll, ndAll]
  have rg : ∀ hh : Hh, eNewRg (eC (.int 2)) (eC (.int 40)) [some (.ref r), some (.int 9), none, none] hh = .ok (.ref hh.length) (hh ++ [.lst ((List.range' 2 38).map natD)]) := fun hh => by
    rw [← range_nat]
    rfl
  have nn := G.nums
  rw [na] at nn
  have nd2 : (x.nd.nums ++ sp').Nodup := nn.nodup_iff.mpr (by decide)
  refine ⟨x, h', o2, ?_, ⟨?_, fun y hy => (G.inH y (by rw [pa]; exact hy)).2, (List.nodup_append.mp nd2).1, ?_, fun y hy => (G.ok y (by rw [pa]; exact hy)).1, by have := G.fn; rwa [pa] at this⟩, fun y hy => (G.ok y (by rw [pa]; exact hy)).2, q1, q2, fun y hy => ?_, ?_⟩
  · have sg : ∀ hh : Hh, index hh (.lst [.int 0, .int 1, .int 3, .int 4]) (.int t) = some (.int (dp : Int)) := fun hh => by simpa using e4
    have ap : ∀ hh : Hh, (h ++ [O.lst ((List.range' 2 38).map natD)]).length = h.length + 1 := fun hh => by simp
    have e2' : run F (n + 7) ix__law_node [.ref r, .dct [(.inr [115, 112, 111, 116, 115], .ref h.length), (.inr [110, 111, 100, 101, 115], .ref (h.length + 1)), (.inr [102, 97, 114], .int 9)], .int (dp : Int)] (h.set r o1 ++ [O.lst ((List.range' 2 38).map natD), .lst []]) = .ok x.dat h' := e2
    simp [full, b__law_grown, startD, eDisp, dPairs, key1, mergeP, put, rg, e1, sg, e2', index_dw, look, SR.out]
  · have := G.hns
    rw [pa] at this
    simpa using this
  · have := nn.length_eq
    simp at this
    omega
  · have := (G.inH y (by rw [pa]; exact hy)).1
    simp at this
    omega
  · have := G.len
    simp at this
    omega
def rowT (y : Gt) : T3v := (y.k, y.e, .table (sortE y.es))
def rootT (x : Gt) : T3v := (1, 0, .table [([112, 97, 103, 101, 115], .to (x.k : Int) (x.e : Int)), ([115, 105, 122, 101], .int 5)])
def bookG (x : Gt) : BookS := ⟨rootT x :: x.post.map rowT, [], .tup [.str [116, 111], .int 1, .int 0]⟩
theorem post_perm : ∀ x : Gt, (x.post.map Gt.k).Perm x.nd.nums := by
  intro x
  exact Gt.rec (motive_1 := fun x => (x.post.map Gt.k).Perm x.nd.nums) (motive_2 := fun xs => ((postAll xs).map Gt.k).Perm (numsAll (ndAll xs)))
    (fun k e f es => List.Perm.refl _) (fun k e f es ks ih => by
      simp only [Gt.post, Gt.nd, Nd.nums, List.map_append, List.map_cons, List.map_nil, Gt.k]
      exact (List.perm_append_comm).trans (List.Perm.cons k ih)) (List.Perm.refl _) (fun x xs h1 h2 => by
      simp only [postAll, ndAll, numsAll, List.map_append]
      exact h1.append h2) x
theorem kv3_keys (l : List T3v) (k : Nat) : (Sum.inl (k : Int) : K1) ∈ (l.map kv3).map (·.1) ↔ k ∈ l.map (·.1) := by
  simp only [List.map_map, List.mem_map, Function.comp_apply, kv3]
  constructor
  · rintro ⟨t, ht, e⟩
    exact ⟨t, ht, by simpa [Int.ofNat_inj] using e⟩
  · rintro ⟨t, ht, rfl⟩
    exact ⟨t, ht, rfl⟩
theorem book_keys {h : Hh} {w : Nat} {x : Gt} (T : Tree h w x) : ((bookG x).th.map (·.1)).Nodup := by
  have e : (bookG x).th.map (·.1) = 1 :: x.post.map Gt.k := by simp [bookG, rootT, rowT, Function.comp_def]
  rw [e, List.nodup_cons]
  refine ⟨fun hm => ?_, (post_perm x).nodup_iff.mpr T.nd⟩
  obtain ⟨y, hy, q⟩ := List.mem_map.mp hm
  have := (Gt.ok_k (T.ok y hy)).1
  omega
theorem r_things (F n : Nat) {h : Hh} {w : Nat} {x : Gt} (T : Tree h w x) (hF : 1000 < F) : run F (n + 2) ix__law_things [x.dat, .ref w] h = .ok (.ref h.length) (h ++ [.dct ((bookG x).th.map kv3)]) := by
  have l1 : line = 16777216 := Pl.line_eq
  rw [run__law_things]
  have pl : x.post.length ≤ 38 := by rw [post_nums]; exact T.len
  have hw : ∀ t, (h ++ t)[w]? = some (.lst (x.post.map Gt.dat)) := fun t => gA T.ns
  have kn := book_keys T
  simp [full, b__law_things, startD, eDispN, dPairs, key1, mergeP, put, dat_spot, dat_turn, hw, isOwnL]
  generalize hR : forLI _ _ _ _ _ _ _ = rr
  obtain ⟨σ, h', rfl, q⟩ := forI_invR hR (ys := x.post.map Gt.dat) (fun i σ hh => ∃ a, σ = [some x.dat, some (.ref w), some (.ref h.length), a] ∧ hh = h ++ [.dct ((rootT x :: (x.post.take i).map rowT).map kv3)]) (by
      rintro i σ hh ⟨a, rfl, rfl⟩
      exact hw _) (by
      rintro i y σ hh hy ⟨a, rfl, rfl⟩
      rw [List.getElem?_map, Option.map_eq_some_iff] at hy
      obtain ⟨z, hz, rfl⟩ := hy
      have zm : z ∈ x.post := List.mem_of_getElem? hz
      have li := (List.getElem?_eq_some_iff.mp hz).1
      have et := fun t => r_tableOf F n (h := h ++ t) (f := z.f) (es := z.es) (gA (T.inH z zm)) (Gt.ok_row (T.ok z zm)).nd (by have := (Gt.ok_row (T.ok z zm)).len; omega)
      have g0 := app_get0 h [] (O.dct ((rootT x :: (x.post.take i).map rowT).map kv3))
      have tk : x.post.take (i + 1) = x.post.take i ++ [z] := by rw [List.take_add_one, hz]; rfl
      have pf : Fw.put (.inl (z.k : Int)) (.tup [.int (z.e : Int), (Vl.table (sortE z.es)).d]) ((rootT x :: (x.post.take i).map rowT).map kv3) = (rootT x :: (x.post.take (i + 1)).map rowT).map kv3 := by
        rw [put_fresh]
        · rw [tk]
          simp [kv3, rowT]
        · rw [kv3_keys]
          intro hm
          have sub : (rootT x :: (x.post.take (i + 1)).map rowT).Sublist (bookG x).th := List.Sublist.cons_cons _ ((List.take_sublist _ _).map rowT)
          have nd := kn.sublist (sub.map (·.1))
          rw [tk, List.map_append, ← List.cons_append, List.map_append, List.nodup_append] at nd
          exact nd.2.2 _ hm z.k (by simp [rowT]) rfl
      have ll : ((rootT x :: (x.post.take i).map rowT).map kv3).length < line := by simp; omega
      have si : ∀ v, setIx (h ++ [O.dct ((rootT x :: (x.post.take i).map rowT).map kv3)]) (.ref h.length) (.int (z.k : Int)) v = some (h ++ [.dct (Fw.put (.inl (z.k : Int)) v ((rootT x :: (x.post.take i).map rowT).map kv3))]) := fun v => by
        rw [setIx_dcti g0, if_pos ll, app_set0]
      refine ⟨[some x.dat, some (.ref w), some (.ref h.length), some z.dat], _, ?_, some z.dat, rfl, rfl⟩
      simp only [itmI]
      simp [-List.map_cons, -List.map_take, -setIx_dcti, dat_turn, dat_spot, dat_found, et, si, pf]) ⟨none, rfl, by simp [kv3, rootT, Vl.d, dEnt, wTable, wTo]⟩ (by simp; omega)
  obtain ⟨a, rfl, rfl⟩ := q
  have tk : x.post.take (x.post.map Gt.dat).length = x.post := by simp
  rw [tk]
  simp [SR.out, bookG]
theorem r_bookI (F n : Nat) {h : Hh} {i : Nat} {ks : List (K1 × D)} {top : D} (hi : h[i]? = some (.dct ks)) (c3 : top.closed = true) (ct : closedK ks = true) :
    run F (n + 1) ix_Book_init [.ref i, top, .fn empT] h = .ok (.obj 0 [(0, .dct ks), (1, .dct []), (2, top)]) h := by
  have k1 : (O.dct ks).closed = true := by simpa [O.closed] using ct
  rw [run_Book_init]
  have hl : lent [.ref i, top, .fn empT] h = some ([.ref 0, top, .fn empT], [i], [.dct ks]) := by
    simp [lent, lend, lend_cl c3, lentO, hi, k1, D.closed]
  have e1 : ∀ hh : Hh, hh[0]? = some (.dct ks) → dictD hh (.ref 0) = some (.dct ks) := fun hh q => by simp [dictD, asDct, q]
  have e2 : ∀ hh : Hh, dictD hh (.fn empT) = some (.dct []) := fun hh => rfl
  simp [make, hl, b_Book_init, startD, e1, e2, setFld, putF]
  simp [mkBack, back, tell, frz, mapF, D.map_, mapK_closed, ct, map_closed _ c3, giveBack, frzO, set_same hi]
end Lw
end
section
namespace Lw
open Fw Pl
theorem len_subK {α : Type} [DecidableEq α] : ∀ {a b : List α}, a.Nodup → (∀ x ∈ a, x ∈ b) → a.length ≤ b.length
  | [], b, _, _ => Nat.zero_le _
  | x :: a, b, n, h => by
    have n' := List.nodup_cons.mp n
    have hx := h x List.mem_cons_self
    have ih := len_subK (b := b.erase x) n'.2 fun y hy => (List.mem_erase_of_ne (fun e : y = x => n'.1 (by rw [← e]; exact hy))).mpr (h y (List.mem_cons_of_mem _ hy))
    rw [List.length_erase_of_mem hx] at ih
    have : 0 < b.length := List.length_pos_of_mem hx
    simp only [List.length_cons]
    omega
structure AccG (es : Es) : Prop where
  nd : (es.map (·.1)).Nodup
  cell : ∀ e ∈ es, e.1 ∈ wKids :: words6 ∧ e.2.pl ∧ e.2.deep ≤ 2 ∧ e.2.tx.length ≤ 250
theorem AccG.len {es : Es} (h : AccG es) : es.length ≤ 7 := by
  have := len_subK (b := wKids :: words6) h.nd (fun w hw => by
    obtain ⟨e, he, rfl⟩ := List.mem_map.mp hw
    exact (h.cell e he).1)
  simpa [words6] using this
theorem AccG.put {es : Es} (h : AccG es) {e : Tx × Vl} (he : e.1 ∈ wKids :: words6 ∧ e.2.pl ∧ e.2.deep ≤ 2 ∧ e.2.tx.length ≤ 250) : AccG (putE e.1 e.2 es) :=
  ⟨putE_nodup h.nd, fun x hx => by
    rcases putE_mem hx with rfl | hx
    · exact he
    · exact h.cell x hx⟩
theorem AccG.merge {acc : Es} (h : AccG acc) : ∀ {es : Es}, (∀ e ∈ es, e.1 ∈ wKids :: words6 ∧ e.2.pl ∧ e.2.deep ≤ 2 ∧ e.2.tx.length ≤ 250) → AccG (mergeE acc es) := by
  intro es
  induction es generalizing acc with
  | nil => intro _; exact h
  | cons e es ih =>
    intro he
    exact ih (h.put (he e List.mem_cons_self)) fun x hx => he x (List.mem_cons_of_mem _ hx)
theorem mergeE_snoc (acc es : Es) (e : Tx × Vl) : mergeE acc (es ++ [e]) = putE e.1 e.2 (mergeE acc es) := by simp [mergeE]
mutual
def Gt.lv (acc : Es) : Gt → List D
  | .leaf k _ _ es => [.tup [.int (k : Int), .tup (dEnt (sortE (mergeE acc es)))]]
  | .node _ _ _ es ks => lvAll (mergeE acc (es.filter fun e => !ownW e.1)) ks
def lvAll (acc : Es) : List Gt → List D
  | [] => []
  | x :: xs => x.lv acc ++ lvAll acc xs
end
def fndL : TM := (eIx (eV 0) (eC (.str [102, 111, 117, 110, 100])))
def headL : SM := (sRodE (eIx (eV 0) (eC (.str [102, 111, 117, 110, 100]))) (sFor (.nm 4) .e (aKeysE (eIx (eV 0) (eC (.str [102, 111, 117, 110, 100])))) (sCons (sIf (bOr (bNot (bT (eV 3))) (bCmp .notin (eV 4) (eLst (aCons (eC (.str [107, 105, 100, 115])) (aCons (eC (.str [99, 111, 117, 110, 116])) aNil))))) (sCons (sSetI (eV 2) (eV 4) (eIx (eIx (eV 0) (eC (.str [102, 111, 117, 110, 100]))) (eV 4)))
 sNil) sNil)
 sNil)))
def bodyL (c : Nat → List D → Hh → R D) : D → Sg → Hh → SR := forB (.nm 6) (sCons (sSet 5 (eBin .add (eV 5) (eCall (fun ds h => c ix__law_leaves (ds ++ []) h) (aCons (eV 6) (aCons (eV 2) aNil)))))
 sNil)
def pageL : TM := (eLst (aCons (eTup (aCons (eIx (eV 0) (eC (.str [115, 112, 111, 116]))) (aCons (eU tupleD (eLc (eTup (aCons (eV 4) (aCons (eIx (eV 2) (eV 4)) aNil))) (.nm 4) .e (aCons (eU sortedK (eV 2)) aNil) bYes [4])) aNil))) aNil))
theorem leaves_eq (c : Nat → List D → Hh → R D) (F : Nat) : b__law_leaves c F = (sCons (sSet 2 (eNewDct (eV 1)))
 (sCons (sSet 3 (eCmp .in_ (eC (.str [107, 105, 100, 115])) fndL))
 (sCons headL
 (sCons (sIf (bNot (bT (eV 3))) (sCons (sRet pageL)
 sNil) sNil)
 (sCons (sSet 5 (eLst aNil))
 (sCons (fun σ h => SR.of σ (itM .e (aCons (eIx (eV 0) (eC (.str [107, 105, 100, 115]))) aNil) σ h) fun xs h => forL (bodyL c) xs σ h)
 (sCons (sRet (eV 5))
 sNil))))))) := rfl
theorem isMem_own2 (w : Tx) (h : Hh) : isMem h (.str w) (.lst [.str [107, 105, 100, 115], .str [99, 111, 117, 110, 116]]) = some (ownW w) := by
  rw [isMem_lst]
  simp only [sc_str, List.all_cons, List.all_nil, Bool.and_self, if_true, List.any_cons, List.any_nil, eqv_str', Bool.or_false, ownW, Option.some.injEq]
  rw [Bool.eq_iff_iff]
  simp only [Bool.or_eq_true, beq_iff_eq, decide_eq_true_eq]
  exact ⟨fun z => z.imp Eq.symm Eq.symm, fun z => z.imp Eq.symm Eq.symm⟩
theorem head_ok {H : Hh} {x : Gt} {es acc : Es} {p : Nat} {b : Bool} {ent : D} (hf : H[x.f]? = some (.dct (kvE es))) (hp : H[p]? = some (.dct (kvE acc))) (ne : p ≠ x.f) (hn : (es.map (·.1)).Nodup) (hl : acc.length + es.length ≤ 1000) :
    ∃ a, headL [some x.dat, some ent, some (.ref p), some (.bl b), none, none, none] H = .nx [some x.dat, some ent, some (.ref p), some (.bl b), a, none, none] (H.set p (.dct (kvE (mergeE acc (es.filter fun e => !b || !ownW e.1))))) := by
  have l1 : line = 16777216 := Pl.line_eq
  have lf := gt_of hf
  have lp := gt_of hp
  have fnd : ∀ σ hh, sget σ 0 = some x.dat → eIx (eV 0) (eC (.str [102, 111, 117, 110, 100])) σ hh = .ok (.ref x.f) hh := fun σ hh q => by simp [q, dat_found]
  have hro : roddedE (eIx (eV 0) (eC (.str [102, 111, 117, 110, 100]))) [some x.dat, some ent, some (.ref p), some (.bl b), none, none, none] H = some (x.f, H.set x.f (.rod (kvE es))) := by
    unfold roddedE
    rw [fnd _ _ (by simp)]
    simp only [hf]
  have hR0 : ∀ o : O, ((H.set x.f (.rod (kvE es))).set p o)[x.f]? = some (.rod (kvE es)) := fun o => by
    rw [List.getElem?_set_ne ne]
    exact gS hf
  have hP0 : ∀ o : O, ((H.set x.f (.rod (kvE es))).set p o)[p]? = some o := fun o => List.getElem?_set_self (by simpa using lp)
  have hsame : (H.set x.f (.rod (kvE es))).set p (.dct (kvE acc)) = H.set x.f (.rod (kvE es)) := set_same (by rw [List.getElem?_set_ne ne.symm]; exact hp)
  have hkeys : ∀ σ, sget σ 0 = some x.dat → aKeysE (eIx (eV 0) (eC (.str [102, 111, 117, 110, 100]))) σ (H.set x.f (.rod (kvE es))) = .ok [.lst (es.map fun e => .str e.1)] (H.set x.f (.rod (kvE es))) := fun σ q => by
    unfold aKeysE
    rw [fnd _ _ q]
    have := hR0 (.dct (kvE acc))
    rw [hsame] at this
    simp only [Fw.R.bind_ok, this]
    have k : (kvE es).map (fun q => keyD q.1) = es.map fun e => .str e.1 := by simp [kvE, keyD]
    rw [k]
  unfold headL sRodE
  rw [hro]
  dsimp only
  rw [kFor_eq, itM_eq, hkeys _ (by simp)]
  simp only [kIt_ok, walk_l, walk1_ok, kFor_ok]
  generalize hR : forL _ _ _ _ = rr
  obtain ⟨σ, h', rfl, a, d1, d2, rfl, e1, e2, rfl⟩ := for_invLR hR (fun xs σ hh => ∃ a d1 d2, σ = [some x.dat, some ent, some (.ref p), some (.bl b), a, none, none] ∧ es = d1 ++ d2 ∧ xs = d2.map (fun e => D.str e.1) ∧ hh = (H.set x.f (.rod (kvE es))).set p (.dct (kvE (mergeE acc (d1.filter fun e => !b || !ownW e.1))))) (by
    rintro y ys σ hh ⟨a, d1, d2, rfl, e1, e2, rfl⟩
    cases d2 with
    | nil => cases e2
    | cons e d2 =>
      rw [List.map_cons] at e2
      obtain ⟨rfl, rfl⟩ := List.cons.inj e2
      generalize hm : mergeE acc (d1.filter fun e => !b || !ownW e.1) = own
      have hown : own.length ≤ 1000 := by
        have a1 := mergeE_len (d1.filter fun e => !b || !ownW e.1) acc
        have a2 := List.length_filter_le (fun e : Tx × Vl => !b || !ownW e.1) d1
        rw [hm] at a1
        have a3 : es.length = d1.length + (d2.length + 1) := by rw [e1]; simp
        omega
      have ge : getE e.1 es = some e.2 := getE_self hn (by rw [e1]; simp)
      have hi : ∀ o : O, index ((H.set x.f (.rod (kvE es))).set p o) (.ref x.f) (.str e.1) = some e.2.d := fun o => by
        have : asDct ((H.set x.f (.rod (kvE es))).set p o) (.ref x.f) = some (kvE es) := by
          unfold asDct
          simp only [hR0]
        simp only [index, this, Option.bind_some, look_kvE, ge, Option.map_some]
      have si := setIx_w (u := e.1) (v := e.2) (hP0 (.dct (kvE own))) (by omega)
      rw [List.set_set] at si
      refine ⟨[some x.dat, some ent, some (.ref p), some (.bl b), some (.str e.1), none, none], _, ?_, some (.str e.1), d1 ++ [e], d2, rfl, by rw [e1]; simp, rfl, rfl⟩
      cases hb : (!b || !ownW e.1) with
      | true =>
        have fl : (d1 ++ [e]).filter (fun e => !b || !ownW e.1) = d1.filter (fun e => !b || !ownW e.1) ++ [e] := by simp [List.filter_cons, hb]
        rw [fl, mergeE_snoc, hm]
        cases b with
        | false => simp [dat_found, hi, si]
        | true =>
          simp at hb
          simp [-isMem_lst, isMem_own2, hb, dat_found, hi, si]
      | false =>
        have fl : (d1 ++ [e]).filter (fun e => !b || !ownW e.1) = d1.filter (fun e => !b || !ownW e.1) := by simp [List.filter_cons, hb]
        rw [fl, hm]
        have hb1 : b = true ∧ ownW e.1 = true := by simpa using hb
        obtain ⟨rfl, hb2⟩ := hb1
        simp [-isMem_lst, isMem_own2, hb2]) ⟨none, [], es, rfl, rfl, rfl, by simpa [mergeE] using hsame.symm⟩
  have d20 : d2 = [] := by
    cases d2 with
    | nil => rfl
    | cons e d => cases e2
  subst d20
  rw [List.append_nil] at e1
  subst e1
  rw [unrodS_nx (hR0 _)]
  refine ⟨a, ?_⟩
  congr 1
  rw [List.set_comm _ _ ne, List.set_set, set_same hf]
theorem page_ok {H : Hh} {x : Gt} {own : Es} {p : Nat} {b : Bool} {ent : D} {a : Option D} (hp : H[p]? = some (.dct (kvE own))) (hl : own.length < 64) :
    pageL [some x.dat, some ent, some (.ref p), some (.bl b), a, none, none] H = .ok (.lst [.tup [.int (x.k : Int), .tup (dEnt (sortE own))]]) H := by
  have l1 : line = 16777216 := Pl.line_eq
  have hs := sorted_kvE hp hl
  simp [pageL, dat_spot, hs]
  generalize hR : lcL _ _ _ _ = rr
  have e3 := lc_mapR hR (fun x => .tup [x, match x with | .str w => ((getE w own).getD .non).d | _ => .non]) (by
    intro x hx
    obtain ⟨w, hw, rfl⟩ := List.mem_map.mp hx
    obtain ⟨v, ev, _⟩ := getE_mem (sortT_mem.mp hw)
    simp [look_kvE, ev, index_refdw hp]) (by simp; omega)
  subst e3
  have e4 : (List.map (fun x => D.tup [x, match x with | .str w => ((getE w own).getD .non).d | _ => .non]) ((sortT (own.map (·.1))).map D.str)) = dEnt (sortE own) := by
    rw [dEnt_map, sortE, List.map_map, List.map_map]
    rfl
  simp only [List.nil_append, e4, noX_ok, kLcE_ok, kU_ok, tupleD_lst, opt_some]
  simp
def Ent (h : Hh) (ent : D) (acc : Es) : Prop := ent = .dct (kvE acc) ∨ ∃ i, ent = .ref i ∧ h[i]? = some (.dct (kvE acc))
theorem Ent.as {h : Hh} {ent : D} {acc : Es} (e : Ent h ent acc) : asDct h ent = some (kvE acc) := by
  rcases e with rfl | ⟨i, rfl, e⟩
  · rfl
  · simp [e]
mutual
theorem lv_len : ∀ (x : Gt) (acc : Es), (x.lv acc).length ≤ x.nd.nums.length
  | .leaf k e f es, acc => by simp [Gt.lv, Gt.nd, Nd.nums]
  | .node k e f es ks, acc => by
    have := lvAll_len ks (mergeE acc (es.filter fun e => !ownW e.1))
    simp only [Gt.lv, Gt.nd, Nd.nums, List.length_cons]
    omega
theorem lvAll_len : ∀ (xs : List Gt) (acc : Es), (lvAll acc xs).length ≤ (numsAll (ndAll xs)).length
  | [], acc => by simp [lvAll]
  | x :: xs, acc => by
    have a := lv_len x acc
    have b := lvAll_len xs acc
    simp only [lvAll, ndAll, numsAll, List.length_append]
    omega
end
theorem fnd_kids {h : Hh} {x : Gt} (hf : h[x.f]? = some (.dct (kvE x.es))) (σ : Sg) (hσ : sget σ 0 = some x.dat) : (eCmp .in_ (eC (.str [107, 105, 100, 115])) fndL) σ h = .ok (.bl (getE wKids x.es).isSome) h := by
  have := mem_kids hf
  simp [fndL, hσ, dat_found, this, wKids]
mutual
theorem r_leaves (F : Nat) : ∀ (x : Gt) (n m : Nat) (h : Hh) (ent : D) (acc : Es), (∀ y ∈ x.post, h[y.f]? = some (.dct (kvE y.es))) → (∀ y ∈ x.post, y.ok) → Ent h ent acc → AccG acc → x.nd.nums.length ≤ m → m ≤ 100 →
    ∃ t, run F (n + m) ix__law_leaves [x.dat, ent] h = .ok (.lst (x.lv acc)) (h ++ t)
  | .leaf k e f es, n, m, h, ent, acc, hh, ho, he, ha, hm, hm2 => by
    have l1 : line = 16777216 := Pl.line_eq
    simp only [Gt.nd, Nd.nums, List.length_singleton] at hm
    obtain ⟨m, rfl⟩ : ∃ q, m = q + 1 := ⟨m - 1, by omega⟩
    rw [show n + (m + 1) = n + m + 1 by omega, run__law_leaves]
    have hf := hh _ (self_post _)
    have ok := ho _ (self_post _)
    have hk : getE wKids es = none := ok.2.2.2
    have hn := ok.2.2.1.nd
    have hle := ok.2.2.1.len
    have hla := ha.len
    have hf1 : (h ++ [O.dct (kvE acc)])[f]? = some (.dct (kvE es)) := gA hf
    have hp1 : (h ++ [O.dct (kvE acc)])[h.length]? = some (.dct (kvE acc)) := by simp
    have q3 := fnd_kids (x := .leaf k e f es) (h := h ++ [O.dct (kvE acc)]) hf1 [some (Gt.leaf k e f es).dat, some ent, some (.ref h.length), none, none, none, none] (by simp)
    rw [show (Gt.leaf k e f es).es = es from rfl, hk] at q3
    obtain ⟨a, q4⟩ := head_ok (x := .leaf k e f es) (b := false) (ent := ent) (p := h.length) hf1 hp1 (by have := gt_of hf; simp only [Gt.f] at this ⊢; omega) hn (by omega)
    have fa : es.filter (fun e => !false || !ownW e.1) = es := List.filter_eq_self.mpr fun _ _ => rfl
    rw [fa, app_set0] at q4
    have hc := AccG.merge ha (es := es) ok.2.2.1.cell
    have q5 := page_ok (H := h ++ [O.dct (kvE (mergeE acc es))]) (x := .leaf k e f es) (own := mergeE acc es) (p := h.length) (b := false) (ent := ent) (a := a) (by simp) (by have := hc.len; omega)
    refine ⟨[.dct (kvE (mergeE acc es))], ?_⟩
    have nd : eNewDct (eV 1) [some (Gt.leaf k e f es).dat, some ent, none, none, none, none, none] h = .ok (.ref h.length) (h ++ [.dct (kvE acc)]) := by
      simp [eNewDct, he.as]
    simp only [Option.isSome_none] at q3
    simp only [full, leaves_eq, startD]
    simp [-kCmp_eq, nd, q3, q4, q5, SR.out, Gt.lv, Gt.k]
  | .node k e f es ks, n, m, h, ent, acc, hh, ho, he, ha, hm, hm2 => by
    have l1 : line = 16777216 := Pl.line_eq
    simp only [Gt.nd, Nd.nums, List.length_cons] at hm
    obtain ⟨m, rfl⟩ : ∃ q, m = q + 1 := ⟨m - 1, by omega⟩
    rw [show n + (m + 1) = n + m + 1 by omega, run__law_leaves]
    have hf := hh _ (self_post _)
    have ok := ho _ (self_post _)
    have hk : getE wKids es = _ := ok.2.2.2.1
    have hn := ok.2.2.1.nd
    have hle := ok.2.2.1.len
    have hla := ha.len
    have hf1 : (h ++ [O.dct (kvE acc)])[f]? = some (.dct (kvE es)) := gA hf
    have hp1 : (h ++ [O.dct (kvE acc)])[h.length]? = some (.dct (kvE acc)) := by simp
    have q3 := fnd_kids (x := .node k e f es ks) (h := h ++ [O.dct (kvE acc)]) hf1 [some (Gt.node k e f es ks).dat, some ent, some (.ref h.length), none, none, none, none] (by simp)
    rw [show (Gt.node k e f es ks).es = es from rfl, hk] at q3
    obtain ⟨a, q4⟩ := head_ok (x := .node k e f es ks) (b := true) (ent := ent) (p := h.length) hf1 hp1 (by have := gt_of hf; simp only [Gt.f] at this ⊢; omega) hn (by omega)
    have fa : es.filter (fun e => !true || !ownW e.1) = es.filter (fun e => !ownW e.1) := rfl
    rw [fa, app_set0] at q4
    have hc := AccG.merge ha (es := es.filter fun e => !ownW e.1) (fun z hz => ok.2.2.1.cell z (List.mem_filter.mp hz).1)
    have hsub : ∀ y ∈ postAll ks, y ∈ (Gt.node k e f es ks).post := fun y hy => List.mem_append_left _ hy
    obtain ⟨c, t, q6⟩ := leavesAll F ks n m (h ++ [O.dct (kvE (mergeE acc (es.filter fun e => !ownW e.1)))]) h.length _ (Gt.node k e f es ks).dat ent (.bl true) a none [] (fun y hy => gA (hh y (hsub y hy))) (fun y hy => ho y (hsub y hy)) (by simp) hc (by omega) (by omega) (by simp; omega)
    refine ⟨[.dct (kvE (mergeE acc (es.filter fun e => !ownW e.1)))] ++ t, ?_⟩
    have nd : eNewDct (eV 1) [some (Gt.node k e f es ks).dat, some ent, none, none, none, none, none] h = .ok (.ref h.length) (h ++ [.dct (kvE acc)]) := by
      simp [eNewDct, he.as]
    have kd : ∀ hh, index hh (Gt.node k e f es ks).dat (.str [107, 105, 100, 115]) = some (.lst (datG ks)) := fun hh => td_kids _ _ _ _ _
    simp only [Option.isSome_some] at q3
    simp only [full, leaves_eq, startD]
    simp [-kCmp_eq, nd, q3, q4, kd, q6, SR.out, SR.of, Gt.lv]
theorem leavesAll (F : Nat) : ∀ (xs : List Gt) (n m : Nat) (h : Hh) (p : Nat) (acc : Es) (d0 d1 d3 : D) (a4 a6 : Option D) (L : List D), (∀ y ∈ postAll xs, h[y.f]? = some (.dct (kvE y.es))) → (∀ y ∈ postAll xs, y.ok) → h[p]? = some (.dct (kvE acc)) → AccG acc →
    (numsAll (ndAll xs)).length ≤ m → m ≤ 100 → L.length + (numsAll (ndAll xs)).length ≤ 1000 →
    ∃ b6 t, forL (bodyL (run F (n + m))) (datG xs) [some d0, some d1, some (.ref p), some d3, a4, some (.lst L), a6] h = .nx [some d0, some d1, some (.ref p), some d3, a4, some (.lst (L ++ lvAll acc xs)), b6] (h ++ t)
  | [], n, m, h, p, acc, d0, d1, d3, a4, a6, L, hh, ho, hp, ha, hm, hm2, hL => ⟨a6, [], by simp [datG, lvAll]⟩
  | x :: xs, n, m, h, p, acc, d0, d1, d3, a4, a6, L, hh, ho, hp, ha, hm, hm2, hL => by
    have l1 : line = 16777216 := Pl.line_eq
    simp only [ndAll, numsAll, List.length_append] at hm hL
    have i1 : ∀ y ∈ x.post, y ∈ postAll (x :: xs) := fun y hy => List.mem_append_left _ hy
    have i2 : ∀ y ∈ postAll xs, y ∈ postAll (x :: xs) := fun y hy => List.mem_append_right _ hy
    obtain ⟨t, e1⟩ := r_leaves F x n m h (.ref p) acc (fun y hy => hh y (i1 y hy)) (fun y hy => ho y (i1 y hy)) (.inr ⟨p, rfl, hp⟩) ha (by omega) hm2
    have ll := lv_len x acc
    obtain ⟨b6, t2, e2⟩ := leavesAll F xs n m (h ++ t) p acc d0 d1 d3 a4 (some x.dat) (L ++ x.lv acc) (fun y hy => gA (hh y (i2 y hy))) (fun y hy => ho y (i2 y hy)) (gA hp) ha (by omega) hm2 (by simp only [List.length_append]; omega)
    refine ⟨b6, t ++ t2, ?_⟩
    have st : bodyL (run F (n + m)) x.dat [some d0, some d1, some (.ref p), some d3, a4, some (.lst L), a6] h = .nx [some d0, some d1, some (.ref p), some d3, a4, some (.lst (L ++ x.lv acc)), some x.dat] (h ++ t) := by
      have : L.length + (x.lv acc).length ≤ 16777216 := by omega
      simp [bodyL, e1, this]
    rw [datG, forL_cons, st, forK_nx, e2]
    simp [lvAll]
end
end Lw
end
section
namespace Lw
open Fw Pl
def SameE (a b : Es) : Prop := ∀ w, getE w a = getE w b
theorem same_keys {a b : Es} (h : SameE a b) (w : Tx) : w ∈ a.map (·.1) ↔ w ∈ b.map (·.1) := by
  have h1 := getE_none (w := w) (es := a)
  have h2 := getE_none (w := w) (es := b)
  rw [h w] at h1
  rw [← Classical.not_not (a := w ∈ a.map (·.1)), ← Classical.not_not (a := w ∈ b.map (·.1)), ← h1, ← h2]
theorem sortT_same {a b : List Tx} (na : a.Nodup) (nb : b.Nodup) (h : ∀ w, w ∈ a ↔ w ∈ b) : sortT a = sortT b := by
  have p : a.Perm b := (List.perm_ext_iff_of_nodup na nb).mpr h
  exact sortT_pw ((sortT_perm a).trans p) ((sortT_rises na).imp fun q => fun q2 => (List.lt_irrefl _ (List.lt_trans q q2)))
theorem sortE_same {a b : Es} (na : (a.map (·.1)).Nodup) (nb : (b.map (·.1)).Nodup) (h : SameE a b) : sortE a = sortE b := by
  unfold sortE
  rw [sortT_same na nb (same_keys h)]
  exact List.map_congr_left fun w _ => by rw [h w]
theorem getE_merge (w : Tx) : ∀ (es acc : Es), (es.map (·.1)).Nodup → getE w (mergeE acc es) = match getE w es with
    | some v => some v
    | none => getE w acc
  | [], acc, _ => rfl
  | e :: es, acc, hn => by
    rw [List.map_cons, List.nodup_cons] at hn
    have ih := getE_merge w es (putE e.1 e.2 acc) hn.2
    have e1 : mergeE acc (e :: es) = mergeE (putE e.1 e.2 acc) es := rfl
    rw [e1, ih, getE_cons, getE_put]
    by_cases h : e.1 = w
    · subst h
      rw [getE_none.mpr hn.1]
      simp
    · rw [if_neg h, if_neg fun q => h q.symm]
theorem getE_filter (w : Tx) (q : Tx → Bool) : ∀ es : Es, getE w (es.filter fun e => q e.1) = if q w then getE w es else none
  | [] => by simp [getE]
  | e :: es => by
    have ih := getE_filter w q es
    rw [List.filter_cons, getE_cons]
    by_cases h : e.1 = w
    · subst h
      cases hq : q e.1 with
      | true => simp [getE_cons]
      | false =>
        rw [hq] at ih
        simpa using ih
    · rw [if_neg h]
      cases hq : q e.1 with
      | true =>
        simp only [if_true]
        rw [getE_cons, if_neg h, ih]
      | false => simpa using ih
theorem same_merge {a b es fs : Es} (h : SameE a b) (hn : (es.map (·.1)).Nodup) (fn : (fs.map (·.1)).Nodup) (he : SameE es fs) : SameE (mergeE a es) (mergeE b fs) := fun w => by
  rw [getE_merge w es a hn, getE_merge w fs b fn, he w, h w]
theorem same_sort (es : Es) : SameE (sortE es) es := fun w => getE_sort w es
theorem same_own (es fs : Es) (h : SameE es fs) : SameE (es.filter fun e => !ownW e.1) (fs.filter fun e => !ownW e.1) := fun w => by
  rw [getE_filter w (fun w => !ownW w), getE_filter w (fun w => !ownW w), h w]
theorem sortE_nodup {es : Es} (h : (es.map (·.1)).Nodup) : ((sortE es).map (·.1)).Nodup := (sortE_rises h).imp fun q => fun e => List.lt_irrefl _ (e ▸ q)
theorem SameE.symm {a b : Es} (h : SameE a b) : SameE b a := fun w => (h w).symm
theorem SameE.trans {a b c : Es} (h : SameE a b) (h2 : SameE b c) : SameE a c := fun w => (h w).trans (h2 w)
theorem pageOf_lst (a e : D) (l : List D) : pageOf (.tup [a, .lst l, e]) = none := rfl
mutual
theorem lv_pages : ∀ (x : Gt) (a b : Es), SameE a b → (a.map (·.1)).Nodup → (b.map (·.1)).Nodup → (∀ y ∈ x.post, (y.es.map (·.1)).Nodup) → x.lv a = (x.nd.walk b).filterMap pageOf
  | .leaf k e f es, a, b, h, na, nb, hy => by
    have hn : (es.map (·.1)).Nodup := hy _ (self_post _)
    have e1 : sortE (mergeE a es) = withE b (sortE es) := sortE_same (mergeE_nodup es a na) (mergeE_nodup _ b nb) (same_merge h hn (sortE_nodup hn) (same_sort es).symm)
    simp [Gt.lv, Gt.nd, Nd.walk, pageOf, e1]
  | .node k e f es ks, a, b, h, na, nb, hy => by
    have hn : (es.map (·.1)).Nodup := hy _ (self_post _)
    have s1 := same_merge h (filter_nodup (p := fun e => !ownW e.1) hn) (filter_nodup (p := fun e => !ownW e.1) (sortE_nodup hn)) (same_own _ _ (same_sort es).symm)
    have s2 : SameE (mergeE a (es.filter fun e => !ownW e.1)) (handE b (sortE es)) := s1.trans (same_sort _).symm
    have ih := lvAll_pages ks _ _ s2 (mergeE_nodup _ a na) (handE_nodup nb) (fun y q => hy y (List.mem_append_left _ q))
    simp [Gt.lv, Gt.nd, Nd.walk, List.filterMap_cons, pageOf_lst, ih]
theorem lvAll_pages : ∀ (xs : List Gt) (a b : Es), SameE a b → (a.map (·.1)).Nodup → (b.map (·.1)).Nodup → (∀ y ∈ postAll xs, (y.es.map (·.1)).Nodup) → lvAll a xs = (walkAll b (ndAll xs)).filterMap pageOf
  | [], a, b, h, na, nb, hy => rfl
  | x :: xs, a, b, h, na, nb, hy => by
    have h1 := lv_pages x a b h na nb (fun y q => hy y (List.mem_append_left _ q))
    have h2 := lvAll_pages xs a b h na nb (fun y q => hy y (List.mem_append_right _ q))
    simp [lvAll, ndAll, walkAll, h1, h2]
end
theorem lv_pagesL {x : Gt} (hy : ∀ y ∈ x.post, y.ok) : x.lv [] = pagesL x.nd := lv_pages x [] [] (fun _ => rfl) (by simp) (by simp) fun y q => (Gt.ok_row (hy y q)).nd
end Lw
end
section
namespace Lw
open Fw Pl PySem
end Lw
end
section
namespace Lw
open Fw Pl PySem
theorem RF.items {ds : List D} {b j : Nat} (h : RF (.tup ds) b (j + 1)) : RFs ds b j := by
  obtain ⟨h1, h2, h3, h4⟩ := h
  refine ⟨by simpa [D.neat] using h1, by simpa [D.dat, PyData.leavesShort] using h2, ?_, ?_⟩
  · simp only [D.dat, PyData.depth] at h3
    omega
  · simp only [D.dat, PyData.bulk] at h4
    omega
theorem RF.lstX {ds : List D} {b k : Nat} (h : RFs ds b k) : RF (.lst ds) b (k + 1) := by
  refine ⟨?_, ?_, ?_, ?_⟩
  · simp only [D.neat, h.ne]
  · simp only [D.dat, PyData.leavesShort, h.lv]
  · have := h.dp
    simp only [D.dat, PyData.depth]
    omega
  · have := h.bu
    simp only [D.dat, PyData.bulk]
    omega
theorem RFs.head {d : D} {ds : List D} {b k : Nat} (h : RFs (d :: ds) b k) : ∃ x y, RF d x k ∧ RFs ds y k ∧ x + 1 + y ≤ b := by
  obtain ⟨h1, h2, h3, h4⟩ := h
  simp only [neatAll, Bool.and_eq_true] at h1
  simp only [datAll, PyData.leavesShortAll, Bool.and_eq_true] at h2
  simp only [datAll, PyData.depthAll] at h3
  simp only [datAll, PyData.bulkAll] at h4
  exact ⟨_, _, ⟨h1.1, h2.1, by omega, Nat.le_refl _⟩, ⟨h1.2, h2.2, by omega, Nat.le_refl _⟩, by omega⟩
theorem RFs.app {k : Nat} : ∀ {xs ys : List D} {a b : Nat}, RFs xs a k → RFs ys b k → RFs (xs ++ ys) (a + b) k
  | [], ys, a, b, h1, h2 => h2.up (by omega)
  | x :: xs, ys, a, b, h1, h2 => by
    obtain ⟨p, q, r1, r2, hl⟩ := h1.head
    exact (RFs.cons r1 (RFs.app r2 h2)).up (by omega)
theorem RFs.take {k : Nat} : ∀ {xs : List D} {a : Nat} (n : Nat), RFs xs a k → RFs (xs.take n) a k
  | [], a, n, h => by simpa using h
  | x :: xs, a, 0, h => RFs.nil.up (Nat.zero_le _)
  | x :: xs, a, n + 1, h => by
    obtain ⟨p, q, r1, r2, hl⟩ := h.head
    exact (RFs.cons r1 (RFs.take n r2)).up (by omega)
theorem RFs.drop {k : Nat} : ∀ {xs : List D} {a : Nat} (n : Nat), RFs xs a k → RFs (xs.drop n) a k
  | [], a, n, h => by simpa using h
  | x :: xs, a, 0, h => h
  | x :: xs, a, n + 1, h => by
    obtain ⟨p, q, r1, r2, hl⟩ := h.head
    exact (RFs.drop n r2).up (by omega)
theorem RFs.mem {k : Nat} : ∀ {xs : List D} {a : Nat} {x : D}, RFs xs a k → x ∈ xs → RF x a k
  | y :: ys, a, x, h, hx => by
    obtain ⟨p, q, r1, r2, hl⟩ := h.head
    rcases List.mem_cons.mp hx with rfl | hx
    · exact r1.up (by omega)
    · exact (RFs.mem r2 hx).up (by omega)
theorem RFs.rep {k : Nat} {xs : List D} {a : Nat} (h : RFs xs a k) : ∀ n, RFs (List.replicate n xs).flatten (n * a) k
  | 0 => by
    rw [Nat.zero_mul]
    exact RFs.nil
  | n + 1 => by
    rw [List.replicate_succ, List.flatten_cons]
    exact (RFs.app h (RFs.rep h n)).up (by rw [Nat.succ_mul]; omega)
theorem RFs.len {k : Nat} : ∀ {ds : List D} {b : Nat}, RFs ds b k → ds.length ≤ b
  | [], b, _ => Nat.zero_le _
  | d :: ds, b, h => by
    obtain ⟨x, y, r1, r2, hl⟩ := h.head
    have := RFs.len r2
    simp only [List.length_cons]
    omega
end Lw
end
section
namespace Lw
open Fw Pl
theorem word7 : ∀ w ∈ wKids :: words6, WordOk w ∧ w.length ≤ 5 ∧ ∀ c ∈ w, c < 1000 := by
  simp [wKids, words6, WordOk, letter]
theorem row_fine {es : Es} (h : RowG es) : FineV (.table (sortE es)) := by
  have hl : (sortE es).length ≤ 5 := by
    have := h.len
    simpa [sortE] using this
  have hc : ∀ e ∈ sortE es, e.1 ∈ wKids :: words6 ∧ e.2.pl ∧ e.2.deep ≤ 2 ∧ e.2.tx.length ≤ 250 := fun e he => h.cell e (sortE_mem he)
  refine ⟨⟨by omega, sortE_rises h.nd, plEnt_iff.mpr fun e he => ⟨(word7 _ (hc e he).1).1, (hc e he).2.1⟩⟩, ?_, ?_⟩
  · have : deepEnt (sortE es) ≤ 2 := by
      have key : ∀ l : Es, (∀ e ∈ l, e.2.deep ≤ 2) → deepEnt l ≤ 2 := fun l => by
        induction l with
        | nil => intro _; simp [deepEnt]
        | cons a l ih =>
          intro q
          have q1 := q a List.mem_cons_self
          have q2 := ih fun e he => q e (List.mem_cons_of_mem _ he)
          simp only [deepEnt]
          omega
      exact key _ fun e he => (hc e he).2.2.1
    simp only [Vl.deep]
    omega
  · have key : ∀ l : Es, (∀ e ∈ l, e.1 ∈ wKids :: words6 ∧ e.2.pl ∧ e.2.deep ≤ 2 ∧ e.2.tx.length ≤ 250) → ((txEnt l).map List.length).sum ≤ 256 * l.length ∧ (txEnt l).length = l.length := fun l => by
      induction l with
      | nil => intro _; simp [txEnt]
      | cons a l ih =>
        intro q
        have q1 := q a List.mem_cons_self
        have q0 := (word7 _ q1.1).2.1
        have q2 := ih fun e he => q e (List.mem_cons_of_mem _ he)
        simp only [txEnt, List.map_cons, List.sum_cons, List.length_cons, List.length_append]
        omega
    obtain ⟨k1, k2⟩ := key _ hc
    have j := joinT_len' [32] (txEnt (sortE es))
    simp only [Vl.tx, List.length_cons, List.length_append, List.length_nil] at j ⊢
    omega
theorem root_fine {x : Gt} (h : x.ok) : FineV (rootT x).2.2 := by
  have hk := Gt.ok_k h
  have a := num1 (i := (x.k : Int)) (by omega) (by omega)
  have b := num1 (i := (x.e : Int)) (by omega) (by omega)
  have c := num1 (i := 5) (by omega) (by omega)
  refine ⟨⟨by simp, (by decide : List.Pairwise (· < ·) [[112, 97, 103, 101, 115], [115, 105, 122, 101]]), ?_⟩, ?_, ?_⟩
  · refine ⟨by simp [WordOk, letter], ⟨by omega, by omega, by omega, by omega⟩, by simp [WordOk, letter], ⟨by omega, by omega⟩, trivial⟩
  · simp [rootT, Vl.deep, deepEnt]
  · simp only [rootT, Vl.tx, txEnt, joinT, List.length_append, List.length_cons, List.length_nil]
    omega
theorem book_good {h : Hh} {w : Nat} {x : Gt} (T : Tree h w x) : BookG 40 (bookG x) := by
  refine ⟨fun t ht => ?_, fun q hq => absurd hq (by simp [bookG]), book_keys T, by simp [bookG], ?_, by simp [bookG], .inr ⟨1, 0, rfl⟩⟩
  · rcases List.mem_cons.mp ht with rfl | ht
    · exact ⟨⟨by simp [rootT], by simp [rootT]⟩, by simp [rootT], root_fine (T.ok x (self_post x))⟩
    · obtain ⟨y, hy, rfl⟩ := List.mem_map.mp ht
      have ok := T.ok y hy
      have hk := Gt.ok_k ok
      exact ⟨⟨by simp only [rowT]; omega, by simp only [rowT]; omega⟩, by simp only [rowT]; omega, row_fine (Gt.ok_row ok)⟩
  · have := T.len
    rw [← post_nums] at this
    simp [bookG]
    omega
theorem row_ok2 {es : Es} {k e : Nat} {b : BookS} (hk : (2 ≤ k ∧ k < 40) ∧ e ≤ 1) (h : RowG es) (hm : (k, e, Vl.table (sortE es)) ∈ b.th) : rowOk b k e (sortE es) :=
  ⟨by omega, by omega, by omega, hm, sortE_nodup h.nd, by
    have := h.len
    simp only [sortE, List.length_map, sortT_len]
    omega⟩
mutual
theorem in_book {b : BookS} : ∀ x : Gt, (∀ y ∈ x.post, y.ok ∧ rowT y ∈ b.th) → x.nd.inB b
  | .leaf k e f es, h => by
    obtain ⟨ok, hm⟩ := h _ (self_post _)
    exact ⟨row_ok2 ⟨ok.1, ok.2.1⟩ ok.2.2.1 hm, (getE_sort _ es).trans ok.2.2.2⟩
  | .node k e f es ks, h => by
    obtain ⟨ok, hm⟩ := h _ (self_post _)
    have hk : ∀ y ∈ ks, y.ok := fun y hy => (h y (List.mem_append_left _ (mem_postAll hy))).1
    refine ⟨row_ok2 ⟨ok.1, ok.2.1⟩ ok.2.2.1 hm, ⟨?_, ?_, ?_⟩, in_bookAll ks fun y hy => h y (List.mem_append_left _ hy)⟩
    · have e1 : getE wKids (sortE es) = _ := (getE_sort _ es).trans ok.2.2.2.1
      refine e1.trans ?_
      rw [ndAll_map]
      congr 2
      rw [List.map_map, List.map_map]
      exact List.map_congr_left fun y hy => by simp [toG, toVl, nd_k, nd_e]
    · have := ok.2.2.2.2
      rw [ndAll_map]
      simp
      omega
    · intro q hq
      rw [ndAll_map, List.map_map] at hq
      obtain ⟨y, hy, rfl⟩ := List.mem_map.mp hq
      have := Gt.ok_k (hk y hy)
      simp only [Function.comp_apply, nd_k, nd_e]
      omega
theorem in_bookAll {b : BookS} : ∀ xs : List Gt, (∀ y ∈ postAll xs, y.ok ∧ rowT y ∈ b.th) → inBAll b (ndAll xs)
  | [], _ => trivial
  | x :: xs, h => ⟨in_book x fun y hy => h y (List.mem_append_left _ hy), in_bookAll xs fun y hy => h y (List.mem_append_right _ hy)⟩
end
theorem tree_book {h : Hh} {w : Nat} {x : Gt} (T : Tree h w x) : TreeB (bookG x) 1000 x.nd := by
  refine ⟨rfl, ⟨_, List.mem_cons_self, ?_⟩, in_book x fun y hy => ⟨T.ok y hy, List.mem_cons_of_mem _ (List.mem_map.mpr ⟨y, hy, rfl⟩)⟩, T.nd, by have := T.len; omega, Nat.le_refl _⟩
  simp [getE_cons, nd_k, nd_e]
end Lw
end
section
namespace Lw
open Fw Pl
theorem RFs.leaf {acc : Es} {k : Nat} (h : AccG acc) (hk : k < 40) : RF (.tup [.int (k : Int), .tup (dEnt (sortE acc))]) 7100 103 := by
  have hl : (sortE acc).length ≤ 7 := by
    have := h.len
    simpa [sortE] using this
  have r1 : RFs (dEnt (sortE acc)) (((sortE acc).map fun _ => 1007 + 1).sum) 101 := by
    rw [dEnt_map]
    refine RFs.all fun e he => ?_
    have hc := h.cell e (sortE_mem he)
    have hw := word7 _ hc.1
    have a := RF.str (k := 100) (b := 5) (s := e.1) hw.2.2 hw.2.1 (by decide)
    have b := RF.val (v := e.2) (pl_ok hc.2.1) (by have := nest_le e.2; have := hc.2.2.1; omega)
    have c := RFs.cons a (RFs.cons b RFs.nil)
    have d := RF.tup c
    exact d.up (by have := hc.2.2.2; omega)
  have r2 := RF.tup r1
  have hs : ((sortE acc).map fun _ => 1007 + 1).sum ≤ 7 * 1008 := by
    have key : ∀ l : Es, (l.map fun _ => 1007 + 1).sum = l.length * 1008 := fun l => by
      induction l with
      | nil => rfl
      | cons a l ih =>
        simp only [List.map_cons, List.sum_cons, List.length_cons]
        rw [ih]
        omega
    rw [key]
    omega
  have r3 := RFs.cons (RF.int (i := (k : Int)) (k := 102) (by omega) (by omega) (by decide)) (RFs.cons r2 RFs.nil)
  exact (RF.tup r3).up (by omega)
mutual
theorem lv_rf : ∀ (x : Gt) (acc : Es), AccG acc → (∀ y ∈ x.post, y.ok) → ∀ d ∈ x.lv acc, RF d 7100 103
  | .leaf k e f es, acc, ha, ho, d, hd => by
    rw [Gt.lv, List.mem_singleton] at hd
    subst hd
    have hk := (Gt.ok_k (ho _ (self_post _))).1
    exact RFs.leaf (ha.merge (Gt.ok_row (ho _ (self_post _))).cell) hk.2
  | .node k e f es ks, acc, ha, ho, d, hd => lvAll_rf ks _ (ha.merge fun z hz => (Gt.ok_row (ho _ (self_post (.node k e f es ks)))).cell z (List.mem_filter.mp hz).1) (fun y hy => ho y (List.mem_append_left _ hy)) d hd
theorem lvAll_rf : ∀ (xs : List Gt) (acc : Es), AccG acc → (∀ y ∈ postAll xs, y.ok) → ∀ d ∈ lvAll acc xs, RF d 7100 103
  | [], acc, ha, ho, d, hd => by cases hd
  | x :: xs, acc, ha, ho, d, hd => by
    rcases List.mem_append.mp hd with hd | hd
    · exact lv_rf x acc ha (fun y hy => ho y (List.mem_append_left _ hy)) d hd
    · exact lvAll_rf xs acc ha (fun y hy => ho y (List.mem_append_right _ hy)) d hd
end
theorem pages_rf {h : Hh} {w : Nat} {x : Gt} (T : Tree h w x) : RF (.lst (pagesL x.nd)) 300000 104 := by
  rw [← lv_pagesL T.ok]
  have a := lv_rf x [] ⟨by simp, fun e he => by cases he⟩ T.ok
  have b := RFs.all (f := fun d : D => d) (g := fun _ => 7100) (k := 103) (xs := x.lv []) a
  rw [List.map_id'] at b
  have l1 := lv_len x []
  have l2 := T.len
  have key : ∀ l : List D, (l.map fun _ => 7100 + 1).sum = l.length * 7101 := fun l => by
    induction l with
    | nil => rfl
    | cons a l ih =>
      simp only [List.map_cons, List.sum_cons, List.length_cons]
      rw [ih]
      omega
  rw [key] at b
  exact RF.lstX (b.up (b := 300000) (by omega))
theorem pages_repr {h hh : Hh} {w : Nat} {x : Gt} (T : Tree h w x) : reprV hh (.lst (pagesL x.nd)) = some (.str (reprT (.lst (pagesL x.nd)))) := (pages_rf T).repr (by decide) (by decide) (fun _ => by simp) hh
theorem pages_reprO {h hh : Hh} {w n : Nat} {x : Gt} (T : Tree h w x) (hn : hh[n]? = some (.lst (pagesL x.nd))) : reprV hh (.ref n) = some (.str (reprT (.lst (pagesL x.nd)))) := by
  have := pages_repr (hh := hh) T
  have e : ownV hh (.ref n) = ownV hh (.lst (pagesL x.nd)) := by simp [ownV, hn]
  unfold reprV at this ⊢
  rw [e]
  exact this
def worths (n : Int) : List Vl := [.int (n + 1), .int (n - 1), .non, .name [97], .str (numT n), .int n]
def rightV (n : Int) : Vl → Bool
  | .int i => decide (i = n)
  | _ => false
def bentV (n : Int) (v : Vl) : Bool := !decide (reprT v.d = reprT (.int n))
theorem bent_all : ∀ n : Nat, n < 39 → ((worths (n : Int)).all fun v => bentV (n : Int) v == !rightV (n : Int) v) = true := by
  decide +kernel
theorem bent_str : ∀ n : Nat, n < 39 → (numT (n : Int)).length ≤ 2 ∧ ((numT (n : Int)).all fun c => decide (32 ≤ c ∧ c ≤ 126)) = true := by
  decide +kernel
theorem bent_is {n : Nat} (hn : n < 39) {v : Vl} (hv : v ∈ worths (n : Int)) : bentV (n : Int) v = !rightV (n : Int) v := eq_of_beq (List.all_eq_true.mp (bent_all n hn) v hv)
theorem worth_cell {n : Nat} (hn : n < 39) {v : Vl} (hv : v ∈ worths (n : Int)) : v.pl ∧ v.deep ≤ 2 ∧ v.tx.length ≤ 250 := by
  obtain ⟨q1, q2⟩ := bent_str n hn
  simp only [worths, List.mem_cons, List.not_mem_nil, or_false] at hv
  have I : ∀ i : Int, -2 < i → i < 300 → (Vl.int i).pl ∧ (Vl.int i).deep ≤ 2 ∧ (Vl.int i).tx.length ≤ 250 := fun i h0 h1 => by
    refine ⟨⟨by omega, by omega⟩, by simp [Vl.deep], ?_⟩
    have := num1 (i := i) (by omega) (by omega)
    simp only [Vl.tx]
    omega
  rcases hv with rfl | rfl | rfl | rfl | rfl | rfl
  · exact I _ (by omega) (by omega)
  · exact I _ (by omega) (by omega)
  · exact ⟨trivial, by decide, by decide⟩
  · exact ⟨by simp [Vl.pl, WordOk, letter], by decide, by decide⟩
  · refine ⟨⟨by omega, fun c hc => ?_⟩, by simp [Vl.deep], ?_⟩
    · have := List.all_eq_true.mp q2 c hc
      simpa [signOk] using this
    · have := esc_len (numT (n : Int))
      simp only [Vl.tx, List.length_cons, List.length_append, List.length_nil]
      omega
  · exact I _ (by omega) (by omega)
theorem cell_repr {v : Vl} (h : v.pl ∧ v.deep ≤ 2 ∧ v.tx.length ≤ 250) (hh : Hh) : reprV hh v.d = some (.str (reprT v.d)) :=
  (RF.val (pl_ok h.1) (by have := nest_le v; omega)).repr (by decide) (by omega) (v_noref v) hh
end Lw
end
section
namespace Lw
open Fw Pl
mutual
def Gt.put (f : Nat) (es' : Es) : Gt → Gt
  | .leaf k e g es => .leaf k e g (if g = f then es' else es)
  | .node k e g es ks => .node k e g (if g = f then es' else es) (putAll f es' ks)
def putAll (f : Nat) (es' : Es) : List Gt → List Gt
  | [] => []
  | x :: xs => x.put f es' :: putAll f es' xs
end
section
variable {f : Nat} {es' : Es}
theorem putAll_map : ∀ xs : List Gt, putAll f es' xs = xs.map (Gt.put f es')
  | [] => rfl
  | x :: xs => by simp [putAll, putAll_map xs]
theorem put_k (x : Gt) : (x.put f es').k = x.k := by cases x <;> rfl
theorem put_e (x : Gt) : (x.put f es').e = x.e := by cases x <;> rfl
theorem put_f (x : Gt) : (x.put f es').f = x.f := by cases x <;> rfl
theorem put_es (x : Gt) : (x.put f es').es = if x.f = f then es' else x.es := by cases x <;> rfl
mutual
theorem put_cnt : ∀ x : Gt, (x.put f es').nd.cnt = x.nd.cnt
  | .leaf k e g es => rfl
  | .node k e g es ks => putAll_cnt ks
theorem putAll_cnt : ∀ xs : List Gt, cntAll (ndAll (putAll f es' xs)) = cntAll (ndAll xs)
  | [] => rfl
  | x :: xs => by simp [putAll, ndAll, cntAll, put_cnt x, putAll_cnt xs]
end
mutual
theorem put_dat : ∀ x : Gt, (x.put f es').dat = x.dat
  | .leaf k e g es => rfl
  | .node k e g es ks => by simp [Gt.put, Gt.dat, putAll_dat ks, putAll_cnt ks]
theorem putAll_dat : ∀ xs : List Gt, datG (putAll f es' xs) = datG xs
  | [] => rfl
  | x :: xs => by simp [putAll, datG, put_dat x, putAll_dat xs]
end
mutual
theorem put_nums : ∀ x : Gt, (x.put f es').nd.nums = x.nd.nums
  | .leaf k e g es => rfl
  | .node k e g es ks => by simp [Gt.put, Gt.nd, Nd.nums, putAll_nums ks]
theorem putAll_nums : ∀ xs : List Gt, numsAll (ndAll (putAll f es' xs)) = numsAll (ndAll xs)
  | [] => rfl
  | x :: xs => by simp [putAll, ndAll, numsAll, put_nums x, putAll_nums xs]
end
mutual
theorem put_post : ∀ x : Gt, (x.put f es').post = x.post.map (Gt.put f es')
  | .leaf k e g es => rfl
  | .node k e g es ks => by simp [Gt.put, Gt.post, putAll_post ks]
theorem putAll_post : ∀ xs : List Gt, postAll (putAll f es' xs) = (postAll xs).map (Gt.put f es')
  | [] => rfl
  | x :: xs => by simp [putAll, postAll, put_post x, putAll_post xs]
end
theorem put_toG (ks : List Gt) : (putAll f es' ks).map toG = ks.map toG := by
  rw [putAll_map, List.map_map]
  exact List.map_congr_left fun y _ => by simp [toG, put_k, put_e]
def PutOk (f : Nat) (es' : Es) (y : Gt) : Prop := y.f = f → RowG es' ∧ getE wKids es' = getE wKids y.es ∧ (getE wKids y.es).isSome ∧ SameE (es'.filter fun e => !ownW e.1) (y.es.filter fun e => !ownW e.1)
theorem put_ok {y : Gt} (h : y.ok) (q : PutOk f es' y) : (y.put f es').ok := by
  by_cases hf : y.f = f
  · obtain ⟨q1, q2, q3, q4⟩ := q hf
    cases y with
    | leaf k e g es =>
      have : getE wKids es = none := h.2.2.2
      rw [show (Gt.leaf k e g es).es = es from rfl, this] at q3
      cases q3
    | node k e g es ks =>
      have e1 : g = f := hf
      refine ⟨h.1, h.2.1, ?_, ?_, by rw [putAll_map, List.length_map]; exact h.2.2.2.2⟩
      · simpa [e1] using q1
      · have : getE wKids es = _ := h.2.2.2.1
        simp only [e1, if_true]
        rw [q2, put_toG]
        exact this
  · cases y with
    | leaf k e g es =>
      have e1 : ¬ g = f := hf
      refine ⟨h.1, h.2.1, ?_, ?_⟩
      · simpa [e1] using h.2.2.1
      · simpa [e1] using h.2.2.2
    | node k e g es ks =>
      have e1 : ¬ g = f := hf
      refine ⟨h.1, h.2.1, ?_, ?_, by rw [putAll_map, List.length_map]; exact h.2.2.2.2⟩
      · simpa [e1] using h.2.2.1
      · simp only [e1, if_false]
        rw [put_toG]
        exact h.2.2.2.1
mutual
theorem lv_put : ∀ (x : Gt) (a b : Es), SameE a b → (a.map (·.1)).Nodup → (b.map (·.1)).Nodup → (∀ y ∈ x.post, y.ok ∧ PutOk f es' y) → (x.put f es').lv a = x.lv b
  | .leaf k e g es, a, b, h, na, nb, hy => by
    obtain ⟨ok, q⟩ := hy _ (self_post _)
    have hk : getE wKids es = none := ok.2.2.2
    have e1 : ¬ g = f := fun q1 => by
      have := (q q1).2.2.1
      rw [show (Gt.leaf k e g es).es = es from rfl, hk] at this
      cases this
    have hn : (es.map (·.1)).Nodup := ok.2.2.1.nd
    have s : sortE (mergeE a es) = sortE (mergeE b es) := sortE_same (mergeE_nodup es a na) (mergeE_nodup es b nb) (same_merge h hn hn fun _ => rfl)
    simp [Gt.put, Gt.lv, e1, s]
  | .node k e g es ks, a, b, h, na, nb, hy => by
    obtain ⟨ok, q⟩ := hy _ (self_post _)
    have hn : (es.map (·.1)).Nodup := ok.2.2.1.nd
    have hr : RowG (if g = f then es' else es) := by
      split
      · rename_i e
        exact (q e).1
      · exact ok.2.2.1
    have s : SameE ((if g = f then es' else es).filter fun e => !ownW e.1) (es.filter fun e => !ownW e.1) := by
      split
      · rename_i e
        exact (q e).2.2.2
      · exact fun _ => rfl
    have ih := lvAll_put ks _ _ (same_merge h (filter_nodup (p := fun e => !ownW e.1) hr.nd) (filter_nodup (p := fun e => !ownW e.1) hn) s) (mergeE_nodup _ a na) (mergeE_nodup _ b nb) (fun y z => hy y (List.mem_append_left _ z))
    simpa [Gt.put, Gt.lv] using ih
theorem lvAll_put : ∀ (xs : List Gt) (a b : Es), SameE a b → (a.map (·.1)).Nodup → (b.map (·.1)).Nodup → (∀ y ∈ postAll xs, y.ok ∧ PutOk f es' y) → lvAll a (putAll f es' xs) = lvAll b xs
  | [], a, b, h, na, nb, hy => rfl
  | x :: xs, a, b, h, na, nb, hy => by
    have h1 := lv_put x a b h na nb (fun y q => hy y (List.mem_append_left _ q))
    have h2 := lvAll_put xs a b h na nb (fun y q => hy y (List.mem_append_right _ q))
    simp [putAll, lvAll, h1, h2]
end
end
def Gt.rightG : Gt → Bool
  | .leaf _ _ _ _ => true
  | .node _ _ _ es ks => rightC es (cntAll (ndAll ks))
theorem rightC_sort (es : Es) (n : Nat) : rightC (sortE es) n = rightC es n := by
  unfold rightC
  rw [getE_sort]
mutual
theorem good_all : ∀ x : Gt, x.nd.good = x.post.all Gt.rightG
  | .leaf k e f es => rfl
  | .node k e f es ks => by simp [Gt.nd, Nd.good, Gt.post, goodAll_all ks, rightC_sort, Gt.rightG]
theorem goodAll_all : ∀ xs : List Gt, goodAll (ndAll xs) = (postAll xs).all Gt.rightG
  | [] => rfl
  | x :: xs => by simp [ndAll, goodAll, postAll, good_all x, goodAll_all xs]
end
theorem cok_right {y : Gt} (h : y.cok) : y.rightG = true := by
  cases y with
  | leaf k e f es => rfl
  | node k e f es ks =>
    have h' : getE wCount es = some (.int (cntAll (ndAll ks) : Int)) := h
    have : getE [99, 111, 117, 110, 116] es = some (.int (cntAll (ndAll ks) : Int)) := h'
    simp [Gt.rightG, rightC, this]
theorem inj_of {x : Gt} (hn : (x.post.map Gt.f).Nodup) {y z : Gt} (hy : y ∈ x.post) (hz : z ∈ x.post) (e : y.f = z.f) : y = z := by
  have key : ∀ l : List Gt, (l.map Gt.f).Nodup → y ∈ l → z ∈ l → y = z := fun l => by
    induction l with
    | nil => intro _ h; cases h
    | cons a l ih =>
      intro hn h1 h2
      rw [List.map_cons, List.nodup_cons] at hn
      rcases List.mem_cons.mp h1 with p1 | p1 <;> rcases List.mem_cons.mp h2 with p2 | p2
      · rw [p1, p2]
      · exact absurd (List.mem_map.mpr ⟨z, p2, by rw [← e, p1]⟩) hn.1
      · exact absurd (List.mem_map.mpr ⟨y, p1, by rw [e, p2]⟩) hn.1
      · exact ih hn.2 p1 p2
  exact key _ hn hy hz
theorem tree_put {h h' : Hh} {w : Nat} {x y : Gt} {es' : Es} (T : Tree h w x) (hy : y ∈ x.post) (P : PutOk y.f es' y) (hw : h'[w]? = h[w]?) (hf : h'[y.f]? = some (.dct (kvE es'))) (ho : ∀ z ∈ x.post, z.f ≠ y.f → h'[z.f]? = h[z.f]?) :
    Tree h' w (x.put y.f es') ∧ (x.put y.f es').dat = x.dat ∧ pagesL (x.put y.f es').nd = pagesL x.nd := by
  have pk : ∀ z ∈ x.post, z.ok ∧ PutOk y.f es' z := fun z hz => ⟨T.ok z hz, fun e => by
    have := inj_of T.fn hz hy e
    subst this
    exact P e⟩
  have T' : Tree h' w (x.put y.f es') := by
    refine ⟨?_, fun z hz => ?_, by rw [put_nums]; exact T.nd, by rw [put_nums]; exact T.len, fun z hz => ?_, ?_⟩
    · rw [hw, T.ns, put_post, List.map_map]
      have : x.post.map (Gt.dat ∘ Gt.put y.f es') = x.post.map Gt.dat := List.map_congr_left fun z _ => put_dat z
      rw [this]
    · rw [put_post] at hz
      obtain ⟨z, hz2, rfl⟩ := List.mem_map.mp hz
      rw [put_f, put_es]
      by_cases e : z.f = y.f
      · rw [if_pos e, e]
        exact hf
      · rw [if_neg e, ho z hz2 e]
        exact T.inH z hz2
    · rw [put_post] at hz
      obtain ⟨z, hz2, rfl⟩ := List.mem_map.mp hz
      exact put_ok (pk z hz2).1 (pk z hz2).2
    · rw [put_post, List.map_map]
      have : (x.post.map (Gt.f ∘ Gt.put y.f es')) = x.post.map Gt.f := List.map_congr_left fun z _ => put_f z
      rw [this]
      exact T.fn
  refine ⟨T', put_dat x, ?_⟩
  rw [← lv_pagesL T.ok, ← lv_pagesL T'.ok]
  exact lv_put x [] [] (fun _ => rfl) (by simp) (by simp) pk
theorem good_put {x : Gt} {k e f : Nat} {es es' : Es} {ks : List Gt} (hn : (x.post.map Gt.f).Nodup) (hy : Gt.node k e f es ks ∈ x.post) (hc : ∀ z ∈ x.post, z.cok) : (x.put f es').nd.good = rightC es' (cntAll (ndAll ks)) := by
  rw [good_all, put_post, Bool.eq_iff_iff, List.all_eq_true]
  have self : ((Gt.node k e f es ks).put f es').rightG = rightC es' (cntAll (ndAll ks)) := by simp [Gt.put, Gt.rightG, putAll_cnt]
  constructor
  · intro q
    rw [← self]
    exact q _ (List.mem_map.mpr ⟨_, hy, rfl⟩)
  · intro q z hz
    obtain ⟨z, hz2, rfl⟩ := List.mem_map.mp hz
    by_cases hf : z.f = f
    · have := inj_of hn hz2 hy hf
      subst this
      rw [self]
      exact q
    · have := cok_right (hc z hz2)
      cases z with
      | leaf k e g es => rfl
      | node k e g es ks =>
        have hg : ¬ g = f := hf
        simpa [Gt.put, Gt.rightG, putAll_cnt, hg] using this
end Lw
end
section
namespace Lw
open Fw Pl
mutual
theorem post_le : ∀ (x y : Gt), y ∈ x.post → y.nd.nums.length ≤ x.nd.nums.length
  | .leaf k e f es, y, hy => by
    rw [Gt.post, List.mem_singleton] at hy
    subst hy
    exact Nat.le_refl _
  | .node k e f es ks, y, hy => by
    rcases List.mem_append.mp hy with hy | hy
    · have := postAll_le ks y hy
      simp only [Gt.nd, Nd.nums, List.length_cons]
      omega
    · rw [List.mem_singleton] at hy
      subst hy
      exact Nat.le_refl _
theorem postAll_le : ∀ (xs : List Gt) (y : Gt), y ∈ postAll xs → y.nd.nums.length ≤ (numsAll (ndAll xs)).length
  | [], y, hy => by cases hy
  | x :: xs, y, hy => by
    simp only [ndAll, numsAll, List.length_append]
    rcases List.mem_append.mp hy with hy | hy
    · have := post_le x y hy
      omega
    · have := postAll_le xs y hy
      omega
end
def isN (y : Gt) : Bool := (getE wKids y.es).isSome
theorem filter_dat : ∀ l : List Gt, l.filterMap (fun y => if isN y then some y.dat else none) = (l.filter isN).map Gt.dat
  | [] => rfl
  | y :: l => by
    have ih := filter_dat l
    cases h : isN y with
    | true => simp [List.filterMap_cons, List.filter_cons, h, ih]
    | false => simp [List.filterMap_cons, List.filter_cons, h, ih]
theorem drop_kvE (w : Tx) (es : Es) : drop1 (.inr w) (kvE es) = kvE (es.filter fun e => !decide (e.1 = w)) := by
  induction es with
  | nil => rfl
  | cons e es ih =>
    have e1 : kvE (e :: es) = (.inr e.1, e.2.d) :: kvE es := rfl
    unfold drop1 at ih ⊢
    rw [e1, List.filter_cons, List.filter_cons, ih]
    by_cases h : e.1 = w <;> simp [h, kvE]
theorem put_len_in {w : Tx} {v : Vl} {es : Es} (h : w ∈ es.map (·.1)) : (putE w v es).length = es.length := by
  have := putE_keys w v es
  rw [if_pos h] at this
  have := congrArg List.length this
  simpa using this
theorem in_of_get {w : Tx} {v : Vl} {es : Es} (h : getE w es = some v) : w ∈ es.map (·.1) := by
  false_or_by_contra
  rename_i q
  rw [getE_none.mpr q] at h
  cases h
theorem same_put {es : Es} {v : Vl} : SameE ((putE wCount v es).filter fun e => !ownW e.1) (es.filter fun e => !ownW e.1) := fun w => by
  rw [getE_filter w (fun w => !ownW w), getE_filter w (fun w => !ownW w), getE_put]
  by_cases h : w = wCount
  · subst h
    have : ownW wCount = true := by decide
    simp [this]
  · simp [h]
theorem same_drop {es : Es} : SameE ((es.filter fun e => !decide (e.1 = wCount)).filter fun e => !ownW e.1) (es.filter fun e => !ownW e.1) := fun w => by
  rw [getE_filter w (fun w => !ownW w), getE_filter w (fun w => !ownW w), getE_filter w (fun w => !decide (w = wCount))]
  by_cases h : w = wCount
  · subst h
    have : ownW wCount = true := by decide
    simp [this]
  · simp [h]
theorem bent_put {es : Es} {y : Gt} {v : Vl} {c : Int} (hr : RowG es) (hy : y.es = es) (hk : (getE wKids es).isSome) (hc : getE wCount es = some (.int c)) (hv : v.pl ∧ v.deep ≤ 2 ∧ v.tx.length ≤ 250) : RowG (putE wCount v es) ∧ PutOk y.f (putE wCount v es) y := by
  have R : RowG (putE wCount v es) := hr.put (by rw [put_len_in (in_of_get hc)]; exact hr.len) (by decide) hv
  exact ⟨R, fun _ => ⟨R, by rw [getE_put, if_neg (by decide), hy], by rw [hy]; exact hk, by rw [hy]; exact same_put⟩⟩
theorem bent_drop {es : Es} {y : Gt} {v : Vl} (hr : RowG (putE wCount v es)) (hy : y.es = es) (hk : (getE wKids es).isSome) : PutOk y.f ((putE wCount v es).filter fun e => !decide (e.1 = wCount)) y := fun _ =>
  ⟨⟨hr.nd.sublist (List.Sublist.map _ List.filter_sublist), Nat.le_trans (List.length_filter_le _ _) hr.len, fun e he => hr.cell e (List.mem_filter.mp he).1⟩, by
    rw [getE_filter wKids (fun w => !decide (w = wCount)), if_pos (by decide), getE_put, if_neg (by decide), hy], by rw [hy]; exact hk, by
    rw [hy]
    exact same_drop.trans same_put⟩
theorem rightC_put (v : Vl) (es : Es) (n : Nat) : rightC (putE wCount v es) n = rightV (n : Int) v := by
  have : getE [99, 111, 117, 110, 116] (putE wCount v es) = some v := by
    show getE wCount _ = _
    rw [getE_put, if_pos rfl]
  unfold rightC
  rw [this]
  cases v <;> rfl
theorem rightC_drop (es : Es) (n : Nat) : rightC (es.filter fun e => !decide (e.1 = wCount)) n = false := by
  have : getE [99, 111, 117, 110, 116] (es.filter fun e => !decide (e.1 = wCount)) = none := by
    show getE wCount _ = _
    rw [getE_filter wCount (fun w => !decide (w = wCount))]
    simp
  unfold rightC
  rw [this]
theorem r_bent (F n : Nat) {h : Hh} {r w : Nat} {o : O} {x : Gt} (hr : h[r]? = some o) (ho : RoomOk o) (T : Tree h w x) (hc : ∀ y ∈ x.post, y.cok) (nw : r ≠ w) (nf : ∀ y ∈ x.post, y.f ≠ r ∧ y.f ≠ w) (hF : 1000 < F) :
    ∃ (x' : Gt) (h' : Hh) (b : Bool), run F (n + 2) ix__law_bent_counts [.ref r, .ref w] h = .ok (.bl b) h' ∧ Tree h' w x' ∧ x'.dat = x.dat ∧ pagesL x'.nd = pagesL x.nd ∧ x'.nd.good = !b := by
  have l1 : line = 16777216 := Pl.line_eq
  have pl : x.post.length ≤ 38 := by rw [post_nums]; exact T.len
  rw [run__law_bent_counts]
  generalize hX : full 2 6 _ _ _ = X
  simp [full, b__law_bent_counts, startD, isOwn_of T.ns] at hX
  generalize hR : lcLI _ _ _ _ _ _ _ = rr at hX
  have e0 := lcI_filterM (g := Gt.dat) (f := fun y => if isN y then some y.dat else none) hR T.ns (xs := x.post) rfl (fun y hy => by
    have hm := mem_kids (T.inH y hy)
    have hq : (getE [107, 105, 100, 115] y.es).isSome = isN y := rfl
    rw [hq] at hm
    cases hb : isN y with
    | true =>
      rw [hb] at hm
      simp [dat_found, hm]
    | false =>
      rw [hb] at hm
      simp [dat_found, hm]) (by simp; omega) (by omega)
  subst e0
  rw [filter_dat] at hX
  generalize hN : x.post.filter isN = N at hX
  have memN : ∀ y ∈ N, y ∈ x.post ∧ isN y = true := fun y hy => by
    rw [← hN] at hy
    exact List.mem_filter.mp hy
  have lenN : N.length ≤ 38 := by
    rw [← hN]
    exact Nat.le_trans (List.length_filter_le _ _) pl
  cases hNe : N with
  | nil =>
    refine ⟨x, h, false, ?_, T, rfl, rfl, ?_⟩
    · rw [← hX, hNe]
      simp [SR.out]
    · rw [good_all]
      simp only [Bool.not_false]
      exact List.all_eq_true.mpr fun y hy => cok_right (hc y hy)
  | cons y1 N1 =>
    have ne0 : (N.map Gt.dat).isEmpty = false := by rw [hNe]; rfl
    have posN : 0 < N.length := by rw [hNe]; simp
    obtain ⟨j, o1, ho1, j0, j1, e1⟩ := r_take F n (h := h) (r := r) (m := (N.length : Int)) hr ho (by omega) (by omega)
    obtain ⟨d, hd, e2⟩ := ix_in (ds := N.map Gt.dat) (n := N.length) (by simp) j0 j1
    obtain ⟨y, hyN, rfl⟩ := List.mem_map.mp hd
    obtain ⟨hy, hyn⟩ := memN y hyN
    have hok := T.ok y hy
    have hco := hc y hy
    have hin := T.inH y hy
    have hnf := nf y hy
    have hle := post_le x y hy
    have htl := T.len
    cases y with
    | leaf k e f es =>
      have : getE wKids es = none := hok.2.2.2
      unfold isN at hyn
      rw [show (Gt.leaf k e f es).es = es from rfl, this] at hyn
      cases hyn
    | node k e f es ks =>
      have hco' : getE wCount es = some (.int (cntAll (ndAll ks) : Int)) := hco
      have hfd : ∀ hh, index hh (Gt.node k e f es ks).dat (.str [102, 111, 117, 110, 100]) = some (.ref f) := fun hh => dat_found _ hh
      have hin' : h[f]? = some (.dct (kvE es)) := hin
      have nfr : f ≠ r := hnf.1
      have nfw : f ≠ w := hnf.2
      generalize hcc : cntAll (ndAll ks) = c at hco'
      have c38 : c < 39 := by
        have a := cntAll_le (ndAll ks)
        simp only [Gt.nd, Nd.nums, List.length_cons] at hle
        omega
      have hr1 : (h.set r o1)[r]? = some o1 := gS hr
      have hf1 : ∀ o, (h.set r o)[f]? = some (.dct (kvE es)) := fun o => by
        rw [List.getElem?_set_ne (fun q => nfr q.symm)]
        exact hin'
      have i2 : ∀ o, index (h.set r o) (.ref f) (.str [99, 111, 117, 110, 116]) = some (.int (c : Int)) := fun o => by
        rw [index_refdw (hf1 o), look_kvE, show ([99, 111, 117, 110, 116] : Tx) = wCount from rfl, hco']
        rfl
      obtain ⟨t, o2, ho2, t0, t1, e3⟩ := r_take F n (h := h.set r o1) (r := r) (m := 6) hr1 ho1 (by decide) (by decide)
      rw [List.set_set] at e3
      obtain ⟨d2, hd2, e4⟩ := ix_in (ds := (worths (c : Int)).map Vl.d) (n := 6) rfl t0 (by omega)
      obtain ⟨v, hv, rfl⟩ := List.mem_map.mp hd2
      have vc := worth_cell c38 hv
      have bi := bent_is c38 hv
      have i1 : ∀ hh, index hh (.lst (N.map Gt.dat)) (.int j) = some (Gt.node k e f es ks).dat := fun hh => by simpa using e2
      have i4 : ∀ hh, index hh (.lst [.int ((c : Int) + 1), .int ((c : Int) - 1), .non, .tup [.str [110, 97, 109, 101], .str [97]], .str (numT (c : Int)), .int (c : Int)]) (.int t) = some v.d := fun hh => by
        rw [index_lst]
        exact e4
      have sv : ∀ hh, strV hh (.int (c : Int)) = some (.str (numT (c : Int))) := fun hh => strV_num ⟨by omega, by omega⟩ hh
      have s1 : setIx (h.set r o2) (.ref f) (.str [99, 111, 117, 110, 116]) v.d = some ((h.set r o2).set f (.dct (kvE (putE wCount v es)))) := setIx_w (hf1 o2) (by have := (Gt.ok_row hok).len; simp only [Gt.es] at this; omega)
      have hr2 : ((h.set r o2).set f (.dct (kvE (putE wCount v es))))[r]? = some o2 := by
        rw [List.getElem?_set_ne nfr]
        exact gS hr
      obtain ⟨u, o3, ho3, u0, u1, e5⟩ := r_take F n (h := (h.set r o2).set f (.dct (kvE (putE wCount v es)))) (r := r) (m := 7) hr2 ho2 (by decide) (by decide)
      rw [List.set_comm _ _ nfr, List.set_set] at e5
      have lf := gt_of hin'
      have hf3 : ((h.set r o3).set f (.dct (kvE (putE wCount v es))))[f]? = some (.dct (kvE (putE wCount v es))) := List.getElem?_set_self (by simpa using lf)
      have hkk : (getE wKids es).isSome := hyn
      have gv : getE wCount (putE wCount v es) = some v := by rw [getE_put, if_pos rfl]
      obtain ⟨R1, P1⟩ := bent_put (es := es) (y := .node k e f es ks) (v := v) (Gt.ok_row hok) rfl hkk hco' vc
      have fin : ∀ (es2 : Es) (b : Bool), PutOk f es2 (.node k e f es ks) → rightC es2 c = !b →
          ∃ x', Tree ((h.set r o3).set f (.dct (kvE es2))) w x' ∧ x'.dat = x.dat ∧ pagesL x'.nd = pagesL x.nd ∧ x'.nd.good = !b := fun es2 b hp hq => by
        obtain ⟨a1, a2, a3⟩ := tree_put (h' := (h.set r o3).set f (.dct (kvE es2))) (y := .node k e f es ks) T hy hp (by rw [List.getElem?_set_ne nfw, List.getElem?_set_ne nw]) (List.getElem?_set_self (by simpa using lf)) (fun z hz hzf => by
          have hzf' : z.f ≠ f := hzf
          show ((h.set r o3).set f (.dct (kvE es2)))[z.f]? = _
          rw [List.getElem?_set_ne (fun q => hzf' q.symm), List.getElem?_set_ne (fun q => (nf z hz).1 q.symm)])
        refine ⟨_, a1, a2, a3, ?_⟩
        show (x.put f es2).nd.good = _
        rw [good_put (T.fn) hy hc, hcc]
        exact hq
      by_cases hu : u = 0
      · subst hu
        have hP := bent_drop (es := es) (y := .node k e f es ks) (v := v) R1 rfl hkk
        obtain ⟨x', b1, b2, b3, b4⟩ := fin _ true hP (by rw [rightC_drop]; rfl)
        have dp : dpopD ((h.set r o3).set f (.dct (kvE (putE wCount v es)))) (.ref f) (.str [99, 111, 117, 110, 116]) = some (v.d, some (f, .dct (kvE ((putE wCount v es).filter fun e => !decide (e.1 = wCount))))) := by
          have lk : look (.inr [99, 111, 117, 110, 116]) (kvE (putE wCount v es)) = some v.d := by
            rw [look_kvE, show ([99, 111, 117, 110, 116] : Tx) = wCount from rfl, gv]
            rfl
          have dk : drop1 (.inr [99, 111, 117, 110, 116]) (kvE (putE wCount v es)) = kvE ((putE wCount v es).filter fun e => !decide (e.1 = wCount)) := drop_kvE wCount _
          simp only [dpopD, hf3, key1, Option.bind_some, lk, Option.map_some, dk]
        have isd : isDct ((h.set r o3).set f (.dct (kvE (putE wCount v es)))) (.ref f) = true := by simp only [isDct, asDct_ref hf3, Option.isSome_some]
        refine ⟨x', _, true, ?_, b1, b2, b3, b4⟩
        rw [← hX]
        simp [-List.map_cons, ne0, e1, i1, hfd, i2, sv, e3, i4, s1, e5, dp, isd, SR.out]
      · obtain ⟨x', b1, b2, b3, b4⟩ := fin _ (bentV (c : Int) v) P1 (by rw [rightC_put, bi, Bool.not_not])
        have i5 : index ((h.set r o3).set f (.dct (kvE (putE wCount v es)))) (.ref f) (.str [99, 111, 117, 110, 116]) = some v.d := by
          rw [index_refdw hf3, look_kvE, show ([99, 111, 117, 110, 116] : Tx) = wCount from rfl, gv]
          rfl
        have rv : ∀ hh, reprV hh v.d = some (.str (reprT v.d)) := fun hh => cell_repr vc hh
        have rc : ∀ hh, reprV hh (.int (c : Int)) = some (.str (reprT (.int (c : Int)))) := fun hh => cell_repr (v := .int (c : Int)) ⟨⟨by omega, by omega⟩, by simp [Vl.deep], by
          have := num1 (i := (c : Int)) (by omega) (by omega)
          simp only [Vl.tx]
          omega⟩ hh
        refine ⟨x', _, bentV (c : Int) v, ?_, b1, b2, b3, b4⟩
        rw [← hX]
        simp [-List.map_cons, ne0, e1, i1, hfd, i2, sv, e3, i4, s1, e5, hu, i5, rv, rc, SR.out, bentV]
end Lw
end
section
namespace Lw
open Fw Pl PySem
theorem Tree.app {h : Hh} {w : Nat} {x : Gt} (T : Tree h w x) (t : Hh) : Tree (h ++ t) w x := ⟨gA T.ns, fun y hy => gA (T.inH y hy), T.nd, T.len, T.ok, T.fn⟩
theorem bl_repr (b : Bool) (hh : Hh) : reprV hh (.bl b) = some (.str (reprT (.bl b))) := by
  have r : RF (.bl b) 0 1 := ⟨rfl, rfl, by simp [D.dat, PyData.depth], by simp [D.dat, PyData.bulk]⟩
  exact r.repr (by decide) (by decide) (fun _ => by simp) hh
def bookD (x : Gt) : D := bookB (bookG x)
theorem r_booked (F n : Nat) {h : Hh} {w : Nat} {x : Gt} (T : Tree h w x) (hF : 1000 < F) :
    run F (n + 2) ix__law_things [x.dat, .ref w] h = .ok (.ref h.length) (h ++ [.dct ((bookG x).th.map kv3)]) ∧
    run F (n + 2) ix_Book_init [.ref h.length, .tup [.str [116, 111], .int 1, .int 0], .fn empT] (h ++ [.dct ((bookG x).th.map kv3)]) = .ok (bookD x) (h ++ [.dct ((bookG x).th.map kv3)]) := by
  refine ⟨r_things F n T hF, ?_⟩
  have := r_bookI F (n + 1) (h := h ++ [.dct ((bookG x).th.map kv3)]) (i := h.length) (ks := (bookG x).th.map kv3) (top := .tup [.str [116, 111], .int 1, .int 0]) (by simp) (by simp [D.closed, closedAll]) (cl_kv3 _)
  exact this
theorem plain_law (ns : List Int) (hl : ns.length ≤ 63) : ∃ h', run 1000000 60 ix_law [.roi ns] [] = .ok (.bl true) h' := by
  have e00 := run_law 1000000 59
  rw [show (59 + 1 : Nat) = 60 from rfl] at e00
  rw [e00]
  have ll : line = 16777216 := Pl.line_eq
  simp [full, b_law, startD]
  rw [if_pos (by omega)]
  simp
  generalize hR : forL _ _ _ _ = rr
  obtain ⟨σ, h2, rfl, -, w1, w2, w3, w4, w5, w6, w7, w8, w9, w10, rfl⟩ := for_invLR hR (fun xs σ h => (∀ x ∈ xs, ∃ k : Nat, x = .int k ∧ k ≤ 63) ∧ ∃ w1 w2 w3 w4 w5 w6 w7 w8 w9 w10 : Option D, σ = [some (.roi ns), w1, w2, w3, w4, w5, w6, w7, w8, w9, w10]) (by
    rintro x xs _ h ⟨hx, w1, w2, w3, w4, w5, w6, w7, w8, w9, w10, rfl⟩
    obtain ⟨k, rfl, hk⟩ := hx x List.mem_cons_self
    obtain ⟨o, ho, e1⟩ := x_room 1000000 58 ns k h hk
    have g0 : (h ++ [o])[h.length]? = some o := by simp
    have gl : (h ++ [o]).length = h.length + 1 := by simp
    generalize hpo : h.length = po at e1 g0 gl
    generalize hH0 : h ++ [o] = H0 at e1 g0 gl
    obtain ⟨x, H1, o1, e2, T1, hco, g1, ho1, hnf, hl1⟩ := r_grown 1000000 51 g0 ho
    obtain ⟨e3, e4⟩ := r_booked 1000000 57 T1 (by omega)
    have T2 := T1.app [.dct ((bookG x).th.map kv3)]
    have g2 : (H1 ++ [O.dct ((bookG x).th.map kv3)])[po]? = some o1 := gA g1
    generalize hH2 : H1 ++ [O.dct ((bookG x).th.map kv3)] = H2 at e3 e4 T2 g2
    obtain ⟨t, e5⟩ := r_leaves 1000000 x 21 38 H2 (.dct []) [] T2.inH T2.ok (.inl rfl) ⟨by simp, fun e he => by cases he⟩ T2.len (by omega)
    rw [lv_pagesL T2.ok] at e5
    have T3 := T2.app t
    have g3 : (H2 ++ t)[po]? = some o1 := gA g2
    generalize hH3 : H2 ++ t = H3 at e5 T3 g3
    have BG := book_good T3
    have TB := tree_book T3
    have p1 := fun hh => r_pages_full 1000000 48 BG TB (by omega) hh
    have c1 := fun hh => r_are_counted (F := 1000000) (n := 48) BG TB (by omega) hh
    have gd : x.nd.good = true := by
      rw [good_all]
      exact List.all_eq_true.mpr fun y hy => cok_right (hco y hy)
    rw [gd] at c1
    have c1' : ∀ hh, run 1000000 59 ix_are_counted [bookD x] hh = .ok (.bl true) hh := c1
    have p1' : ∀ hh : Hh, run 1000000 59 ix_pages_full [bookD x] hh = .ok (.ref hh.length) (hh ++ [.lst (pagesL x.nd)]) := p1
    have rp := fun hh => pages_repr (hh := hh) T3
    have plen : (pagesL x.nd).length < 16777216 := by
      have a := lv_len x []
      rw [lv_pagesL T3.ok] at a
      have := T3.len
      omega
    generalize hB : forB _ _ _ _ _ = rb
    simp only [bindG, forB_eq, forB1_ok] at hB
    simp [e1, e2, e3, e4, kd_Book_init_root, e5] at hB
    generalize hL : forL _ _ _ _ = rl at hB
    obtain ⟨σ3, H4, rfl, t4, a5, a10, rfl, rfl⟩ := for_invR hL (fun σ hh => ∃ t a5 a10, σ = [some (.roi ns), some (.int (k : Int)), some (.ref po), some (bookD x), some (.lst (pagesL x.nd)), a5, w6, w7, some x.dat, some (.ref (H0.length + 1)), a10] ∧ hh = H3 ++ t) (by
      rintro y σ hh ⟨t, a5, a10, rfl, rfl⟩
      have asc : ∀ o : O, H3 ++ (t ++ [o]) = (H3 ++ t) ++ [o] := fun o => (List.append_assoc _ _ _).symm
      suffices hs : ∀ G : Hh, ∃ σ' , forB1 (bindG [some (.roi ns), some (.int (k : Int)), some (.ref po), some (bookD x), some (.lst (pagesL x.nd)), a5, w6, w7, some x.dat, some (.ref (H0.length + 1)), a10] (.nm 5) y) _ G = .nx σ' (G ++ [.lst (pagesL x.nd ++ [.non])]) ∧ ∃ a5 a10, σ' = [some (.roi ns), some (.int (k : Int)), some (.ref po), some (bookD x), some (.lst (pagesL x.nd)), a5, w6, w7, some x.dat, some (.ref (H0.length + 1)), a10] by
        obtain ⟨σ', q1, a5, a10, rfl⟩ := hs (H3 ++ t)
        exact ⟨_, H3 ++ (t ++ [.lst (pagesL x.nd ++ [.non])]), by rw [asc, forB_eq]; exact q1, _, a5, a10, rfl, rfl⟩
      intro G
      have g := app_get0 G [] (O.lst (pagesL x.nd))
      have s := app_set0 G [] (O.lst (pagesL x.nd)) (O.lst (pagesL x.nd ++ [.non]))
      have rO := pages_reprO T3 g
      have ap := appD_at (d := .non) g plen
      have ci : ∀ hh : Hh, cmpop hh .isnt (.bl true) (.bl true) = some false := fun _ => rfl
      refine ⟨_, ?_, some y, some (.ref G.length), rfl⟩
      simp [p1', rO, rp, c1', g, ap, ci]) ⟨[], _, _, rfl, by simp⟩
    have T4 := T3.app t4
    have g4 : (H3 ++ t4)[po]? = some o1 := gA g3
    generalize hH4 : H3 ++ t4 = H4 at hB T4 g4
    obtain ⟨x', H5, b, e6, T5, d5, p5, q5⟩ := r_bent 1000000 57 g4 ho1 T4 hco (by omega) (fun y hy => by have := hnf y hy; omega) (by omega)
    obtain ⟨e7, e8⟩ := r_booked 1000000 57 T5 (by omega)
    rw [d5] at e7
    have BG2 := book_good T5
    have TB2 := tree_book T5
    have p2 : ∀ hh : Hh, run 1000000 59 ix_pages [bookD x'] hh = .ok (.lst (pagesL x'.nd)) hh := fun hh => r_pages 1000000 48 BG2 TB2 (by omega) hh
    have c2 : ∀ hh : Hh, run 1000000 59 ix_are_counted [bookD x'] hh = .ok (.bl x'.nd.good) hh := fun hh => r_are_counted (F := 1000000) (n := 48) BG2 TB2 (by omega) hh
    rw [p5] at p2
    rw [q5] at c2
    simp [e6, e7, e8, kd_Book_init_root, c2, p2, bl_repr, rp] at hB
    subst hB
    exact ⟨_, _, rfl, fun z hz => hx z (List.mem_cons_of_mem _ hz), _, _, _, _, _, _, _, _, _, _, rfl⟩) ⟨by
      intro x hx
      simp only [rangeD, List.mem_map, List.mem_range] at hx
      obtain ⟨i, hi, rfl⟩ := hx
      exact ⟨i, by simp, by omega⟩, none, none, none, none, none, none, none, none, none, none, rfl⟩
  simp [SR.out]
end Lw
end
set_option maxRecDepth 100000 in
theorem PySem.Challenge.cw_appendedbook_k66_pages_told_holds : PySem.Challenge.rw_appendedbook_k66_pages_told.Holds :=
  holds66 Lw.plain_law
